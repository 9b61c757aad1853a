import PyProof.Rows.All
import KE.GoesEnum
import Wide.All
import OpenK.AllK
import Wide.FinOn
import KE.KExcIs
import HandS.ForMost
import HandS.IsInst
import HandS.Flow
import HandS.Evl
import HandS.Walk
import HandS.Replace
import HandS.Deep
import HandS.SortKw
import HandS.Wide
import HandS.ExcOwn
import HandS.WordsExc
import HandS.TryMany
import HandS.More
import KE.DatumOrd
import HandS.DeepEq
import KE.KEqDict
import HandS.Exc
import HandS.ExcField
import HandS.ExcInit
import HandS.ExcValue
import HandS.Defaults
import HandS.ListItems
import HandS.TupAny
import HandS.SetKeys
import HandS.Style
import HandS.Finally
import HandS.SuiteRaise
import HandS.Head0
import HandS.Head1
import HandS.Head2
import HandS.HeadEnd
import HandS.HeadHook1
import HandS.HeadHook2
import HandS.HeadHook3
import HandS.HeadHook4
import PySem.Challenge.RW_beatrows_k48_alike_but_for_one_thing
set_option Elab.async false
set_option linter.all false
set_option maxRecDepth 100000
set_option maxHeartbeats 4000000
/-! ### own small rules -/
namespace L2
open PySem PySem.Spec PyProof.Rows
section
variable {X : Cx}
theorem pe_gcst {x : Str} {v : V} {pos : Pos} (hg : Gl X x) (h : ∃ u, X.mg x = some u ∧ RelV v u) (hd : (x == ("__debug__" : Str)) = false := by decide) : PE X (.Name x pos) (tC v) :=
  let ⟨_, hm, r⟩ := h
  pe_glob hg hm r hd
/-- divmod by any divisor but nought, below 2^30 -/
theorem call_divmodN : CallR X (.builtin "divmod") (fun xs H Q => ∃ i j : Int, xs = [.int i, .int j] ∧ CDivN i j ∧ ∀ p, H p = none → Q (.ref p) (upd H p (.tup [.int (i.fdiv j), .int (i.fmod j)]))) := by
  intro pins s σ H xs us Q I r h
  obtain ⟨i, j, rfl, ⟨h1, h2⟩, q⟩ := h
  obtain ⟨u, w', rfl, ⟨t, rfl⟩, ⟨t', rfl⟩⟩ := vals2 r
  refine divmod_int h1 ?_ (.inl (PyProof.noPylong_small h2))
  have hn := I.hok.fresh (Nat.le_refl s.heap.objs.size)
  refine ⟨.ref s.heap.objs.size, upd H s.heap.objs.size (.tup [.int (i.fdiv j), .int (i.fmod j)]), ?_, rfl, q _ hn⟩
  refine I.laid (fun b o e => Heap.get?_push_of_some _ e) (Nat.le_refl _) ?_
  refine ⟨by show 2 ≤ sizeLine; decide, [.int (i.fdiv j) s.toks, .int (i.fmod j) (s.toks + 1)], ?_, ?_⟩
  · exact .cons ⟨_, rfl⟩ (.cons ⟨_, rfl⟩ .nil)
  · exact ⟨_, Heap.get?_push_size s.heap rfl, rfl, 0, rfl⟩
end
/-- a new tuple, a new list of these, all else kept -/
def RetT (xs : List V) (H : Hp) (Q : VK) : Prop := ∀ p H2, H p = none → Evl.Ex H H2 → H2 p = some (.tup xs) → Q (.ref p) H2
def RetL (xs : List V) (H : Hp) (Q : VK) : Prop := ∀ p H2, H p = none → Evl.Ex H H2 → H2 p = some (.lst xs) → Q (.ref p) H2
def RetV (v : V) (H : Hp) (Q : VK) : Prop := ∀ H2, Evl.Ex H H2 → Q v H2
theorem RetT.up {xs : List V} {H0 H : Hp} {Q : VK} (k : RetT xs H0 Q) (e : Evl.Ex H0 H) : RetT xs H Q := fun p H2 hp e2 h2 => k p H2 (Evl.fresh_back e hp) (e.trans e2) h2
theorem RetL.up {xs : List V} {H0 H : Hp} {Q : VK} (k : RetL xs H0 Q) (e : Evl.Ex H0 H) : RetL xs H Q := fun p H2 hp e2 h2 => k p H2 (Evl.fresh_back e hp) (e.trans e2) h2
theorem RetV.up {v : V} {H0 H : Hp} {Q : VK} (k : RetV v H0 Q) (e : Evl.Ex H0 H) : RetV v H Q := fun H2 e2 => k H2 (e.trans e2)
def NewT (xs : List V) (H : Hp) (Q : VK) : Prop := xs.length ≤ sizeLine ∧ ∀ p, H p = none → Q (.ref p) (upd H p (.tup xs))
def NewL (xs : List V) (H : Hp) (Q : VK) : Prop := xs.length ≤ sizeLine ∧ ∀ p, H p = none → Q (.ref p) (upd H p (.lst xs))
theorem newT {xs : List V} {H : Hp} {Q : VK} (k : RetT xs H Q) (hz : xs.length ≤ 100000 := by exact Nat.le_of_ble_eq_true rfl) : NewT xs H Q := ⟨Evl.sz_of hz, fun p hp => k p _ hp (Evl.Ex.new hp) upd_same⟩
theorem newL {xs : List V} {H : Hp} {Q : VK} (k : RetL xs H Q) (hz : xs.length ≤ 100000 := by exact Nat.le_of_ble_eq_true rfl) : NewL xs H Q := ⟨Evl.sz_of hz, fun p hp => k p _ hp (Evl.Ex.new hp) upd_same⟩
theorem if_tt {c : Bool} {A B : Prop} (hc : c = true) (h : A) : if c = true then A else B := by rw [if_pos hc]; exact h
theorem if_ff {c : Bool} {A B : Prop} (hc : c = false) (h : B) : if c = true then A else B := by rw [hc]; exact iteF h
theorem if_nt {A B : Prop} (h : B) : if (!true) = true then A else B := iteF h
theorem if_nf {A B : Prop} (h : A) : if (!false) = true then A else B := iteT h
theorem if_cs {c : Bool} {A B : Prop} (h1 : c = true → A) (h2 : c = false → B) : if c = true then A else B := by
  cases c with
  | true => exact iteT (h1 rfl)
  | false => exact iteF (h2 rfl)
theorem kb_ii : kitB "int" "int" = some true := by decide +kernel
theorem kb_bi : kitB "bool" "int" = some true := by decide +kernel
theorem kb_ib : kitB "int" "bool" = some false := by decide +kernel
theorem kb_bb : kitB "bool" "bool" = some true := by decide +kernel
theorem ty_int {K : PySem.W.Frag} {H : Hp} (i : Int) : TyX K H (.int i) (.type "int") := .base (.int i)
theorem ty_bl {K : PySem.W.Frag} {H : Hp} (b : Bool) : TyX K H (.bl b) (.type "bool") := .base (.bl b)
theorem ty_str {K : PySem.W.Frag} {H : Hp} (b : Str) : TyX K H (.str b) (.type "str") := .base (.str b)
theorem ty_non {K : PySem.W.Frag} {H : Hp} : TyX K H .non (.type "NoneType") := .base .non
theorem ty_tup {K : PySem.W.Frag} {H : Hp} {a : Addr} {xs : List V} (h : H a = some (.tup xs)) : TyX K H (.ref a) (.type "tuple") := .base (.tup h)
theorem ty_lst {K : PySem.W.Frag} {H : Hp} {a : Addr} {xs : List V} (h : H a = some (.lst xs)) : TyX K H (.ref a) (.type "list") := .base (.lst h)
/-- isinstance of a thing of a built-in type -/
theorem isi {K : PySem.W.Frag} {H : Hp} {Q : VK} {x : V} {a b : String} {r : Bool} (h : TyX K H x (.type a)) (e : kitB a b = some r) (q : Q (.bl r) H) : rIsi K [x, .ty b] H Q :=
  ⟨x, .ty b, .type a, .type b, r, rfl, .ty b, h, kit_ty e, q⟩
end L2

/-! ### readings, one step each (the goal's head tells which) -/
namespace L2
open PySem PySem.Spec PyProof.Rows
section
variable {K : PySem.W.Frag} {σ : St} {H : Hp} {Q : VK} {B : Bool → Hp → Prop} {ta tb tc te : TE} {t u : TT} {tA : TA} {D : Ends} {s1 s2 : TS} {g : TG} {gs : TGs} {v : V} {r : R2}
theorem c_var {i : Nat} (h : σ[i]? = some (some v)) (q : Q v H) : tVar i σ H Q := ⟨v, h, q⟩
theorem c_c (q : Q v H) : tC v σ H Q := q
theorem c_op (h : ta σ H fun x H1 => tb σ H1 fun y H2 => r x y H2 Q) : tOp r ta tb σ H Q := h
theorem c_un {f : V → Hp → VK → Prop} (h : ta σ H fun x H1 => f x H1 Q) : tUn f ta σ H Q := h
theorem c_test (h : te σ H fun x H1 => ∃ k, x = .bl k ∧ B k H1) : tTest te σ H B := h
theorem c_b (h : te σ H fun x H1 => ∃ k, x = .bl k ∧ B k H1) : tB te σ H B := h
theorem c_and (h : t σ H fun c H1 => if c = true then u σ H1 B else B false H1) : tAnd t u σ H B := h
theorem c_or (h : t σ H fun c H1 => if c = true then B true H1 else u σ H1 B) : tOr t u σ H B := h
theorem c_not (h : t σ H fun c H1 => B (!c) H1) : tNot t σ H B := h
theorem c_andV (h : ta σ H fun x H1 => ∃ c, x = .bl c ∧ if c = true then tb σ H1 Q else Q (.bl false) H1) : tAndV ta tb σ H Q := h
theorem c_orV (h : ta σ H fun x H1 => ∃ c, x = .bl c ∧ if c = true then Q (.bl true) H1 else tb σ H1 Q) : tOrV ta tb σ H Q := h
theorem c_notV (h : ta σ H fun x H1 => ∃ c, x = .bl c ∧ Q (.bl (!c)) H1) : tNotV ta σ H Q := h
theorem c_if (h : t σ H fun c H1 => if c = true then ta σ H1 Q else tb σ H1 Q) : tIf t ta tb σ H Q := h
theorem c_orT (h : ta σ H fun x H1 => ∃ k, TruV K x H1 k ∧ if k = true then Q x H1 else tb σ H1 Q) : tOrT K ta tb σ H Q := h
theorem c_andT (h : ta σ H fun x H1 => ∃ k, TruV K x H1 k ∧ if k = true then tb σ H1 Q else Q x H1) : tAndT K ta tb σ H Q := h
theorem c_notT (h : ta σ H fun x H1 => ∃ k, TruV K x H1 k ∧ Q (.bl (!k)) H1) : tNotT K ta σ H Q := h
theorem c_yes (h : B true H) : tYes σ H B := h
theorem c_nil {q : List V → Hp → Prop} (h : q [] H) : tNil σ H q := h
theorem c_cons {q : List V → Hp → Prop} (h : ta σ H fun x H1 => tA σ H1 fun xs H2 => q (x :: xs) H2) : tCons ta tA σ H q := h
theorem c_tup (h : tA σ H fun xs H1 => NewT xs H1 Q) : tTup tA σ H Q := h
theorem c_lst (h : tA σ H fun xs H1 => NewL xs H1 Q) : tLst tA σ H Q := h
theorem c_call {sp : Sp} {E : XK} (h : tA σ H fun vs H1 => sp vs H1 Q E) : tCall sp [] E tA σ H Q := by
  show tA σ H fun vs H1 => sp (vs ++ []) H1 Q E
  simp only [List.append_nil]
  exact h
theorem c_cb {f : List V → Hp → VK → Prop} (h : tA σ H fun vs H1 => f vs H1 Q) : tCB f tA σ H Q := h
theorem c_sl {f : V → Option Int → Option Int → Hp → VK → Prop} {tl th : TO} (h : te σ H fun x H1 => tl σ H1 fun l H2 => th σ H2 fun u H3 => f x l u H3 Q) : tSl f te tl th σ H Q := h
theorem c_noPart {q : Option Int → Hp → Prop} (h : q none H) : tNoPart σ H q := h
theorem c_part {q : Option Int → Hp → Prop} (h : te σ H fun x H1 => ∃ i, x = .int i ∧ q (some i) H1) : tPart te σ H q := h
theorem c_bm {T : String} {f : V → List V → Hp → VK → Prop} (h : te σ H fun x H1 => tyV K T x H1 ∧ tA σ H1 fun xs H2 => f x xs H2 Q) : tBM K T f te tA σ H Q := h
theorem c_bm0 {T : String} {f : V → List V → Hp → VK → Prop} (h : te σ H fun x H1 => tyV K T x H1 ∧ f x [] H1 Q) : tBM0 K T f te σ H Q := h
theorem c_m0 {f : V → List V → Hp → VK → Prop} (h : te σ H fun x H1 => (∃ a, x = .str a) ∧ f x [] H1 Q) : tM0 f te σ H Q := h
theorem c_m1 {f : V → List V → Hp → VK → Prop} (h : ta σ H fun x H1 => (∃ a, x = .str a) ∧ tb σ H1 fun y H2 => f x [y] H2 Q) : tM1 f ta tb σ H Q := h
theorem c_chain {r' : R2} (h : ta σ H fun x H1 => tb σ H1 fun y H2 => r x y H2 fun z H3 => ∃ k, z = .bl k ∧ (if k = true then tc σ H3 fun w' H4 => r' y w' H4 Q else Q (.bl false) H3)) : tChain r r' ta tb tc σ H Q := h
/-! statements -/
theorem c_next (h : D.nx σ H) : tNext D σ H := h
theorem c_seq (h : s1 { D with nx := s2 D } σ H) : tSeq s1 s2 D σ H := h
theorem c_asg (h : te σ H fun x H1 => g x σ H1 D.nx) : tAsg te g D σ H := h
theorem c_ret (h : te σ H D.rt) : tRet te D σ H := h
theorem c_retN (h : D.rt .non H) : tRetN D σ H := h
theorem c_ifS (h : t σ H fun b H1 => if b = true then s1 D σ H1 else s2 D σ H1) : tIfS t s1 s2 D σ H := h
theorem c_drop (h : te σ H fun _ H1 => D.nx σ H1) : tDrop te D σ H := h
theorem c_break (h : D.bk σ H) : tBreak D σ H := h
theorem c_cont (h : D.ct σ H) : tCont D σ H := h
theorem c_nx {nx : St → Hp → Prop} {rt : VK} {bk ct : St → Hp → Prop} (h : nx σ H) : Ends.nx ⟨nx, rt, bk, ct⟩ σ H := h
theorem c_rt {nx : St → Hp → Prop} {rt : VK} {bk ct : St → Hp → Prop} (h : rt v H) : Ends.rt ⟨nx, rt, bk, ct⟩ v H := h
theorem c_bk {nx : St → Hp → Prop} {rt : VK} {bk ct : St → Hp → Prop} (h : bk σ H) : Ends.bk ⟨nx, rt, bk, ct⟩ σ H := h
theorem c_ct {nx : St → Hp → Prop} {rt : VK} {bk ct : St → Hp → Prop} (h : ct σ H) : Ends.ct ⟨nx, rt, bk, ct⟩ σ H := h
/-! as they stand (a cheap look ahead of c_nx ..) -/
theorem d_nx (h : D.nx σ H) : D.nx σ H := h
theorem d_bk (h : D.bk σ H) : D.bk σ H := h
theorem d_ct (h : D.ct σ H) : D.ct σ H := h
theorem d_rt (h : D.rt v H) : D.rt v H := h
theorem c_gName {i : Nat} {q : St → Hp → Prop} (h : q (σ.set i (some v)) H) : gName i v σ H q := h
theorem c_gTup {n : Nat} {a : Addr} {xs : List V} {q : St → Hp → Prop} (hs : SqT K H a xs) (hl : xs.length = n) (h : gs xs σ H q) : gTup K n gs (.ref a) σ H q := ⟨a, xs, rfl, hs, hl, h⟩
theorem c_gCons {vs : List V} {q : St → Hp → Prop} (h : g v σ H fun σ' H' => gs vs σ' H' q) : gCons g gs (v :: vs) σ H q := ⟨v, vs, rfl, h⟩
theorem c_gNil {q : St → Hp → Prop} (h : q σ H) : gNil [] σ H q := ⟨rfl, h⟩
theorem c_gSub {to ti : TE} {f : TSet} {q : St → Hp → Prop} (h : to σ H fun o H1 => ti σ H1 fun i H2 => f o i v H2 fun H3 => q σ H3) : gSub to ti f v σ H q := h
theorem c_cut {M : St → Hp → Prop} (h : s1 { D with nx := M } σ H) (k : ∀ σ' H', M σ' H' → s2 D σ' H') : Evl.tCut s1 s2 D σ H := ⟨M, h, k⟩
/-! operations on values -/
theorem c_I0 {f : Int → Int → V} {i j : Int} (q : Q (f i j) H) : rI0 f (.int i) (.int j) H Q := ⟨i, j, rfl, rfl, q⟩
theorem c_I {C : Int → Int → Prop} {f : Int → Int → V} {i j : Int} (hc : C i j) (q : Q (f i j) H) : rI C f (.int i) (.int j) H Q := ⟨i, j, rfl, rfl, hc, q⟩
theorem c_U {f : Int → V} {i : Int} (q : Q (f i) H) : rU f (.int i) H Q := ⟨i, rfl, q⟩
theorem c_eq {x y : V} (h : scal x y = true) (q : Q (.bl (decide (x = y))) H) : rEq x y H Q := ⟨h, q⟩
theorem c_ne {x y : V} (h : scal x y = true) (q : Q (.bl (!decide (x = y))) H) : rNe x y H Q := ⟨h, q⟩
theorem c_ixL {p : Addr} {xs : List V} {i : Int} (h : SqL K H p xs) (ha : atI xs i = some v) (q : Q v H) : rIxL K (.ref p) (.int i) H Q := ⟨p, xs, i, v, rfl, rfl, h, ha, q⟩
theorem c_ixT {p : Addr} {xs : List V} {i : Int} (h : SqT K H p xs) (ha : atI xs i = some v) (q : Q v H) : rIxT K (.ref p) (.int i) H Q := ⟨p, xs, i, v, rfl, rfl, h, ha, q⟩
theorem c_setL {p : Addr} {xs : List V} {k : Int} {j : Nat} {q : Hp → Prop} (h : H p = some (.lst xs)) (hj : ixN xs.length k = some j) (h2 : q (upd H p (.lst (xs.set j v)))) : rSetL (.ref p) (.int k) v H q := ⟨p, xs, k, j, rfl, rfl, h, hj, h2⟩
theorem c_in {x : V} {p : Addr} {xs : List V} (h : SqL K H p xs ∨ SqT K H p xs) (hx : flatV x = true) (ha : xs.all flatV = true) (q : Q (.bl (inV x xs)) H) : rIn K false x (.ref p) H Q := ⟨p, xs, rfl, h, hx, ha, q⟩
theorem c_notin {x : V} {p : Addr} {xs : List V} (h : SqL K H p xs ∨ SqT K H p xs) (hx : flatV x = true) (ha : xs.all flatV = true) (q : Q (.bl (!inV x xs)) H) : rIn K true x (.ref p) H Q := ⟨p, xs, rfl, h, hx, ha, q⟩
theorem c_cat {l b : Addr} {xs zs : List V} (h : H l = some (.lst xs)) (h' : H b = some (.lst zs)) (k : RetL (xs ++ zs) H Q) (hz : xs.length + zs.length ≤ 100000 := by exact Nat.le_of_ble_eq_true rfl) : rCat (.ref l) (.ref b) H Q :=
  ⟨l, b, xs, zs, rfl, rfl, h, h', Evl.sz_of hz, fun p hp => k p _ hp (Evl.Ex.new hp) upd_same⟩
end
end L2

/-! ### == of tuples and lists of flat things -/
namespace L2
open PySem PySem.Spec PyProof.Rows
def dOf : V → PyData
  | .non => .none
  | .bl b => .bool b
  | .int i => .int i
  | .str x => .str x
  | _ => .none
/-- flat, its signs within the line -/
def okV : V → Bool
  | .non => true
  | .bl _ => true
  | .int _ => true
  | .str x => PyData.strOk x
  | _ => false
theorem okV_flat {v : V} (h : okV v = true) : flatV v = true := by
  cases v <;> first | rfl | exact absurd h Bool.false_ne_true
theorem okL_flat {xs : List V} (h : xs.all okV = true) : xs.all flatV = true := by
  rw [List.all_eq_true] at h ⊢
  exact fun x hx => okV_flat (h x hx)
def eqL : List V → List V → Bool
  | [], [] => true
  | x :: xs, y :: ys => eqV x y && eqL xs ys
  | _, _ => false
theorem dp_flat {K : PySem.W.Frag} {H : Hp} {v : V} (h : flatV v = true) : Dp K H v (dOf v) := by
  cases v with
  | non => exact .non
  | bl b => exact .bl b
  | int i => exact .int i
  | str x => exact .str x
  | _ => exact absurd h Bool.false_ne_true
theorem dpAll_flat {K : PySem.W.Frag} {H : Hp} : ∀ {xs : List V}, xs.all flatV = true → DpAll K H xs (xs.map dOf)
  | [], _ => .nil
  | x :: xs, h => by
    rw [List.all_cons, Bool.and_eq_true] at h
    exact .cons (dp_flat h.1) (dpAll_flat h.2)
theorem eqv_flat {a b : V} (ha : flatV a = true) (hb : flatV b = true) : PyData.eqv (dOf a) (dOf b) = eqV a b := by
  cases a <;> first | exact absurd ha Bool.false_ne_true | (cases b <;> first | exact absurd hb Bool.false_ne_true | simp [dOf, PyData.eqv, eqV])
theorem eqvAll_flat : ∀ {xs ys : List V}, xs.all flatV = true → ys.all flatV = true → PyData.eqvAll (xs.map dOf) (ys.map dOf) = eqL xs ys
  | [], [], _, _ => by simp [PyData.eqvAll, eqL]
  | [], _ :: _, _, _ => by simp [PyData.eqvAll, eqL]
  | _ :: _, [], _, _ => by simp [PyData.eqvAll, eqL]
  | x :: xs, y :: ys, h, h' => by
    rw [List.all_cons, Bool.and_eq_true] at h h'
    rw [List.map_cons, List.map_cons, PyData.eqvAll, eqv_flat h.1 h'.1, eqvAll_flat h.2 h'.2] <;> rfl
theorem flat_lay {v : V} (ho : okV v = true) : (dOf v).canLay0 = true ∧ (dOf v).depth ≤ 1 := by
  cases v <;> first | exact absurd ho Bool.false_ne_true | (simp [okV] at ho; simp [dOf, PyData.canLay0, PyData.depth, ho]) | simp [dOf, PyData.canLay0, PyData.depth]
theorem flat_layAll : ∀ {xs : List V}, xs.all okV = true → PyData.canLayAll0 (xs.map dOf) = true ∧ PyData.depthAll (xs.map dOf) ≤ 1
  | [], _ => by simp [PyData.canLayAll0, PyData.depthAll]
  | x :: xs, ho => by
    rw [List.all_cons, Bool.and_eq_true] at ho
    have h := flat_lay (v := x) ho.1
    have h2 := flat_layAll (xs := xs) ho.2
    rw [List.map_cons, PyData.canLayAll0, PyData.depthAll, h.1, h2.1]
    refine ⟨rfl, ?_⟩
    have := h.2
    have := h2.2
    omega
theorem shaped_tup {xs : List V} (ho : xs.all okV = true) : SeqAt.shaped (.tuple (xs.map dOf)) = true := by
  have h := flat_layAll (xs := xs) ho
  have h2 := h.2
  unfold SeqAt.shaped
  rw [PyData.canLay0, PyData.depth, h.1, Bool.true_and, decide_eq_true_eq]
  omega
theorem shaped_lst {xs : List V} (ho : xs.all okV = true) : SeqAt.shaped (.list (xs.map dOf)) = true := by
  have h := flat_layAll (xs := xs) ho
  have h2 := h.2
  unfold SeqAt.shaped
  rw [PyData.canLay0, PyData.depth, h.1, Bool.true_and, decide_eq_true_eq]
  omega
section
variable {K : PySem.W.Frag} {H : Hp} {Q : VK} {p q : Addr} {xs ys : List V}
theorem c_eqT (h : SqT K H p xs) (h' : SqT K H q ys) (f : xs.all okV = true) (f' : ys.all okV = true) (k : Q (.bl (eqL xs ys)) H) : rEqD K (.ref p) (.ref q) H Q :=
  ⟨_, _, .tup h (dpAll_flat (okL_flat f)), .tup h' (dpAll_flat (okL_flat f')), shaped_tup f, shaped_tup f', by rw [PyData.eqv, eqvAll_flat (okL_flat f) (okL_flat f')]; exact k⟩
theorem c_neT (h : SqT K H p xs) (h' : SqT K H q ys) (f : xs.all okV = true) (f' : ys.all okV = true) (k : Q (.bl (!eqL xs ys)) H) : rNeD K (.ref p) (.ref q) H Q :=
  ⟨_, _, .tup h (dpAll_flat (okL_flat f)), .tup h' (dpAll_flat (okL_flat f')), shaped_tup f, shaped_tup f', by rw [PyData.eqv, eqvAll_flat (okL_flat f) (okL_flat f')]; exact k⟩
theorem c_eqLs (h : SqL K H p xs) (h' : SqL K H q ys) (f : xs.all okV = true) (f' : ys.all okV = true) (k : Q (.bl (eqL xs ys)) H) : rEqD K (.ref p) (.ref q) H Q :=
  ⟨_, _, .lst h (dpAll_flat (okL_flat f)), .lst h' (dpAll_flat (okL_flat f')), shaped_lst f, shaped_lst f', by rw [PyData.eqv, eqvAll_flat (okL_flat f) (okL_flat f')]; exact k⟩
theorem c_neLs (h : SqL K H p xs) (h' : SqL K H q ys) (f : xs.all okV = true) (f' : ys.all okV = true) (k : Q (.bl (!eqL xs ys)) H) : rNeD K (.ref p) (.ref q) H Q :=
  ⟨_, _, .lst h (dpAll_flat (okL_flat f)), .lst h' (dpAll_flat (okL_flat f')), shaped_lst f, shaped_lst f', by rw [PyData.eqv, eqvAll_flat (okL_flat f) (okL_flat f')]; exact k⟩
theorem eqV_refl {v : V} (h : flatV v = true) : eqV v v = true := by
  cases v <;> first | exact absurd h Bool.false_ne_true | simp [eqV]
theorem eqL_refl : ∀ {xs : List V}, xs.all flatV = true → eqL xs xs = true
  | [], _ => rfl
  | x :: xs, h => by
    rw [List.all_cons, Bool.and_eq_true] at h
    rw [eqL, eqV_refl h.1, eqL_refl h.2] <;> rfl
end
/-! ### the law's box -/
def BoxAt (H : Hp) (b : Addr) : Prop := ∃ x y z : Int, (0 ≤ x ∧ 0 ≤ y ∧ y < 4294967296) ∧ H b = some (.lst [.int x, .int y, .int z])
/-- all but b is kept -/
def ExB (b : Addr) (H H' : Hp) : Prop := ∀ a o, a ≠ b → H a = some o → H' a = some o
theorem ExB.refl (b : Addr) (H : Hp) : ExB b H H := fun _ _ _ h => h
theorem ExB.trans {b : Addr} {H H1 H2 : Hp} (e : ExB b H H1) (e2 : ExB b H1 H2) : ExB b H H2 := fun a o n h => e2 a o n (e a o n h)
theorem ExB.ex {b : Addr} {H H1 H2 : Hp} (e : ExB b H H1) (e2 : Evl.Ex H1 H2) : ExB b H H2 := fun a o n h => e2 a o (e a o n h)
theorem ExB.of {b : Addr} {H H1 : Hp} (e : Evl.Ex H H1) : ExB b H H1 := fun a o _ h => e a o h
theorem ExB.upd {b : Addr} {H : Hp} {o : HO} : ExB b H (upd H b o) := fun a u n h => by rw [upd_ne n]; exact h
theorem BoxAt.ex {H H' : Hp} {b : Addr} (h : BoxAt H b) (e : Evl.Ex H H') : BoxAt H' b := let ⟨x, y, z, p, q⟩ := h; ⟨x, y, z, p, e _ _ q⟩
/-- what did not stand before b was made is kept through ExB b -/
theorem ExB.tot {b : Addr} {H0 H H' : Hp} (e : Evl.Ex H0 H) (n : H0 b = none) (e2 : ExB b H H') : Evl.Ex H0 H' := fun a o h => e2 a o (ne_of_none h n) (e a o h)
theorem ExB.lst {K : PySem.W.Frag} {b a : Addr} {H H' : Hp} {xs : List V} (e : ExB b H H') (n : a ≠ b) (h : SqL K H a xs) : SqL K H' a xs := by
  rcases h with (h | ⟨o, h⟩) | h
  · exact .inl (.inl (e _ _ n h))
  · exact .inl (.inr ⟨o, e _ _ n h⟩)
  · exact .inr h
end L2
namespace L2
open PySem PySem.Spec PyProof.Rows
theorem shaped_flat {v : V} (h : okV v = true) : SeqAt.shaped (dOf v) = true := by
  have q := flat_lay h
  unfold SeqAt.shaped
  rw [q.1, Bool.true_and, decide_eq_true_eq]
  have := q.2
  omega
theorem c_eqF {K : PySem.W.Frag} {H : Hp} {Q : VK} {x y : V} (f : okV x = true) (f' : okV y = true) (k : Q (.bl (eqV x y)) H) : rEqD K x y H Q :=
  ⟨_, _, dp_flat (okV_flat f), dp_flat (okV_flat f'), shaped_flat f, shaped_flat f', by rw [eqv_flat (okV_flat f) (okV_flat f')]; exact k⟩
theorem c_neF {K : PySem.W.Frag} {H : Hp} {Q : VK} {x y : V} (f : okV x = true) (f' : okV y = true) (k : Q (.bl (!eqV x y)) H) : rNeD K x y H Q :=
  ⟨_, _, dp_flat (okV_flat f), dp_flat (okV_flat f'), shaped_flat f, shaped_flat f', by rw [eqv_flat (okV_flat f) (okV_flat f')]; exact k⟩
end L2
namespace L2
open PySem PySem.Spec PyProof.Rows
theorem dec_s {x y : Str} : decide (V.str x = V.str y) = decide (x = y) := by
  by_cases h : x = y
  · subst h; simp
  · rw [decide_eq_false h, decide_eq_false fun e => h (V.str.inj e)]
theorem str_ne {x y : Str} (h : x ≠ y) : decide (V.str x = V.str y) = false := by rw [dec_s]; exact decide_eq_false h
theorem str_eq {x y : Str} (h : x = y) : decide (V.str x = V.str y) = true := by rw [dec_s]; exact decide_eq_true h
end L2

/-! ### list.count of flat things -/
namespace L2
open PySem PySem.Spec PyProof.Rows
theorem countP_eqU {x : V} : ∀ {xs : List V} {us : List Value}, Vals xs us → xs.all flatV = true → us.countP (eqU x) = xs.countP fun y => eqV y x
  | _, _, .nil, _ => rfl
  | y :: xs, u :: us, .cons r t, h => by
    rw [List.all_cons, Bool.and_eq_true] at h
    rw [List.countP_cons, List.countP_cons, countP_eqU t h.2, eqU_of r h.1]
def rCntF (K : PySem.W.Frag) : V → List V → Hp → VK → Prop := fun x xs H Q => ∃ (p : Addr) (ys : List V) (y : V), x = .ref p ∧ xs = [y] ∧ SqL K H p ys ∧ flatV y = true ∧ ys.all flatV = true ∧ Q (.int ((ys.countP fun z => eqV z y : Nat) : Int)) H
theorem mt_countF {X : Cx} : MtR X "list.count" (rCntF X.K) := by
  intro pins s σ H x xs v us Q I rx rxs h
  obtain ⟨p, ys, y, rfl, rfl, hs, fy, fl, q⟩ := h
  cases rx
  obtain ⟨u, rfl, ru⟩ := rxs.one
  obtain ⟨its, rv, ⟨⟨cls, dd, data, sl⟩, n, ho, hc, hdn, hd⟩, hlen⟩ := I.list hs
  simp only at hc hd
  subst hc hd
  have ec : its.toArray.toList.countP (eqU y) = ys.countP fun z => eqV z y := countP_eqU rv fl
  refine call_meets PySem.F.slot_list_count ⟨_, ho, rfl⟩ PySem.F.entry_list_count (PySem.F.args_list_count_2 _ _)
    (SeqAt.list_countAt p its.toArray n dd sl u (eqU y)) ⟨ho, fun z hz => mem_eqAt ru fy rv fl z (by simpa using hz), ?_⟩
  refine ⟨.int ((ys.countP fun z => eqV z y : Nat) : Int), H, I.tok _, ⟨s.toks, ?_⟩, q⟩
  rw [ec]
end L2

/-! ### a list comprehension whose element and test are told by the turn -/
namespace L2
open PySem PySem.Spec PyProof.Rows
theorem range_fm {f : Nat → Option V} {n : Nat} : (List.range (n + 1)).filterMap f = (List.range n).filterMap f ++ (f n).toList := by
  rw [List.range_succ, List.filterMap_append]
  cases h : f n <;> simp [List.filterMap_cons, h]
theorem fm_len {f : Nat → Option V} {n : Nat} : ((List.range n).filterMap f).length ≤ n := by
  have h := List.length_filterMap_le f (List.range n)
  rw [List.length_range] at h
  exact h
section
variable {K : PySem.W.Frag} {σ : St} {H : Hp} {Q : VK} {g : TG} {tt : TT} {te : TE} {vs : List Nat}
/-- one turn: the target, the test, the element come to f i, all that stood kept -/
def LcTurn (g : TG) (tt : TT) (te : TE) (vs : List Nat) (σ : St) (H : Hp) (x : V) (y : Option V) : Prop :=
  ∀ H2, Evl.Ex H H2 → ∀ R : Option V → Hp → Prop, (∀ H3, Evl.Ex H2 H3 → R y H3) →
    g x (wipe σ vs) H2 fun σ2 H3 => wipe σ2 vs = wipe σ vs ∧ tt σ2 H3 fun b H4 => if b = true then te σ2 H4 fun y H5 => R (some y) H5 else R none H4
theorem lc_of {n : Nat} {D : Addr} {H1 : Hp} {f : Nat → Option V} {i : Nat} {H' : Hp} (hn : n ≤ 50000) (hi : i < n) (p1 : H1 D = none) (p2 : Evl.Ex H1 H') (p3 : H' D = some (.lst ((List.range i).filterMap f))) {x : V} (ht : LcTurn g tt te vs σ H1 x (f i)) :
    g x (wipe σ vs) H' fun σ2 H2 => wipe σ2 vs = wipe σ vs ∧ tt σ2 H2 fun b H3 =>
      if b = true then te σ2 H3 fun y H4 => ∃ acc, H4 D = some (.lst acc) ∧ acc.length < sizeLine ∧ (H1 D = none ∧ Evl.Ex H1 (upd H4 D (.lst (acc ++ [y]))) ∧ upd H4 D (.lst (acc ++ [y])) D = some (.lst ((List.range (i + 1)).filterMap f))) else (H1 D = none ∧ Evl.Ex H1 H3 ∧ H3 D = some (.lst ((List.range (i + 1)).filterMap f))) := by
  refine ht H' p2 (fun o H4 => match o with
    | some y => ∃ acc, H4 D = some (.lst acc) ∧ acc.length < sizeLine ∧ (H1 D = none ∧ Evl.Ex H1 (upd H4 D (.lst (acc ++ [y]))) ∧ upd H4 D (.lst (acc ++ [y])) D = some (.lst ((List.range (i + 1)).filterMap f)))
    | none => (H1 D = none ∧ Evl.Ex H1 H4 ∧ H4 D = some (.lst ((List.range (i + 1)).filterMap f)))) (fun H3 e3 => ?_)
  cases hf : f i with
  | some y =>
    refine ⟨_, e3 _ _ p3, ?_, p1, Evl.Ex.mut (p2.trans e3) p1, ?_⟩
    · have := fm_len (f := f) (n := i)
      exact Evl.sz_lt (by omega)
    · rw [upd_same, range_fm, hf] <;> rfl
  | none =>
    refine ⟨p1, p2.trans e3, ?_⟩
    rw [range_fm, hf]
    show H3 D = some (.lst (_ ++ []))
    rw [List.append_nil]
    exact e3 _ _ p3
end
end L2

/-! ### loops -/
namespace L2
open PySem PySem.Spec PyProof.Rows
/-- a loop over what is walked already -/
def ForI (J : It) (g : TG) (tb : TS) (D : Ends) (σ : St) (H : Hp) : Prop := tFor (fun _ H1 R => R J H1) g tb D σ H
section
variable {K : PySem.W.Frag} {σ : St} {H : Hp} {D : Ends} {g : TG} {tb : TS} {ta : TA} {tl : TE}
theorem c_forR1 (h : ta σ H fun vs H1 => ∃ j : Int, vs = [.int j] ∧ -(2 ^ 62) ≤ j ∧ j < 2 ^ 62 ∧ ForI (Itr 0 j.toNat) g tb D σ H1) : tFor (iRng1 ta) g tb D σ H := h
theorem c_forR2 (h : ta σ H fun vs H1 => ∃ i j : Int, vs = [.int i, .int j] ∧ (-(2 ^ 62) ≤ i ∧ i < 2 ^ 62 ∧ -(2 ^ 62) ≤ j ∧ j < 2 ^ 62) ∧ ForI (Itr i (j - i).toNat) g tb D σ H1) : tFor (iRng2 ta) g tb D σ H := h
theorem c_forL (h : tl σ H fun x H1 => ∃ a, x = .ref a ∧ (∃ xs, SqL K H1 a xs) ∧ ForI (Itl K a) g tb D σ H1) : tFor (iList K tl) g tb D σ H := h
theorem c_forT (h : tl σ H fun x H1 => ∃ a, x = .ref a ∧ (∃ xs, SqT K H1 a xs) ∧ ForI (Itt K a) g tb D σ H1) : tFor (iTup K tl) g tb D σ H := h
/-- range(n), n whole and not below 0 or below it -/
theorem forR {n : Nat} {j : Nat} (Pv : Nat → St → Hp → Prop) (h0 : Pv 0 σ H) (hs : ∀ (i : Nat) σ' H', i < n → Pv i σ' H' → tb { D with nx := Pv (i + 1), ct := Pv (i + 1), bk := D.nx } (σ'.set j (some (.int (i : Int)))) H') (hd : ∀ σ' H', Pv n σ' H' → D.nx σ' H') : ForI (Itr 0 n) (gName j) tb D σ H :=
  for_range (lo := 0) (n := n) Pv h0 (fun i σ' H' hi p => by
    have e0 : (0 : Int) + (i : Int) = (i : Int) := Int.zero_add _
    show tb { D with nx := Pv (i + 1), ct := Pv (i + 1), bk := D.nx } (σ'.set j (some (.int ((0 : Int) + (i : Int))))) H'
    rw [e0]
    exact hs i σ' H' hi p) hd
theorem forL {a : Addr} {xs : List V} {j : Nat} (Pv : Nat → St → Hp → Prop) (h0 : Pv 0 σ H) (hl : ∀ i σ' H', i ≤ xs.length → Pv i σ' H' → SqL K H' a xs)
    (hs : ∀ i x σ' H', xs[i]? = some x → Pv i σ' H' → tb { D with nx := Pv (i + 1), ct := Pv (i + 1), bk := D.nx } (σ'.set j (some x)) H') (hd : ∀ σ' H', Pv xs.length σ' H' → D.nx σ' H') : ForI (Itl K a) (gName j) tb D σ H := for_list Pv h0 hl hs hd
theorem forT {a : Addr} {xs : List V} {j : Nat} (Pv : Nat → St → Hp → Prop) (h0 : Pv 0 σ H) (hl : ∀ i σ' H', i ≤ xs.length → Pv i σ' H' → SqT K H' a xs)
    (hs : ∀ i x σ' H', xs[i]? = some x → Pv i σ' H' → tb { D with nx := Pv (i + 1), ct := Pv (i + 1), bk := D.nx } (σ'.set j (some x)) H') (hd : ∀ σ' H', Pv xs.length σ' H' → D.nx σ' H') : ForI (Itt K a) (gName j) tb D σ H := for_tup Pv h0 hl hs hd
end
/-- a comprehension over what is walked already -/
def LcI (J : It) (g : TG) (tt : TT) (te : TE) (vs : List Nat) (σ : St) (H : Hp) (Q : VK) : Prop := tLc (fun _ H1 R => R J H1) g tt te vs σ H Q
section
variable {K : PySem.W.Frag} {σ : St} {H : Hp} {Q : VK} {g : TG} {tt : TT} {te : TE} {vs : List Nat} {ta : TA} {tl : TE}
theorem c_lcR1 (h : ta σ H fun ws H1 => ∃ j : Int, ws = [.int j] ∧ -(2 ^ 62) ≤ j ∧ j < 2 ^ 62 ∧ LcI (Itr 0 j.toNat) g tt te vs σ H1 Q) : tLc (iRng1 ta) g tt te vs σ H Q := h
theorem c_lcLi (h : tl σ H fun x H1 => ∃ a, x = .ref a ∧ (∃ xs, SqL K H1 a xs) ∧ LcI (Itl K a) g tt te vs σ H1 Q) : tLc (iList K tl) g tt te vs σ H Q := h
theorem c_lcTi (h : tl σ H fun x H1 => ∃ a, x = .ref a ∧ (∃ xs, SqT K H1 a xs) ∧ LcI (Itt K a) g tt te vs σ H1 Q) : tLc (iTup K tl) g tt te vs σ H Q := h
theorem lcL {a : Addr} {xs : List V} (f : Nat → Option V) (hs : SqL K H a xs) (hl : xs.length ≤ 50000) (ht : ∀ (i : Nat) (x : V), xs[i]? = some x → LcTurn g tt te vs σ H x (f i)) (k : RetL ((List.range xs.length).filterMap f) H Q) : LcI (Itl K a) g tt te vs σ H Q := by
  refine fun D hD => ?_
  refine lc_list (xs := xs) (fun i H' => H D = none ∧ Evl.Ex H H' ∧ H' D = some (.lst ((List.range i).filterMap f))) ⟨hD, Evl.Ex.new hD, upd_same⟩ (fun i H' _ p => Evl.ex_l p.2.1 hs) (fun i x H' hi p => ?_) (fun H' p => k D H' p.1 p.2.1 p.2.2)
  exact lc_of hl (List.getElem?_eq_some_iff.mp hi).1 p.1 p.2.1 p.2.2 (ht i x hi)
theorem lcT {a : Addr} {xs : List V} (f : Nat → Option V) (hs : SqT K H a xs) (hl : xs.length ≤ 50000) (ht : ∀ (i : Nat) (x : V), xs[i]? = some x → LcTurn g tt te vs σ H x (f i)) (k : RetL ((List.range xs.length).filterMap f) H Q) : LcI (Itt K a) g tt te vs σ H Q := by
  refine fun D hD => ?_
  refine lc_tup (xs := xs) (fun i H' => H D = none ∧ Evl.Ex H H' ∧ H' D = some (.lst ((List.range i).filterMap f))) ⟨hD, Evl.Ex.new hD, upd_same⟩ (fun i H' _ p => Evl.ex_t p.2.1 hs) (fun i x H' hi p => ?_) (fun H' p => k D H' p.1 p.2.1 p.2.2)
  exact lc_of hl (List.getElem?_eq_some_iff.mp hi).1 p.1 p.2.1 p.2.2 (ht i x hi)
theorem lcR {n : Nat} (f : Nat → Option V) (hl : n ≤ 50000) (ht : ∀ (i : Nat), i < n → LcTurn g tt te vs σ H (.int (i : Int)) (f i)) (k : RetL ((List.range n).filterMap f) H Q) : LcI (Itr 0 n) g tt te vs σ H Q := by
  refine fun D hD => ?_
  refine lc_range (lo := 0) (n := n) (fun i H' => H D = none ∧ Evl.Ex H H' ∧ H' D = some (.lst ((List.range i).filterMap f))) ⟨hD, Evl.Ex.new hD, upd_same⟩ (fun i H' hi p => ?_) (fun H' p => k D H' p.1 p.2.1 p.2.2)
  have e0 : (0 : Int) + (i : Int) = (i : Int) := Int.zero_add _
  rw [e0]
  exact lc_of hl hi p.1 p.2.1 p.2.2 (ht i hi)
end
end L2

/-! ### texts -/
namespace L2
open PySem PySem.Spec PyProof.Rows
open TL (tl)
/-- x is b, x is not b, b True or False, x a flat thing -/
def rIsV : R2 := fun x y H Q => ∃ b : Bool, y = .bl b ∧ Q (.bl (decide (x = .bl b))) H
def rNotV : R2 := fun x y H Q => ∃ b : Bool, y = .bl b ∧ Q (.bl (!decide (x = .bl b))) H
section
variable {X : Cx}
theorem isV_plain {x : V} {v : Value} {b : Bool} (rx : RelV x v) : plainIs v (.bool b) = true ∧ (v == Value.bool b) = decide (x = .bl b) := by
  cases x with
  | non => cases (show v = Value.none from rx); exact ⟨rfl, rfl⟩
  | bl c =>
    cases (show v = Value.bool c from rx)
    refine ⟨rfl, ?_⟩
    cases c <;> cases b <;> rfl
  | int i => obtain ⟨t, e⟩ := (show ∃ t, v = Value.int i t from rx); cases e; exact ⟨rfl, rfl⟩
  | str z => obtain ⟨t, e⟩ := (show ∃ t, v = Value.str z t from rx); cases e; exact ⟨rfl, rfl⟩
  | byt z => obtain ⟨t, e⟩ := (show ∃ t, v = Value.bytes z t from rx); cases e; exact ⟨rfl, rfl⟩
  | flt z => obtain ⟨t, e⟩ := (show ∃ t, v = Value.float z t from rx); cases e; exact ⟨rfl, rfl⟩
  | ref a => cases (show v = Value.ref a from rx); exact ⟨rfl, rfl⟩
  | ty n => cases (show v = Value.type n from rx); exact ⟨rfl, rfl⟩
theorem op_isB : OpR X (compareOp .Is) rIsV := by
  intro pins s σ H x y v u Q I rx ry h
  obtain ⟨b, rfl, q⟩ := h
  cases (show u = Value.bool b from ry)
  have z := isV_plain (b := b) rx
  refine wpAny_is_plain z.1 ?_
  rw [z.2]
  exact ⟨.bl _, H, I, rfl, q⟩
theorem op_notB : OpR X (compareOp .IsNot) rNotV := by
  intro pins s σ H x y v u Q I rx ry h
  obtain ⟨b, rfl, q⟩ := h
  cases (show u = Value.bool b from ry)
  have z := isV_plain (b := b) rx
  refine wpAny_isNot_plain z.1 ?_
  rw [z.2]
  exact ⟨.bl _, H, I, rfl, q⟩
end
/-- s * n, n two at least -/
def repS (x : Str) (n : Nat) : Str := ⟨(List.replicate n x.cps).foldl (· ++ ·) #[]⟩
theorem rep_size (a : Array Nat) : ∀ (n : Nat) (acc : Array Nat), ((List.replicate n a).foldl (· ++ ·) acc).size = acc.size + n * a.size
  | 0, acc => by simp
  | n + 1, acc => by
    rw [List.replicate_succ, List.foldl_cons, rep_size a n, Array.size_append, Nat.succ_mul]
    omega
theorem repS_len (x : Str) (n : Nat) : (repS x n).length = n * x.length := by
  show ((List.replicate n x.cps).foldl (· ++ ·) #[]).size = _
  rw [rep_size]
  simp [Str.length]
section
variable {X : Cx}
theorem op_rep_str : OpR X (binaryOp .Mult) (fun x y H Q => ∃ (z : Str) (n : Int), x = .str z ∧ y = .int n ∧ 2 ≤ n ∧ n ≤ 100000 ∧ 0 < z.length ∧ z.length ≤ 100 ∧ Q (.str (repS z n.toNat)) H) := by
  intro pins s σ H x y v u Q I rx ry h
  obtain ⟨z, n, rfl, rfl, h2, h1, z0, z1, q⟩ := h
  obtain ⟨t, rfl⟩ := rx
  obtain ⟨t', rfl⟩ := ry
  have hs : sizeLine = 16777216 := sizeLine_eq
  have hp : z.length * n.toNat ≤ 100 * 100000 := Nat.mul_le_mul z1 (by omega)
  refine PySem.P.mul_str ?_ (fun _ _ => ?_) (fun _ _ => ?_) ?_
  · rw [decide_eq_false (by omega), decide_eq_false (by omega)]; rfl
  · have : (100 : Int) ≤ (2 ^ 63 - 1) / n := by
      rw [Int.le_ediv_iff_mul_le (by omega)]
      omega
    omega
  · unfold Builtin.Str.tooLong
    rw [decide_eq_false (by omega)]
  · rw [if_neg (by omega), if_neg (by
      rw [Bool.or_eq_true, beq_iff_eq, beq_iff_eq]
      omega)]
    refine ⟨?_, .str (repS z n.toNat), H, I.tok _, ⟨_, rfl⟩, q⟩
    have e := repS_len z n.toNat
    rw [Nat.mul_comm] at e
    show (repS z n.toNat).length ≤ sizeLine
    omega
end
/-! loops over a text -/
section
variable {K : PySem.W.Frag} {σ : St} {H : Hp} {D : Ends} {Q : VK} {g : TG} {tb : TS} {tl' : TE} {tt : TT} {te : TE} {vs : List Nat}
theorem c_forS (h : tl' σ H fun v H1 => ∃ x, v = .str x ∧ ForI (Its x) g tb D σ H1) : tFor (iStr tl') g tb D σ H := h
theorem c_lcSi (h : tl' σ H fun v H1 => ∃ x, v = .str x ∧ LcI (Its x) g tt te vs σ H1 Q) : tLc (iStr tl') g tt te vs σ H Q := h
theorem tl_get {x : Str} {i c : Nat} : x.cps[i]? = some c ↔ (tl x)[i]? = some c := by
  show _ ↔ x.cps.toList[i]? = some c
  rw [Array.getElem?_toList]
theorem tl_len (x : Str) : (tl x).length = x.length := by simp [tl, Str.length]
theorem forS {x : Str} {j : Nat} (Pv : Nat → St → Hp → Prop) (h0 : Pv 0 σ H)
    (hs : ∀ i c σ' H', (tl x)[i]? = some c → Pv i σ' H' → tb { D with nx := Pv (i + 1), ct := Pv (i + 1), bk := D.nx } (σ'.set j (some (.str ⟨#[c]⟩))) H') (hd : ∀ σ' H', Pv (tl x).length σ' H' → D.nx σ' H') : ForI (Its x) (gName j) tb D σ H :=
  for_it walk_str Pv h0 (fun _ _ _ _ _ => trivial) (fun i v σ' H' H'' hi p y => by
    obtain ⟨rfl, c, hc, rfl⟩ := y
    exact hs i c σ' H'' (tl_get.mp hc) p) (by
    have e : x.cps.size = (tl x).length := by simp [tl]
    rw [e]
    exact hd)
theorem fm_range {α : Type} {F : α → Option V} : ∀ {l : List α}, (List.range l.length).filterMap (fun i => (l[i]?).bind F) = l.filterMap F
  | [] => rfl
  | a :: l => by
    rw [List.length_cons, List.range_succ_eq_map, List.filterMap_cons, List.filterMap_map, List.filterMap_cons]
    have ih := fm_range (F := F) (l := l)
    rw [List.getElem?_cons_zero, Option.bind_some]
    have e : ((fun i => ((a :: l)[i]?).bind F) ∘ Nat.succ) = fun i => (l[i]?).bind F := by
      funext i
      simp
    rw [e, ih] <;> rfl
theorem lcS {x : Str} (F : Nat → Option V) (hl : x.length ≤ 50000) (ht : ∀ c, c ∈ tl x → LcTurn g tt te vs σ H (.str ⟨#[c]⟩) (F c)) (k : RetL ((tl x).filterMap F) H Q) : LcI (Its x) g tt te vs σ H Q := by
  refine fun D hD => ?_
  have e : x.cps.size = (tl x).length := by simp [tl]
  refine lc_it walk_str (fun i H' => H D = none ∧ Evl.Ex H H' ∧ H' D = some (.lst ((List.range i).filterMap fun i => ((tl x)[i]?).bind F))) ⟨hD, Evl.Ex.new hD, upd_same⟩ (fun _ _ _ _ => trivial) (fun i v H' H'' hi p y => ?_) (fun H' p => k D H' p.1 p.2.1 ?_)
  · obtain ⟨rfl, c, hc, rfl⟩ := y
    have hc2 := tl_get.mp hc
    refine lc_of (n := x.cps.size) (f := fun i => ((tl x)[i]?).bind F) hl hi p.1 p.2.1 p.2.2 ?_
    rw [hc2]
    exact ht c (List.mem_of_getElem? hc2)
  · have q := p.2.2
    rw [e, fm_range] at q
    exact q
/-- the same of a list, by what its things are -/
theorem lcLv {a : Addr} {xs : List V} (F : V → Option V) (hs : SqL K H a xs) (hl : xs.length ≤ 50000) (ht : ∀ x, x ∈ xs → LcTurn g tt te vs σ H x (F x)) (k : RetL (xs.filterMap F) H Q) : LcI (Itl K a) g tt te vs σ H Q := by
  refine lcL (fun i => (xs[i]?).bind F) hs hl (fun i x hi => ?_) ?_
  · rw [hi]
    exact ht x (List.mem_of_getElem? hi)
  · rw [fm_range]
    exact k
end
theorem fm_some {α : Type} {F : α → V} : ∀ (l : List α), l.filterMap (fun c => some (F c)) = l.map F
  | [] => rfl
  | a :: l => by rw [List.filterMap_cons, List.map_cons, fm_some l]
theorem tl_ext {x y : Str} : x = y ↔ tl x = tl y := ⟨fun h => by rw [h], TL.ext_tl⟩
theorem starts_is (x y : Str) : Txt.startswith x y = ((tl x).take (tl y).length == tl y) := by
  unfold Txt.startswith
  rw [StrLaws.subAt_eq]
  show (decide (0 + y.length ≤ x.length) && (((tl x).drop 0).take y.length == tl y)) = _
  rw [List.drop_zero, tl_len]
  cases h : (List.take y.length (tl x) == tl y) with
  | false => rw [Bool.and_false]
  | true =>
    rw [Bool.and_true, decide_eq_true_eq]
    have e := congrArg List.length (beq_iff_eq.mp h)
    rw [List.length_take, tl_len, tl_len] at e
    omega
theorem tl_cut (z : Str) (lo hi : Option Int) : tl (cutS z lo hi) = ((tl z).drop (HT.sIx z.length 0 lo)).take (HT.sIx z.length z.length hi - HT.sIx z.length 0 lo) := rfl
theorem tl_one (c : Nat) : tl ⟨#[c]⟩ = [c] := rfl
end L2
namespace L2
open PySem PySem.Spec PyProof.Rows
open TL (tl)
theorem c_ixS {H : Hp} {Q : VK} {z : Str} {i : Int} {c : Nat} (hz : z.length ≤ 100000) (ha : atI (tl z) i = some c) (q : Q (.str ⟨#[c]⟩) H) : rIxS (.str z) (.int i) H Q := ⟨z, i, c, rfl, rfl, Evl.sz_of hz, ha, q⟩
theorem c_slS {H : Hp} {Q : VK} {z : Str} {lo hi : Option Int} (hz : z.length ≤ 100000) (q : Q (.str (cutS z lo hi)) H) : rSlS (.str z) lo hi H Q := ⟨z, rfl, Evl.sz_of hz, q⟩
theorem sIx_le' (n d : Nat) (hd : d ≤ n) (o : Option Int) : HT.sIx n d o ≤ n := HT.sIx_le n d hd o
theorem add_len (a b : Str) : (a ++ b).length = a.length + b.length := by
  rw [← tl_len, TL.tl_append, List.length_append, tl_len, tl_len]
end L2
namespace L2
open PySem PySem.Spec PyProof.Rows
open TL (tl)
/-- a text whose signs lie within the line -/
def OkT (t : Str) : Prop := ∀ c, c ∈ tl t → c < 1114112
theorem okT_V {t : Str} (h : OkT t) : okV (.str t) = true := by
  show PyData.strOk t = true
  unfold PyData.strOk
  rw [Array.all_eq_true']
  intro c hc
  exact decide_eq_true (h c (Array.mem_toList_iff.mpr hc))
theorem okT_one {c : Nat} (h : c < 1114112) : okV (.str ⟨#[c]⟩) = true := okT_V fun d hd => by
  have : d = c := by simpa [tl] using hd
  omega
theorem OkT.app {a b : Str} (ha : OkT a) (hb : OkT b) : OkT (a ++ b) := fun c hc => by
  rw [TL.tl_append] at hc
  rcases List.mem_append.mp hc with h | h
  · exact ha c h
  · exact hb c h
theorem OkT.cut {a : Str} (ha : OkT a) (lo hi : Option Int) : OkT (cutS a lo hi) := fun c hc => ha c (List.mem_of_mem_drop (List.mem_of_mem_take hc))
theorem OkT.lit {t : Str} (h : (tl t).all (fun c => decide (c < 1114112)) = true) : OkT t := fun c hc => of_decide_eq_true (List.all_eq_true.mp h c hc)
end L2

/-! ### draws within a comprehension; joined texts -/
namespace L2
open PySem PySem.Spec PyProof.Rows
open TL (tl)
section
variable {K : PySem.W.Frag} {σ : St} {H : Hp} {Q : VK} {g : TG} {tt : TT} {te : TE} {vs : List Nat}
theorem BoxAt.some {H : Hp} {b : Addr} (h : BoxAt H b) : ∃ o, H b = Option.some o := let ⟨_, _, _, _, q⟩ := h; ⟨_, q⟩
theorem lcRB {n : Nat} {b : Addr} (good : V → Prop) (hn : n ≤ 1000) (hB : BoxAt H b)
    (ht : ∀ (i : Nat), i < n → ∀ H2, BoxAt H2 b → ExB b H H2 → ∀ (R : V → Hp → Prop) (N : Hp → Prop), (∀ y H3, good y → BoxAt H3 b → ExB b H2 H3 → R y H3) →
      g (.int (i : Int)) (wipe σ vs) H2 fun σ2 H3 => wipe σ2 vs = wipe σ vs ∧ tt σ2 H3 fun c H4 => if c = true then te σ2 H4 fun y H5 => R y H5 else N H4)
    (k : ∀ ys p H2, ys.length = n → (∀ y ∈ ys, good y) → H p = none → ExB b H H2 → BoxAt H2 b → H2 p = some (.lst ys) → Q (.ref p) H2) : LcI (Itr 0 n) g tt te vs σ H Q := by
  refine fun D hD => ?_
  obtain ⟨ob, hob⟩ := hB.some
  have nDb : D ≠ b := (ne_of_none hob hD).symm
  have bx : ∀ {G : Hp} {o : HO}, BoxAt G b → BoxAt (upd G D o) b := fun ⟨x, y, z, p, q⟩ => ⟨x, y, z, p, by rw [upd_ne nDb.symm]; exact q⟩
  have ex : ∀ {G : Hp} {o : HO}, ExB b H G → ExB b H (upd G D o) := fun e a u na ha => by rw [upd_ne (ne_of_none ha hD)]; exact e a u na ha
  refine lc_range (lo := 0) (n := n) (fun i H' => i ≤ n ∧ ExB b H H' ∧ BoxAt H' b ∧ ∃ ys, ys.length = i ∧ (∀ y ∈ ys, good y) ∧ H' D = some (.lst ys)) ⟨Nat.zero_le _, ex (ExB.refl _ _), bx hB, [], rfl, (fun _ h => by cases h), upd_same⟩ (fun i H' hi p => ?_) (fun H' p => ?_)
  · obtain ⟨_, e1, b1, ys, hl, hg, hy⟩ := p
    have e0 : (0 : Int) + (i : Int) = (i : Int) := Int.zero_add _
    rw [e0]
    refine ht i hi H' b1 e1 (fun y H4 => ∃ acc, H4 D = some (.lst acc) ∧ acc.length < sizeLine ∧ (i + 1 ≤ n ∧ ExB b H (upd H4 D (.lst (acc ++ [y]))) ∧ BoxAt (upd H4 D (.lst (acc ++ [y]))) b ∧ ∃ zs, zs.length = i + 1 ∧ (∀ y ∈ zs, good y) ∧ upd H4 D (.lst (acc ++ [y])) D = some (.lst zs))) _ (fun y H3 gy b3 e3 => ?_)
    refine ⟨ys, e3 D _ nDb hy, Evl.sz_lt (by omega), hi, ex (e1.trans e3), bx b3, ys ++ [y], by rw [List.length_append, hl]; rfl, fun z hz => ?_, upd_same⟩
    rcases List.mem_append.mp hz with h | h
    · exact hg z h
    · have : z = y := by simpa using h
      rw [this]
      exact gy
  · obtain ⟨_, e1, b1, ys, hl, hg, hy⟩ := p
    exact k ys D H' hl hg hD e1 b1 hy
end
theorem strs_of {P : Str → Prop} : ∀ {l : List V}, (∀ y ∈ l, ∃ s, y = .str s ∧ P s) → ∃ ss : List Str, l = ss.map V.str ∧ ∀ s ∈ ss, P s
  | [], _ => ⟨[], rfl, fun _ h => by cases h⟩
  | y :: l, h => by
    obtain ⟨s, rfl, hs⟩ := h y List.mem_cons_self
    obtain ⟨ss, rfl, hss⟩ := strs_of fun z hz => h z (List.mem_cons_of_mem _ hz)
    exact ⟨s :: ss, rfl, fun z hz => (List.mem_cons.mp hz).elim (fun e => e ▸ hs) (hss z)⟩
theorem joinL_in {S : List Nat} : ∀ {ps : List (List Nat)} {c : Nat}, c ∈ TL.joinL S ps → c ∈ S ∨ ∃ p ∈ ps, c ∈ p
  | [], c, h => by cases h
  | [p], c, h => .inr ⟨p, List.mem_cons_self, h⟩
  | p :: q :: ps, c, h => by
    have h' : c ∈ p ++ S ++ TL.joinL S (q :: ps) := by first | exact h | simpa [TL.joinL] using h
    rcases List.mem_append.mp h' with h | h
    · rcases List.mem_append.mp h with h | h
      · exact .inr ⟨p, List.mem_cons_self, h⟩
      · exact .inl h
    · rcases joinL_in h with h | ⟨r, hr, hc⟩
      · exact .inl h
      · exact .inr ⟨r, List.mem_cons_of_mem _ hr, hc⟩
theorem joinL_len {S : List Nat} {m : Nat} : ∀ {ps : List (List Nat)}, (∀ p ∈ ps, p.length ≤ m) → (TL.joinL S ps).length ≤ ps.length * (m + S.length)
  | [], _ => by simp [TL.joinL]
  | [p], h => by
    have := h p List.mem_cons_self
    show p.length ≤ _
    simp
    omega
  | p :: q :: ps, h => by
    have h1 := h p List.mem_cons_self
    have ih := joinL_len (S := S) (ps := q :: ps) fun r hr => h r (List.mem_cons_of_mem _ hr)
    have e : TL.joinL S (p :: q :: ps) = p ++ S ++ TL.joinL S (q :: ps) := by first | rfl | simp [TL.joinL]
    rw [e, List.length_append, List.length_append, List.length_cons, Nat.succ_mul]
    omega
theorem join_ok {sep : Str} {ss : List Str} {m : Nat} (ho : OkT sep) (hs : ∀ s ∈ ss, OkT s ∧ s.length ≤ m) : OkT (Txt.join sep ss) ∧ (Txt.join sep ss).length ≤ ss.length * (m + sep.length) := by
  rw [TL.join_eq]
  constructor
  · intro c hc
    rw [TL.tl_join] at hc
    rcases joinL_in hc with h | ⟨p, hp, h⟩
    · exact ho c h
    · obtain ⟨s, hs', rfl⟩ := List.mem_map.mp hp
      exact (hs s hs').1 c h
  · rw [← tl_len, TL.tl_join, ← tl_len sep]
    have := joinL_len (S := tl sep) (m := m) (ps := ss.map tl) fun p hp => by
      obtain ⟨s, hs', rfl⟩ := List.mem_map.mp hp
      rw [tl_len]
      exact (hs s hs').2
    rw [List.length_map] at this
    exact this
theorem sum_len {ss : List Str} {m : Nat} (h : ∀ s ∈ ss, s.length ≤ m) : (ss.map (·.length)).sum ≤ ss.length * m := by
  induction ss with
  | nil => simp
  | cons a l ih =>
    rw [List.map_cons, List.sum_cons, List.length_cons, Nat.succ_mul]
    have := h a List.mem_cons_self
    have := ih fun s hs => h s (List.mem_cons_of_mem _ hs)
    omega
end L2
namespace L2
open PySem PySem.Spec PyProof.Rows
theorem forLg {K : PySem.W.Frag} {σ : St} {H : Hp} {D : Ends} {g : TG} {tb : TS} {a : Addr} {xs : List V} (Pv : Nat → St → Hp → Prop) (h0 : Pv 0 σ H) (hl : ∀ i σ' H', i ≤ xs.length → Pv i σ' H' → SqL K H' a xs)
    (hs : ∀ i x σ' H', xs[i]? = some x → Pv i σ' H' → g x σ' H' fun σ2 H2 => tb { D with nx := Pv (i + 1), ct := Pv (i + 1), bk := D.nx } σ2 H2) (hd : ∀ σ' H', Pv xs.length σ' H' → D.nx σ' H') : ForI (Itl K a) g tb D σ H := for_list Pv h0 hl hs hd
theorem hu65 {A : Around} {k : Nat} (hr : Room k A) : A.units + 65 < cLine := by have := hr.un; omega
end L2

/-! ### own errors: made, held as values, read, asked for their class -/
namespace L2
open PySem PySem.Spec PyProof.Rows
def cBody (st : Stmt) : List Stmt := match st with
  | .ClassDef (body := l) .. => l
  | _ => []
/-- the class at C is an own error class over ValueError -/
def xcB (K : PySem.W.Frag) (C : Addr) : Bool := match K.lookup C with
  | some ⟨.type "type", _, .cls cd, sl⟩ => (match cd.mro, sl.toList with
    | .ref D :: bm, [_, _, _, _, some (.builtin n), _] => (D == C && n == "ValueError.__new__") && ((!cd.hasDel && cd.hasDict) && PySem.HandSPX.refsVE bm)
    | _, _ => false)
  | _ => false
def oxB (K : PySem.W.Frag) (C : Addr) : Bool :=
  (xcB K C && PySem.W.keepIn K (.ref C)) && (decide (PySem.W.findIn K (.ref C) "__setattr__" = some (some (.builtin "object.__setattr__"))) && decide (PySem.W.typeIn K (.ref C) = some (.type "type")))
def icB (K : PySem.W.Frag) (C : Addr) : Bool :=
  ((PySem.W.clsIn K C).isSome && xfB K C) && ((decide (PySem.W.findIn K (.ref C) "__class__" = some (some (.builtin "object.__class__"))) && decide (PySem.W.specialIn K (.builtin "object.__class__") "__get__" = some (some (.builtin "getset_descriptor.__get__")))) &&
    (decide (PySem.W.takesIn K (.builtin "object.__class__") = some true) && decide (PySem.W.mroIn K C (.type "object") = some true)))
def exB (K : PySem.W.Frag) (C : Addr) (fs : List Str) : Bool := (oxB K C && icB K C) && fs.all fun f => decide (PySem.W.findIn K (.ref C) f = some none)
structure IcC (K : PySem.W.Frag) (C : Addr) : Prop where
  cl : (PySem.W.clsIn K C).isSome = true
  xf : XfC K C
  ha : PySem.W.findIn K (.ref C) "__class__" = some (some (.builtin "object.__class__"))
  hn : PySem.W.specialIn K (.builtin "object.__class__") "__get__" = some (some (.builtin "getset_descriptor.__get__"))
  ht : PySem.W.takesIn K (.builtin "object.__class__") = some true
  hm : PySem.W.mroIn K C (.type "object") = some true
theorem icB_ok {K : PySem.W.Frag} {C : Addr} (h : icB K C = true) : IcC K C := by
  unfold icB at h
  simp only [Bool.and_eq_true, decide_eq_true_eq] at h
  obtain ⟨⟨h1, h2⟩, ⟨h3, h4⟩, h5, h6⟩ := h
  exact ⟨h1, xfB_ok h2, h3, h4, h5, h6⟩
structure ExF (K : PySem.W.Frag) (C : Addr) (fs : List Str) : Prop where
  ox : OexC K C
  ic : IcC K C
  no : ∀ f ∈ fs, PySem.W.findIn K (.ref C) f = some none
theorem exB_ok {K : PySem.W.Frag} {C : Addr} {fs : List Str} (h : exB K C fs = true) : ExF K C fs := by
  unfold exB at h
  rw [Bool.and_eq_true, Bool.and_eq_true] at h
  obtain ⟨⟨h1, h2⟩, h3⟩ := h
  have I := icB_ok h2
  refine ⟨?_, I, fun f hf => of_decide_eq_true (List.all_eq_true.mp h3 f hf)⟩
  unfold oxB at h1
  simp only [Bool.and_eq_true, decide_eq_true_eq] at h1
  obtain ⟨⟨q, hk⟩, hs, ht⟩ := h1
  refine ⟨?_, hs, I.xf.exC, ht, hk⟩
  unfold xcB at q
  split at q
  · rename_i dd cd sl ho
    split at q
    · rename_i D bm m0 m1 m2 m3 n m5 hm hl
      simp only [Bool.and_eq_true, beq_iff_eq, Bool.not_eq_true'] at q
      obtain ⟨⟨rfl, rfl⟩, ⟨hdel, hdct⟩, hr⟩ := q
      obtain ⟨nm, bs, mro, ns, qn, hd, sn, sub, ab, col, del⟩ := cd
      dsimp only at hm hdel hdct
      subst hm hdel hdct
      have e : sl = #[m0, m1, m2, m3, some (.builtin "ValueError.__new__"), m5] := by
        obtain ⟨l⟩ := sl
        simp only at hl
        rw [hl]
      subst e
      exact ⟨nm, qn, ns, bs, bm, sn, sub, ab, col, dd, m0, m1, m2, m3, m5, ho, hr⟩
    · cases q
  · cases q
/-- the class at B over which they stand -/
structure BaseC (K : PySem.W.Frag) (B : Addr) : Prop where
  rd : PySem.W.readsIn K B (.type "type") = true
  ga : PySem.W.specialIn K (.ref B) "__getattribute__" = some (some (.builtin "type.__getattribute__"))
  at_ : PySem.W.findCls K (.ref B) (.type "type") "__init__" = some (.val (.builtin "ValueError.__init__"))
def baseB (K : PySem.W.Frag) (B : Addr) : Bool := PySem.W.readsIn K B (.type "type") && (decide (PySem.W.specialIn K (.ref B) "__getattribute__" = some (some (.builtin "type.__getattribute__"))) && (match PySem.W.findCls K (.ref B) (.type "type") "__init__" with | some (.val (.builtin n)) => n == "ValueError.__init__" | _ => false))
theorem baseB_ok {K : PySem.W.Frag} {B : Addr} (h : baseB K B = true) : BaseC K B := by
  unfold baseB at h
  simp only [Bool.and_eq_true, decide_eq_true_eq] at h
  obtain ⟨h1, h2, h3⟩ := h
  split at h3
  · rename_i n e
    rw [beq_iff_eq] at h3
    subst h3
    exact ⟨h1, h2, e⟩
  · cases h3
section
variable {X : Cx} {a1 : Expr} {ar : List Expr} {ta : TA} {x : Str} {q1 q2 qc : Pos} {B : Addr}
theorem pe_binit {pl : Sem Bool} (hg : Gl X x) (hm : X.mg x = some (.ref B)) (T : BaseC X.K B) (ha : PA X (a1 :: ar) ta)
    (hcal : eval (.Call (.Attribute (.Name x q1) "__init__" q2) (a1 :: ar) [] qc) X.env = (eval (.Name x q1) X.env >>= fun ov => standAt q2.atName >>= fun _ => holding [ov] (getMethod ov "__init__" pl) >>= fun r => callWith qc r.1 r.2 (backTo qc (starEach (a1 :: ar) X.env)) (backToKw qc (keywordEach [] X.env))) := by rfl)
    (hst : starEach (a1 :: ar) X.env = (false, eval a1 X.env) :: starEach ar X.env := by rfl) (hps : (backTo qc (starEach ar X.env)).any (·.1) = false := by rfl) (hdb : (x == ("__debug__" : Str)) = false := by decide) :
    PE X (.Call (.Attribute (.Name x q1) "__init__" q2) (a1 :: ar) [] qc) (tVeI X.K ta) := by
  refine ⟨fun pins s σ H Q I h => ?_⟩
  refine PySem.W.methodCall_KW (ld_glob I hg hm ?_ hdb) hcal
  refine PySem.W.method_cls I.kIn T.ga (PySem.W.cls_value I.kIn T.rd T.at_ (by decide +kernel) ?_)
  show wpAny _ _ (callWith qc (Value.builtin "ValueError.__init__") [] (backTo qc (starEach (a1 :: ar) X.env)) []) _ _ _
  refine PyProof.Rows.callWith_method1 (thn (ha.run qc pins _ σ H _ (I.tok _) h) fun us s1 hh => ?_) hst hps
  obtain ⟨vs, H1, I1, r1, a, C, ws, ev, hl, OC, ea, q⟩ := hh
  subst ev
  cases r1 with
  | @cons _ u0 _ ur ra rr =>
    obtain rfl : u0 = Value.ref a := ra
    exact oinit_ok OC I1 ea (by rw [← Paired.length rr, sizeLine_eq]; omega) fun s' J => ⟨.non, H1, J, rfl, q⟩
/-- C(e, ..) as a value, its own __init__ keeping sp -/
def tMkV (C : Addr) (sp : Sp) (ta : TA) : TE := fun σ H Q => ta σ H fun vs H1 => vs.length ≤ 1000 ∧ ∀ a, H1 a = none → sp (.ref a :: vs) (upd H1 a (exo a C none)) (fun v H2 => v = .non ∧ Q (.ref a) H2) (fun _ _ _ => False)
theorem pe_mkv {CX : CXT} {C fI : Addr} {k : Nat} {fd : FuncData} {ps : List Str} {sp : Sp} (T : OexC X.K C) (iC : PySem.W.findIn X.K (.ref C) "__init__" = some (some (.ref fI))) (tI : PySem.W.typeIn X.K (.ref fI) = some (.type "function"))
    (F1 : FnOk X.prog X.w X.K X.mg X.base CX k fI fd ps sp) (hr : Room (k + 1) X.A) (hb : Binds X.K fd ps []) (hx : Passes CX X (fun _ _ _ => False)) (hg : Gl X x) (hm : X.mg x = some (.ref C)) (ha : PA X (a1 :: ar) ta)
    (hdb : (x == ("__debug__" : Str)) = false := by decide) (hst : starEach (a1 :: ar) X.env = (false, eval a1 X.env) :: starEach ar X.env := by rfl) (hps : (backTo qc (starEach ar X.env)).any (·.1) = false := by rfl) :
    PE X (.Call (.Name x q1) (a1 :: ar) [] qc) (tMkV C sp ta) := by
  refine ⟨fun pins s σ H Q I h => ?_⟩
  obtain ⟨nm, q, N, bs, bm, sn, sub, ab, col, dd, k0, k1, k2, k3, k5, hC, hbm⟩ := T.cls
  refine wpAny_Call_Name_kw (ld_glob I hg hm ?_ hdb)
  refine PySem.W.callWith_K (h₀ := X.base) I.ok.mod.kin T.kC (thn (ha.run qc pins s σ H _ I h) fun us s1 hh => ?_) hst hps
  obtain ⟨vs, H1, I1, r1, hz, qq⟩ := hh
  refine ⟨I1.kIn, ?_⟩
  show wpAny _ _ (call (.ref C) us) _ _ _
  obtain ⟨hp, g, dr, tk, os⟩ := s1
  have le1 : hp.objs.size ≤ hp.objs.size + 1 := Nat.le_succ _
  have hn : H1 (hp.objs.size + 1) = none := I1.hok.fresh le1
  have hq := qq (hp.objs.size + 1) hn
  have kep : ∀ b o, hp.get? b = some o → ((hp.push (PySem.W.kdv_tup us)).push (PySem.HandSPX.excO C hp.objs.size)).get? b = some o := fun b o z => Heap.get?_push_of_some _ (Heap.get?_push_of_some _ z)
  have hget : ((hp.push (PySem.W.kdv_tup us)).push (PySem.HandSPX.excO C hp.objs.size)).get? (hp.objs.size + 1) = some (PySem.HandSPX.excO C hp.objs.size) := by heap_get
  have J2 : Inv X pins σ (upd H1 (hp.objs.size + 1) (exo (hp.objs.size + 1) C none)) ⟨(hp.push (PySem.W.kdv_tup us)).push (PySem.HandSPX.excO C hp.objs.size), g, dr, tk, os⟩ :=
    I1.laid (t' := tk) (a := hp.objs.size + 1) (o := exo (hp.objs.size + 1) C none) (h' := (hp.push (PySem.W.kdv_tup us)).push (PySem.HandSPX.excO C hp.objs.size)) kep le1 (exo_ok hget)
  have rv2 : Vals (V.ref (hp.objs.size + 1) :: vs) (Value.ref (hp.objs.size + 1) :: us) := .cons rfl r1
  have hlen : (Value.ref (hp.objs.size + 1) :: us ++ []).length = ps.length := by
    have z := rv2.length
    rw [F1.len _ _ _ _ hq] at z
    rw [List.append_nil]
    exact z.symm
  have hus : us.length ≤ sizeLine := by
    rw [← Paired.length r1, sizeLine_eq]
    omega
  refine wpAny_call (PySem.HandSPX.call_own F.excBase_ValueError (fun Y => PySem.HandSPX.refsVE_contains Y bm hbm) (I1.kIn _ _ hC) (PySem.W.looks_findIn I1.kIn iC) (fun self => PySem.W.bind_fn I1.kIn self tI) hus ?_)
  have hbb := hb _ (Value.ref (hp.objs.size + 1) :: us) J2.kIn hlen
  rw [List.append_nil] at hbb
  refine codeAny_mono (F1.run _ X.stack _ _ ⟨Value.ref (hp.objs.size + 1) :: us, []⟩ (Value.ref (hp.objs.size + 1) :: us) _ _ (fun _ _ _ => False) (hr.make C us []) (J2.env0.make C us []) hbb rv2 hq) fun r s' hq' => ?_
  cases r with
  | error er => exact hx pins σ _ _ er s' J2 hq'
  | ok fl =>
    cases fl with
    | ret u =>
      obtain ⟨v, H2, os2, bare2, un2, hok2, rv, ev, q2⟩ := hq'
      subst ev
      exact ⟨rv, .ref _, H2, J2.call' (ch := []) os2 un2 hok2 bare2 (fun b z => absurd z (by simp)), rfl, q2⟩
    | next => exact False.elim hq'
    | brk => exact False.elim hq'
    | cont => exact False.elim hq'
/-- an error of the class at D stands at a -/
def ErrAt (H : Hp) (a D : Addr) : Prop := (∃ (d : Addr) (fs : List (Str × V)), H a = some (exo a D (some d)) ∧ H d = some (exd d fs)) ∨ H a = some (ExO (.ref D) a)
theorem err_inst {pins : List (Addr × Obj)} {σ : St} {H : Hp} {s : Shared} {a D : Addr} (I : Inv X pins σ H s) (h : ErrAt H a D) : ∃ ox od, PySem.W.InstAt s.heap a ox D od := by
  rcases h with ⟨d, fs, h1, h2⟩ | h1
  · obtain ⟨t1, ho⟩ := exo_at I.hok h1
    obtain ⟨mA, hns, _⟩ := exd_at I.hok h2
    obtain ⟨od, hod, _⟩ := lookIn_ns hns
    exact ⟨_, some od, ho, rfl, rfl, hod⟩
  · have z : ObjOk X.prog X.w H s.heap a (ExO (.ref D) a) := I.hok a _ h1
    obtain ⟨⟨oe, vs, e, zc, d, _⟩, _⟩ := z
    refine ⟨oe, none, e, zc.1, by unfold PySem.W.notCls; rw [d] <;> rfl, ?_⟩
    rw [zc.2]
    trivial
/-- isinstance(e, c) of such an error -/
def rIsX (K : PySem.W.Frag) : List V → Hp → VK → Prop := fun xs H Q => ∃ (a D : Addr) (c : V) (cv : Value) (b : Bool), xs = [.ref a, c] ∧ ClsV c cv ∧ IcC K D ∧ ErrAt H a D ∧ PySem.W.kitOne K (.ref D) cv = some b ∧ Q (.bl b) H
theorem call_isX : CallR X (.builtin "isinstance") (rIsX X.K) := by
  intro pins s σ H xs us Q I r h
  obtain ⟨a, D, c, cv, b, rfl, hcv, C, he, e, q⟩ := h
  cases r with
  | cons rx rr =>
    cases rr with
    | cons rt rn =>
      cases rn
      cases rx
      have ec := hcv.eq rt
      subst ec
      obtain ⟨ox, od, J⟩ := err_inst I he
      exact PySem.W.kia_one (PySem.W.kitx_exc C.cl C.xf.ga C.xf.gg C.xf.exC C.ha C.hn C.ht C.hm) I.kIn J e (fun z => nomatch z) fun tk => ⟨.bl b, H, I.kept (t' := tk) fun _ _ z => z, rfl, q⟩
/-- e.f of such an error -/
def tXfV (K : PySem.W.Frag) (f : Str) (te : TE) : TE := fun σ H Q => te σ H fun x H1 => ∃ (a C d : Addr) (fs : List (Str × V)) (v : V), x = .ref a ∧ XfC K C ∧ PySem.W.findIn K (.ref C) f = some none ∧ H1 a = some (exo a C (some d)) ∧ H1 d = some (exd d fs) ∧ fs.lookup f = some v ∧ Q v H1
theorem pe_xfv {e : Expr} {te : TE} {f : Str} (he : PE X e te) (hb : attributeBase e f X.env (eval e X.env) = eval e X.env := by rfl) : PE X (.Attribute e f qc) (tXfV X.K f te) := by
  refine ⟨fun pins s σ H Q I h => ?_⟩
  refine attr_of hb (thn (he.run pins s σ H _ I h) fun u s1 hh => ?_)
  obtain ⟨x, H1, I1, rx, a, C, d, fs, v, rfl, T, hno, ea, ed, l, q⟩ := hh
  obtain rfl : u = Value.ref a := rx
  obtain ⟨t1, ho⟩ := exo_at I1.hok ea
  obtain ⟨mA, hns, hr⟩ := exd_at I1.hok ed
  obtain ⟨od, hod, hl⟩ := lookIn_ns hns
  obtain ⟨u, hu, ru⟩ := RelO.some_of (v := v) (o := mA f) (by rw [← l]; exact hr f)
  have J : PySem.W.InstAt s1.heap a _ C (some od) := ⟨ho, rfl, rfl, hod⟩
  exact HandSPX.exc_get I1.kIn J T.ga T.gg T.exC (PySem.W.findObj_own T.hdC hno rfl (by rw [hl, hu])) (handed_of ru) ⟨v, H1, I1.tok _, ru, q⟩
/-- one rule or the other -/
theorem op_or2 {f : Value → Value → Sem Value} {r r' : R2} (h : OpR X f r) (h' : OpR X f r') : OpR X f (fun x y H Q => r x y H Q ∨ r' x y H Q) := by
  intro pins s σ H x y v u Q I rx ry q
  rcases q with q | q
  · exact h pins s σ H x y v u Q I rx ry q
  · exact h' pins s σ H x y v u Q I rx ry q
end
end L2
namespace L2
open PySem PySem.Spec PyProof.Rows
/-- what __init__ of such a class keeps: one field, two fields -/
def sp_err1 (C : Addr) (f : Str) : Sp := fun vs H Q _ => ∃ (a : Addr) (v : V), vs = [.ref a, v] ∧ H a = some (exo a C none) ∧ ∀ d H2, H d = none → d ≠ a → (∀ b, b ≠ a → b ≠ d → H2 b = H b) → H2 a = some (exo a C (some d)) → H2 d = some (exd d [(f, v)]) → Q .non H2
def sp_err2 (C : Addr) (f g : Str) : Sp := fun vs H Q _ => ∃ (a : Addr) (v w : V), vs = [.ref a, v, w] ∧ H a = some (exo a C none) ∧ ∀ d H2, H d = none → d ≠ a → (∀ b, b ≠ a → b ≠ d → H2 b = H b) → H2 a = some (exo a C (some d)) → H2 d = some (exd d [(g, w), (f, v)]) → Q .non H2
section
variable {K : PySem.W.Frag} {C a : Addr} {f g z : Str} {v w : V} {H : Hp} {Q : VK}
theorem err1_run (T : OexC K C) (n1 : PySem.W.findIn K (.ref C) f = some none) (ha : H a = some (exo a C none)) (k : ∀ d H2, H d = none → d ≠ a → (∀ b, b ≠ a → b ≠ d → H2 b = H b) → H2 a = some (exo a C (some d)) → H2 d = some (exd d [(f, v)]) → Q .non H2) :
    tSeq (tDrop (tVeI K (tCons (tVar 0) (tCons (tC (.str z)) tNil)))) (tOst K f (tVar 0) (tVar 1)) { nx := fun _ H' => Q .non H', rt := Q } [some (.ref a), some v] H := by
  refine ⟨_, rfl, a, C, _, rfl, (by show 1 ≤ 1000; omega), T, ha, _, rfl, _, rfl, a, C, rfl, T, n1, .inl ⟨ha, fun d hd hne => ?_⟩⟩
  refine k d _ hd hne (fun b h1 h2 => by rw [upd_ne h1, upd_ne h2]) upd_same ?_
  rw [upd_ne hne, upd_same]
theorem err2_run (T : OexC K C) (n1 : PySem.W.findIn K (.ref C) f = some none) (n2 : PySem.W.findIn K (.ref C) g = some none) (ha : H a = some (exo a C none)) (k : ∀ d H2, H d = none → d ≠ a → (∀ b, b ≠ a → b ≠ d → H2 b = H b) → H2 a = some (exo a C (some d)) → H2 d = some (exd d [(g, w), (f, v)]) → Q .non H2) :
    tSeq (tDrop (tVeI K (tCons (tVar 0) (tCons (tC (.str z)) tNil)))) (tSeq (tOst K f (tVar 0) (tVar 1)) (tOst K g (tVar 0) (tVar 2))) { nx := fun _ H' => Q .non H', rt := Q } [some (.ref a), some v, some w] H := by
  refine ⟨_, rfl, a, C, _, rfl, (by show 1 ≤ 1000; omega), T, ha, _, rfl, _, rfl, a, C, rfl, T, n1, .inl ⟨ha, fun d hd hne => ?_⟩⟩
  have e1 : upd (upd H d (exd d [(f, v)])) a (exo a C (some d)) d = some (exd d [(f, v)]) := by rw [upd_ne hne, upd_same]
  refine ⟨_, rfl, _, rfl, a, C, rfl, T, n2, .inr ⟨d, _, upd_same, e1, (by show 1 ≤ 900; omega), ?_⟩⟩
  refine k d _ hd hne (fun b h1 h2 => by rw [upd_ne h2, upd_ne h1, upd_ne h2]) ?_ upd_same
  rw [upd_ne hne.symm, upd_same]
theorem c_xfv {te : TE} {σ : St} (h : te σ H fun x H1 => ∃ (a C d : Addr) (fs : List (Str × V)) (v : V), x = .ref a ∧ XfC K C ∧ PySem.W.findIn K (.ref C) f = some none ∧ H1 a = some (exo a C (some d)) ∧ H1 d = some (exd d fs) ∧ fs.lookup f = some v ∧ Q v H1) : tXfV K f te σ H Q := h
/-- the same, what is asked told by one word -/
def MkE (C : Addr) (sp : Sp) (vs : List V) (H : Hp) (Q : VK) : Prop := vs.length ≤ 1000 ∧ ∀ a, H a = none → sp (.ref a :: vs) (upd H a (exo a C none)) (fun v H2 => v = .non ∧ Q (.ref a) H2) (fun _ _ _ => False)
theorem c_mkv {sp : Sp} {ta : TA} {σ : St} (h : ta σ H fun vs H1 => MkE C sp vs H1 Q) : tMkV C sp ta σ H Q := h
/-- an error of the class at C with these fields, at a, its dict at d -/
def Er (H : Hp) (a C d : Addr) (fs : List (Str × V)) : Prop := H a = some (exo a C (some d)) ∧ H d = some (exd d fs)
theorem Er.up {H H2 : Hp} {a C d : Addr} {fs : List (Str × V)} (h : Er H a C d fs) (e : Evl.Ex H H2) : Er H2 a C d fs := ⟨e _ _ h.1, e _ _ h.2⟩
theorem Er.at {H : Hp} {a C d : Addr} {fs : List (Str × V)} (h : Er H a C d fs) : ErrAt H a C := .inl ⟨d, fs, h.1, h.2⟩
theorem mkv1 (k : ∀ a d H2, H a = none → H d = none → Evl.Ex H H2 → Er H2 a C d [(f, v)] → Q (.ref a) H2) : MkE C (sp_err1 C f) [v] H Q := by
  refine ⟨by show 1 ≤ 1000; omega, fun a ha => ⟨a, v, rfl, upd_same, fun d H2 hd hne hk h1 h2 => ⟨rfl, ?_⟩⟩⟩
  rw [upd_ne hne] at hd
  refine k a d H2 ha hd (fun b o hb => ?_) ⟨h1, h2⟩
  have nb := ne_of_none hb ha
  rw [hk b nb (ne_of_none hb hd), upd_ne nb]
  exact hb
theorem mkv2 (k : ∀ a d H2, H a = none → H d = none → Evl.Ex H H2 → Er H2 a C d [(g, w), (f, v)] → Q (.ref a) H2) : MkE C (sp_err2 C f g) [v, w] H Q := by
  refine ⟨by show 2 ≤ 1000; omega, fun a ha => ⟨a, v, w, rfl, upd_same, fun d H2 hd hne hk h1 h2 => ⟨rfl, ?_⟩⟩⟩
  rw [upd_ne hne] at hd
  refine k a d H2 ha hd (fun b o hb => ?_) ⟨h1, h2⟩
  have nb := ne_of_none hb ha
  rw [hk b nb (ne_of_none hb hd), upd_ne nb]
  exact hb
end
end L2
namespace L2
open PySem PySem.Spec PyProof.Rows
/-- of the error classes Cs each is of itself alone, of B, of ValueError -/
def kinB (K : PySem.W.Frag) (Cs : List Addr) : Bool := (List.range Cs.length).all fun i => (List.range Cs.length).all fun j => match Cs[i]?, Cs[j]? with
  | some D, some C => decide (PySem.W.kitOne K (.ref D) (.ref C) = some (decide (i = j)))
  | _, _ => true
def famB (K : PySem.W.Frag) (B : Addr) (Cs : List Addr) : Bool := (Cs.all fun D => decide (PySem.W.kitOne K (.ref D) (.ref B) = some true) && (decide (PySem.W.kitOne K (.ref D) (.type "ValueError") = some true) && decide (PySem.W.kitOne K (.ref B) (.ref D) = some false))) && (decide (PySem.W.kitOne K (.ref B) (.type "ValueError") = some true) && kinB K Cs)
structure Fam (K : PySem.W.Frag) (B : Addr) (Cs : List Addr) : Prop where
  b : ∀ D ∈ Cs, PySem.W.kitOne K (.ref D) (.ref B) = some true
  v : ∀ D ∈ Cs, PySem.W.kitOne K (.ref D) (.type "ValueError") = some true
  n : ∀ D ∈ Cs, PySem.W.kitOne K (.ref B) (.ref D) = some false
  bv : PySem.W.kitOne K (.ref B) (.type "ValueError") = some true
  k : ∀ (i j : Nat) (D C : Addr), Cs[i]? = some D → Cs[j]? = some C → PySem.W.kitOne K (.ref D) (.ref C) = some (decide (i = j))
theorem famB_ok {K : PySem.W.Frag} {B : Addr} {Cs : List Addr} (h : famB K B Cs = true) : Fam K B Cs := by
  unfold famB at h
  rw [Bool.and_eq_true, Bool.and_eq_true] at h
  obtain ⟨h1, h2, h3⟩ := h
  have h1' := List.all_eq_true.mp h1
  simp only [Bool.and_eq_true, decide_eq_true_eq] at h1'
  refine ⟨fun D hD => (h1' D hD).1, fun D hD => (h1' D hD).2.1, fun D hD => (h1' D hD).2.2, of_decide_eq_true h2, fun i j D C hi hj => ?_⟩
  unfold kinB at h3
  have q := List.all_eq_true.mp (List.all_eq_true.mp h3 i (List.mem_range.mpr (List.getElem?_eq_some_iff.mp hi).1)) j (List.mem_range.mpr (List.getElem?_eq_some_iff.mp hj).1)
  rw [hi, hj] at q
  exact of_decide_eq_true q
theorem ErrAt.up {H H2 : Hp} {a D : Addr} (h : ErrAt H a D) (e : Evl.Ex H H2) : ErrAt H2 a D := by
  rcases h with ⟨d, fs, h1, h2⟩ | h1
  · exact .inl ⟨d, fs, e _ _ h1, e _ _ h2⟩
  · exact .inr (e _ _ h1)
theorem is_x {K : PySem.W.Frag} {H : Hp} {Q : VK} {a D : Addr} {c : V} {cv : Value} {b : Bool} (hc : ClsV c cv) (ic : IcC K D) (h : ErrAt H a D) (e : PySem.W.kitOne K (.ref D) cv = some b) (q : Q (.bl b) H) : rIsX K [.ref a, c] H Q := ⟨a, D, c, cv, b, rfl, hc, ic, h, e, q⟩
end L2

/-! ### more loops, more comparisons -/
namespace L2
open PySem PySem.Spec PyProof.Rows
section
variable {K : PySem.W.Frag} {σ : St} {H : Hp} {D : Ends} {Q : VK} {g : TG} {tb : TS} {tt : TT} {te : TE} {vs : List Nat} {ta : TA}
theorem c_forE (h : ta σ H fun ws H1 => ∃ a xs, ws = [.ref a] ∧ SqL K H1 a xs ∧ ForI (Ite K a) g tb D σ H1) : tFor (iEnum K ta) g tb D σ H := h
theorem c_lcZi (h : ta σ H fun ws H1 => ∃ a b xs ys, ws = [.ref a, .ref b] ∧ SqL K H1 a xs ∧ SqL K H1 b ys ∧ LcI (Itz K a b) g tt te vs σ H1 Q) : tLc (iZip K ta) g tt te vs σ H Q := h
/-- for i, x in enumerate(l) -/
theorem forE {a : Addr} {xs : List V} (Pv : Nat → St → Hp → Prop) (h0 : Pv 0 σ H) (hl : ∀ i σ' H', i ≤ xs.length → Pv i σ' H' → SqL K H' a xs)
    (hs : ∀ i x T σ' H', xs[i]? = some x → Pv i σ' H' → H' T = none → g (.ref T) σ' (upd H' T (.tup [.int (i : Nat), x])) fun σ2 H2 => tb { D with nx := Pv (i + 1), ct := Pv (i + 1), bk := D.nx } σ2 H2)
    (hd : ∀ σ' H', Pv xs.length σ' H' → D.nx σ' H') : ForI (Ite K a) g tb D σ H :=
  for_it walk_enum Pv h0 (fun i σ' H' hi p => hl i σ' H' hi p) (fun i v σ' H' H'' hi p y => by
    obtain ⟨T, x, z, rfl, hT, rfl, ex, ez⟩ := y
    cases ex
    exact hs i z T σ' H' ez p hT) hd
/-- [.. for x in l], each thing made so that P holds of it, whatever is done to the list or made behind it -/
theorem lcLP {a : Addr} {xs : List V} (P : Addr → Nat → V → Hp → Prop) (hst : ∀ D i y G G2, ExB D G G2 → P D i y G → P D i y G2) (hs : SqL K H a xs) (hn : xs.length ≤ 1000)
    (ht : ∀ (D : Addr) (i : Nat) (x : V), H D = none → xs[i]? = some x → ∀ H2, Evl.Ex H H2 → (∃ o, H2 D = some o) → ∀ (R : V → Hp → Prop) (N : Hp → Prop), (∀ y H3, Evl.Ex H2 H3 → P D i y H3 → R y H3) →
      g x (wipe σ vs) H2 fun σ2 H3 => wipe σ2 vs = wipe σ vs ∧ tt σ2 H3 fun c H4 => if c = true then te σ2 H4 fun y H5 => R y H5 else N H4)
    (k : ∀ ys p H2, ys.length = xs.length → (∀ i y, ys[i]? = some y → P p i y H2) → H p = none → Evl.Ex H H2 → H2 p = some (.lst ys) → Q (.ref p) H2) : LcI (Itl K a) g tt te vs σ H Q := by
  refine fun D hD => ?_
  have ex : ∀ {G : Hp} {o : HO}, Evl.Ex H G → Evl.Ex H (upd G D o) := fun e b u hb => by rw [upd_ne (ne_of_none hb hD)]; exact e b u hb
  refine lc_list (xs := xs) (fun i H' => i ≤ xs.length ∧ Evl.Ex H H' ∧ ∃ ys, ys.length = i ∧ (∀ j y, ys[j]? = some y → P D j y H') ∧ H' D = some (.lst ys))
    ⟨Nat.zero_le _, ex (Evl.Ex.refl _), [], rfl, (fun j y h => by simp at h), upd_same⟩ (fun i H' _ p => Evl.ex_l p.2.1 hs) (fun i x H' hi p => ?_) (fun H' p => ?_)
  · obtain ⟨_, e1, ys, hl, hy, hD'⟩ := p
    have hil := (List.getElem?_eq_some_iff.mp hi).1
    refine ht D i x hD hi H' e1 ⟨_, hD'⟩ (fun y H4 => ∃ acc, H4 D = some (.lst acc) ∧ acc.length < sizeLine ∧ (i + 1 ≤ xs.length ∧ Evl.Ex H (upd H4 D (.lst (acc ++ [y]))) ∧ ∃ zs, zs.length = i + 1 ∧ (∀ j y2, zs[j]? = some y2 → P D j y2 (upd H4 D (.lst (acc ++ [y])))) ∧ upd H4 D (.lst (acc ++ [y])) D = some (.lst zs))) _ (fun y H3 e3 py => ?_)
    have eD : ExB D H3 (upd H3 D (.lst (ys ++ [y]))) := fun b o nb hb => by rw [upd_ne nb]; exact hb
    refine ⟨ys, e3 _ _ hD', Evl.sz_lt (by omega), hil, ex (e1.trans e3), ys ++ [y], by rw [List.length_append, hl]; rfl, fun j y2 hj => ?_, upd_same⟩
    rcases Nat.lt_or_ge j ys.length with h | h
    · rw [List.getElem?_append_left h] at hj
      exact hst _ _ _ _ _ eD (hst _ _ _ _ _ (fun b o _ hb => e3 b o hb) (hy j y2 hj))
    · rw [List.getElem?_append_right h] at hj
      have hj0 : j - ys.length = 0 := by
        have := (List.getElem?_eq_some_iff.mp hj).1
        rw [List.length_singleton] at this
        omega
      rw [hj0] at hj
      have hyy : y = y2 := by simpa using hj
      subst hyy
      have : j = i := by omega
      subst this
      exact hst _ _ _ _ _ eD py
  · obtain ⟨_, e1, ys, hl, hy, hD'⟩ := p
    exact k ys D H' hl hy hD e1 hD'
/-- what stands outside of S stays -/
def ExS (S : Addr → Prop) (H H2 : Hp) : Prop := ∀ a o, ¬ S a → H a = some o → H2 a = some o
theorem ExS.refl {S : Addr → Prop} (H : Hp) : ExS S H H := fun _ _ _ h => h
theorem ExS.trans {S : Addr → Prop} {H H2 H3 : Hp} (h : ExS S H H2) (k : ExS S H2 H3) : ExS S H H3 := fun a o n q => k a o n (h a o n q)
theorem ExS.of {S : Addr → Prop} {H H2 : Hp} (h : Evl.Ex H H2) : ExS S H H2 := fun a o _ q => h a o q
/-- [f(x, y) for x, y in zip(l, m)], where each answer is True, and only what is in S may change -/
theorem lcZ {S : Addr → Prop} {a b : Addr} {xs ys : List V} (J : Nat → Hp → Prop) (hab : xs.length = ys.length) (hn : xs.length ≤ 1000) (ha : ∀ G, ExS S H G → SqL K G a xs) (hb : ∀ G, ExS S H G → SqL K G b ys) (h0 : J 0 H) (hJ : ∀ i G D o, H D = none → J i G → J i (upd G D o)) (hS : ∀ z, S z → H z ≠ none)
    (ht : ∀ (i : Nat) (x y : V), xs[i]? = some x → ys[i]? = some y → ∀ H2 T, ExS S H H2 → J i H2 → H2 T = none → ∀ (R : V → Hp → Prop) (N : Hp → Prop), (∀ H3, ExS S (upd H2 T (.tup [x, y])) H3 → J (i + 1) H3 → R (.bl true) H3) →
      g (.ref T) (wipe σ vs) (upd H2 T (.tup [x, y])) fun σ2 H3 => wipe σ2 vs = wipe σ vs ∧ tt σ2 H3 fun c H4 => if c = true then te σ2 H4 fun y H5 => R y H5 else N H4)
    (k : ∀ p H2, H p = none → ExS S H H2 → J xs.length H2 → H2 p = some (.lst (List.replicate xs.length (.bl true))) → Q (.ref p) H2) : LcI (Itz K a b) g tt te vs σ H Q := by
  refine fun D hD => ?_
  have nSD : ¬ S D := fun z => hS D z hD
  have ex : ∀ {G : Hp} {o : HO}, ExS S H G → ExS S H (upd G D o) := fun e c u nc hc => by rw [upd_ne (ne_of_none hc hD)]; exact e c u nc hc
  refine lc_it (walk_zip (xs := xs) (ys := ys) (n := xs.length) (by omega)) (fun i H' => i ≤ xs.length ∧ ExS S H H' ∧ J i H' ∧ H' D = some (.lst (List.replicate i (.bl true)))) ⟨Nat.zero_le _, ex (ExS.refl _), hJ _ _ _ _ hD h0, upd_same⟩ (fun i H' _ p => ⟨ha _ p.2.1, hb _ p.2.1⟩) (fun i v H' H'' hi p y => ?_) (fun H' p => k D H' hD p.2.1 p.2.2.1 p.2.2.2)
  obtain ⟨T, x, z, rfl, hT, rfl, ex1, ez⟩ := y
  obtain ⟨_, e1, j1, hD'⟩ := p
  have nTD : D ≠ T := ne_of_none hD' hT
  refine ht i x z ex1 ez H' T e1 j1 hT (fun y H4 => ∃ acc, H4 D = some (.lst acc) ∧ acc.length < sizeLine ∧ (i + 1 ≤ xs.length ∧ ExS S H (upd H4 D (.lst (acc ++ [y]))) ∧ J (i + 1) (upd H4 D (.lst (acc ++ [y]))) ∧ upd H4 D (.lst (acc ++ [y])) D = some (.lst (List.replicate (i + 1) (.bl true))))) _ (fun H3 e3 j3 => ?_)
  refine ⟨_, e3 D _ nSD (by rw [upd_ne nTD]; exact hD'), ?_, hi, ex ?_, hJ _ _ _ _ hD j3, ?_⟩
  · rw [List.length_replicate]
    exact Evl.sz_lt (by omega)
  · refine fun c o nc hc => e3 c o nc ?_
    have h1 := e1 c o nc hc
    rw [upd_ne (ne_of_none h1 hT)]
    exact h1
  · rw [upd_same, List.replicate_succ'] <;> rfl
end
/-! == and != of dicts of flat things -/
def eqK (ks ls : List (Key × V)) : Bool := ks.length == ls.length && ks.all fun p => match valV ls p.1 with
  | some u => eqV p.2 u
  | none => false
section
variable {X : Cx} {pins : List (Addr × Obj)} {σ : St} {H : Hp} {s : Shared}
theorem hitsK (I : Inv X pins σ H s) (hu : X.A.units + 66 < cLine) {ls : List (Key × V)} {vb : List (Key × Value)} (rb : KV ls vb) (fl : ∀ k u, valV ls k = some u → okV u = true) {ks : List (Key × V)} {va : List (Key × Value)} (ra : KV ks va) (fk : ∀ p ∈ ks, okV p.2 = true) :
    PySem.W.KeqHits X.A.in1 s vb va (ks.all fun p => match valV ls p.1 with | some u => eqV p.2 u | none => false) := by
  unfold KV at ra
  induction ra with
  | nil => exact .nil
  | @cons p q ps qs h t ih =>
    obtain ⟨key, v⟩ := q
    obtain ⟨h1, h2⟩ := h
    have h1' : p.1 = key := h1
    have ih' := ih fun p' hm => fk p' (List.mem_cons_of_mem _ hm)
    rw [List.all_cons]
    have rr : RelO (valV ls p.1) (PySem.valueAt vb p.1) := rb.val p.1
    rw [h1'] at rr ⊢
    cases e : valV ls key with
    | none =>
      rw [e] at rr
      cases e2 : PySem.valueAt vb key with
      | none => exact .miss e2
      | some y =>
        rw [e2] at rr
        exact rr.elim
    | some u =>
      rw [e] at rr
      obtain ⟨y, hy, ry⟩ := rr.some_of
      have fp := fk p List.mem_cons_self
      have fu := fl key u e
      obtain ⟨as, r1⟩ := Dp.reads I (dOf p.2) p.2 v (dp_flat (okV_flat fp)) h2
      obtain ⟨bs, r2⟩ := Dp.reads I (dOf u) u y (dp_flat (okV_flat fu)) ry
      have z := PySem.W.keq_at (A := X.A) r1 r2 (shaped_flat fp) (shaped_flat fu) (by show X.A.units + 1 + 64 < cLine; omega)
      rw [eqv_flat (okV_flat fp) (okV_flat fu)] at z
      exact .hit hy z ih'
def rEqK : R2 := fun x y H Q => ∃ (a b : Addr) (ks ls : List (Key × V)), x = .ref a ∧ y = .ref b ∧ H a = some (.dK ks) ∧ H b = some (.dK ls) ∧ (∀ p ∈ ks, okV p.2 = true) ∧ (∀ k u, valV ls k = some u → okV u = true) ∧ Q (.bl (eqK ks ls)) H
def rNeK : R2 := fun x y H Q => ∃ (a b : Addr) (ks ls : List (Key × V)), x = .ref a ∧ y = .ref b ∧ H a = some (.dK ks) ∧ H b = some (.dK ls) ∧ (∀ p ∈ ks, okV p.2 = true) ∧ (∀ k u, valV ls k = some u → okV u = true) ∧ Q (.bl (!eqK ks ls)) H
theorem op_eqK (hu : X.A.units + 66 < cLine) : OpR X (compareOp .Eq) rEqK := by
  intro pins s σ H x y v u Q I rx ry h
  obtain ⟨a, b, ks, ls, rfl, rfl, ha, hb, fk, fl, q⟩ := h
  cases (show v = Value.ref a from rx)
  cases (show u = Value.ref b from ry)
  obtain ⟨_, ya, va, ra, da⟩ := (show ObjOk X.prog X.w H s.heap a (.dK ks) from I.hok a _ ha)
  obtain ⟨_, yb, vb, rb, db⟩ := (show ObjOk X.prog X.w H s.heap b (.dK ls) from I.hok b _ hb)
  refine PySem.W.keq_eq (knd := mixKind X.prog X.w) ya yb da db (by omega) (fun _ => hitsK I hu rb fl ra fk) ?_
  rw [← ra.length, ← rb.length]
  exact ⟨.bl _, H, I, rfl, q⟩
theorem op_neK (hu : X.A.units + 66 < cLine) : OpR X (compareOp .NotEq) rNeK := by
  intro pins s σ H x y v u Q I rx ry h
  obtain ⟨a, b, ks, ls, rfl, rfl, ha, hb, fk, fl, q⟩ := h
  cases (show v = Value.ref a from rx)
  cases (show u = Value.ref b from ry)
  obtain ⟨_, ya, va, ra, da⟩ := (show ObjOk X.prog X.w H s.heap a (.dK ks) from I.hok a _ ha)
  obtain ⟨_, yb, vb, rb, db⟩ := (show ObjOk X.prog X.w H s.heap b (.dK ls) from I.hok b _ hb)
  refine PySem.W.keq_ne (knd := mixKind X.prog X.w) ya yb da db (by omega) (fun _ => hitsK I hu rb fl ra fk) ?_
  rw [← ra.length, ← rb.length]
  exact ⟨.bl _, H, I, rfl, q⟩
end
theorem hu66 {A : Around} {k : Nat} (hr : Room k A) : A.units + 66 < cLine := by have := hr.un; omega
end L2

/-! ### defs that may show things by repr: no repr stands above them -/
namespace L2
open PySem PySem.Spec PyProof.Rows
/-- FnOk where nothing is being shown yet -/
structure FnG (P : Program) (w : World) (K : PySem.W.Frag) (mg : Str → Option Value) (base : Heap) (CX : CXT) (k : Nat) (f : Addr) (fd : FuncData) (ps : List Str) (sp : Sp) : Prop where
  len : ∀ vs H Q E, sp vs H Q E → vs.length = ps.length
  run : ∀ (A : Around) (outer : List Env) (s : Shared) (H : Hp) (args : Args) (us : List Value) (vs : List V) (Q : VK) (E : XK), A.guards = some [] → Room k A → Env0 P w K mg base A outer s H → BindsTo s fd args (ps.zip us) → Vals vs us → sp vs H Q E →
    codeAny (model P w) A (.call (.ref f) args) (CR CX outer P w H s Q E) s
section
variable {P : Program} {w : World} {K : PySem.W.Frag} {mg : Str → Option Value} {base : Heap} {CX : CXT} {k : Nat} {f : Addr} {fd : FuncData} {ps : List Str} {sp : Sp}
theorem FnOk.g (F : FnOk P w K mg base CX k f fd ps sp) : FnG P w K mg base CX k f fd ps sp := ⟨F.len, fun A o s H ar us vs Q E _ => F.run A o s H ar us vs Q E⟩
theorem deeper_guards {A : Around} {env : Env} : (A.deeper env).guards = A.guards := by
  first
    | rfl
    | simp [Around.deeper]
end
section
variable {P : Program} {w : World} {K : PySem.W.Frag} {mg : Str → Option Value} {base : Heap}
/-- a def by its body, as Fun.ok, the body told that nothing is being shown -/
theorem Fun.okG {x qual : Str} {st : Stmt} {f : Addr} {fd : FuncData} {N ps : List Str} {k : Nat} {sp : Sp} (F : Fun K x qual st f fd) (S : FnScope N ps (defScope st)) (len : ∀ vs H Q E, sp vs H Q E → vs.length = ps.length)
    (hb : ∀ (cdv : Value) (A : Around) (outer : List Env) (s : Shared) (H : Hp) (vs : List V) (Q : VK) (E : XK), A.guards = some [] → Room k (A.deeper (envOfC qual (defScope st) s.heap.objs.size f cdv)) → sp vs H Q E →
      ∃ t, PSs (cxOf CX0 P w K mg base N qual (defScope st) f cdv A outer s H E).nox (defBody st) t ∧ t { nx := fun _ H' => Q .non H', rt := Q } (start N vs) H) : FnG P w K mg base CX0 (k + 1) f fd ps sp := by
  obtain ⟨oc, od, kV, doc, pm, an, cdv, ct, osl, rfl, lk, hcd⟩ := F.ex
  refine ⟨len, fun A outer s H args us vs Q E hgd hr env0 bnd rel hsp => ?_⟩
  have hlv := len _ _ _ _ hsp
  have kin : K.In s.heap := env0.mod.kin.keeps fun b o z => (env0.bs b o z).1
  have nol : s.heap.NoLimit := env0.mod.nolimit.keeps fun b o z => (env0.bs b o z).1
  have knd : ∀ y ∈ ps.zip us, (defScope st).names.lookup y.1 = some .local ∨ ((defScope st).names.lookup y.1 = some .cell ∧ ((cellsFrom (s.heap.objs.size + 1) (defScope st).names []).lookup y.1).isSome = true) := by
    rintro ⟨n, v⟩ hy
    rcases S.par n (List.of_mem_zip hy).1 with q | q
    · exact .inl q
    · exact .inr ⟨q, PySem.W.cellsFrom_some _ _ _ (.inl q)⟩
  refine codeAny_call_function hr.depth (kin _ _ lk) rfl S.co S.gen rfl (PySem.W.codeRec_of kin hcd) (bnd _ _ _ _ ?_)
  refine wpAny_newFunctionEnv_cells S.kind knd fun env henv s1 ic => ?_
  subst henv
  refine ⟨nol.keeps ic.toInCall.keep, codeAny_func ?_⟩
  obtain ⟨t, ht0, hq⟩ := hb cdv A outer s H vs Q E hgd (hr.deeper _) hsp
  have ht := ht0.nox
  have J0 : Inv (cxOf CX0 P w K mg base N qual (defScope st) f cdv A outer s H E) [] (start N vs) H s1 := inv_start S hr.hd env0 hlv rel ic
  refine wpAny_mono (ht.run [] s1 (start N vs) H _ J0 hq) (fun fl s' hs => ?_) fun _ _ z => z
  have done : ∀ {σ' : St} {H' : Hp} {v : V} {u : Value}, Inv (cxOf CX0 P w K mg base N qual (defScope st) f cdv A outer s H E) [] σ' H' s' → RelV v u → Q v H' → CE outer P w H s Q u s' :=
    fun {σ' H' v u} J r q => ⟨v, H', J.os, J.bare, J.base, J.hok, r, q⟩
  cases fl with
  | ret u => obtain ⟨v, σ', H', J, r, q⟩ := hs; exact done J r q
  | next => obtain ⟨σ', H', J, q⟩ := hs; exact done (v := V.non) (u := Value.none) J rfl q
  | brk => obtain ⟨_, _, _, q⟩ := hs; exact False.elim q
  | cont => obtain ⟨_, _, _, q⟩ := hs; exact False.elim q
end
section
variable {X : Cx} {CX : CXT} {k : Nat} {f : Addr} {fd : FuncData} {ps : List Str} {sp : Sp} {E : XK} {x : Str} {a1 : Expr} {ar : List Expr} {ta : TA} {q1 qc : Pos}
theorem run_fnG {pins : List (Addr × Obj)} {σ : St} {H : Hp} {s : Shared} {Q : VK} {us : List Value} {vs : List V} (hgd : X.A.guards = some []) (F : FnG X.prog X.w X.K X.mg X.base CX k f fd ps sp) (hr : Room k X.A) (hb : Binds X.K fd ps []) (hx : Passes CX X E)
    (I : Inv X pins σ H s) (r : Vals vs us) (h : sp vs H Q E) : wpAny (model X.prog X.w) X.A (call (.ref f) us) (EP X pins σ Q) X.xe s := by
  have hl : (us ++ []).length = ps.length := by
    rw [List.append_nil, ← r.length]
    exact F.len _ _ _ _ h
  have bb := hb s us I.kIn hl
  rw [List.append_nil] at bb
  refine wpAny_call (codeAny_mono (F.run X.A X.stack s H ⟨us, []⟩ us vs Q E hgd hr I.env0 bb r h) fun rs s' hq => ?_)
  cases rs with
  | error er => exact hx pins σ H s er s' I hq
  | ok fl =>
    cases fl with
    | ret u => exact I.after hq
    | next => exact False.elim hq
    | brk => exact False.elim hq
    | cont => exact False.elim hq
theorem pe_callG (hgd : X.A.guards = some []) (F : FnG X.prog X.w X.K X.mg X.base CX k f fd ps sp) (hr : Room k X.A) (hg : Gl X x) (hm : X.mg x = some (.ref f)) (hk : PySem.W.keepIn X.K (.ref f) = true) (hb : Binds X.K fd ps []) (hx : Passes CX X E) (ha : PA X (a1 :: ar) ta)
    (hdb : (x == ("__debug__" : Str)) = false := by decide) (hst : starEach (a1 :: ar) X.env = (false, eval a1 X.env) :: starEach ar X.env := by rfl) (hps : (backTo qc (starEach ar X.env)).any (·.1) = false := by rfl) :
    PE X (.Call (.Name x q1) (a1 :: ar) [] qc) (tCall sp [] E ta) := by
  refine ⟨fun pins s σ H Q I h => ?_⟩
  refine wpAny_Call_Name_kw (ld_glob I hg hm ?_ hdb)
  refine PySem.W.callWith_K (h₀ := X.base) I.ok.mod.kin hk (thn (ha.run qc pins s σ H _ I h) fun us s1 hh => ?_) hst hps
  obtain ⟨vs, H1, I1, r, q⟩ := hh
  rw [List.append_nil] at q
  exact ⟨I1.kIn, run_fnG hgd F hr hb hx I1 r q⟩
/-- repr of a thing made of flat things, lists, tuples -/
def rRepr (K : PySem.W.Frag) : List V → Hp → VK → Prop := fun xs H Q => ∃ (a : Addr) (d : PyData), xs = [.ref a] ∧ Dp K H (.ref a) d ∧ d.showable = true ∧ d.hasDict = false ∧ d.depth ≤ 60 ∧ d.shown.length ≤ sizeLine ∧ Q (.str d.shown) H
theorem call_reprD {n : Nat} (hgd : X.A.guards = some []) (hr : Room n X.A) : CallR X (.builtin "repr") (rRepr X.K) := by
  intro pins s σ H xs us Q I r h
  obtain ⟨a, d, rfl, hd, hs, hnd, hdp, hz, q⟩ := h
  cases r with
  | cons ra rr =>
    cases rr
    rename_i u
    cases (show u = Value.ref a from ra)
    obtain ⟨as, rd⟩ := Dp.reads I d _ _ hd rfl
    have hun := hr.un
    refine repr_of_reads' rd hs (fun z => by rw [hnd] at z; cases z) hgd (by omega) (fun _ _ z => z) (fun h' u tk hk => ?_) hz
    exact ⟨.str d.shown, H, I.kept (t' := tk) hk, ⟨_, rfl⟩, q⟩
end
end L2
namespace L2
open PySem PySem.Spec PyProof.Rows
theorem caller_guards : callerA.guards = some [] := rfl
/-- the law's call, as law_call, the promise over A with nothing shown -/
theorem law_callG {P : Program} {w : World} {K : PySem.W.Frag} {mg mb : Str → Option Value} {CX : CXT} {k : Nat} {fa a : Addr} {fd : FuncData} {x : Str} {sp : Sp} {z1 : Shared} {vs : List Value} {ns : List Int}
    (kin : K.In z1.heap) (hns : z1.heap.Ns mainGlobals mg) (hbn : z1.heap.Ns builtinsNs mb) (hbb : ∀ y : Str, y ≠ "__name__" → mb y = bootBuiltins y) (hlim : z1.heap.NoLimit) (hgen : z1.gens = #[])
    (hscr : z1.heap.get? a = some { cls := .type "list", data := .seq vs.toArray }) (hi : IntsAre vs ns) (hl : ns.length ≤ sizeLine) (hr : Room k callerA)
    (F : ∀ base : Heap, K.In base → base.Ns mainGlobals mg → FnG P w K mg base CX k fa fd [x] sp) (hbind : ∀ (s : Shared) (u : Value), BindsTo s fd ⟨[u], []⟩ [(x, u)])
    (hsp : ∀ H : Hp, Only H → SqL K H a (ns.map V.int) → sp [.ref a] H (fun v _ => v = .bl true) fun _ _ _ => False) (hCX : ∀ H e s', CX [] H z1 (fun _ _ _ => False) e s' → False) :
    codeAny (model P w) callerA (.call (.ref fa) ⟨[.ref a], []⟩) (fun r s' => r = .ok (.ret (.bool true)) ∧ OldK z1.heap s'.heap ∧ s'.os = z1.os ∧ AllBare s'.gens) z1 := by
  have rel := vals_ints hi
  have lenV := hi.length
  have core : ∀ H : Hp, Only H → SqL K H a (ns.map V.int) → HOk P w H z1.heap → (∀ b, H b ≠ none → b = a) → (H a ≠ none → K.lookup a = none) →
      codeAny (model P w) callerA (.call (.ref fa) ⟨[.ref a], []⟩) (fun r s' => r = .ok (.ret (.bool true)) ∧ OldK z1.heap s'.heap ∧ s'.os = z1.os ∧ AllBare s'.gens) z1 := by
    intro H hO hS hok hA hK
    have below : ∀ {b : Addr} {o : Obj}, z1.heap.get? b = some o → H b = none → (hidT z1.heap H).get? b = some o := fun q n => hidT_get q n
    have noDict : ∀ {b : Addr} {o : Obj} {es : Array DictEntry} {ep : Nat}, z1.heap.get? b = some o → o.data = .dict es ep → H b = none := by
      intro b o es ep q d
      cases hq : H b with
      | none => rfl
      | some u =>
        obtain rfl : b = a := hA b (by rw [hq]; simp)
        rw [hscr] at q
        cases q
        cases (show Data.seq vs.toArray _ = Data.dict es ep from d)
    have nsUp : ∀ {b : Addr} {m : Str → Option Value}, z1.heap.Ns b m → (hidT z1.heap H).Ns b m := by
      rintro b m ⟨o, es, ep, q, d, r⟩
      exact ⟨o, es, ep, below q (noDict q d), d, r⟩
    have kinB : K.In (hidT z1.heap H) := by
      intro b o q
      refine below (kin b o q) ?_
      cases hq : H b with
      | none => rfl
      | some u =>
        obtain rfl : b = a := hA b (by rw [hq]; simp)
        rw [hK (by rw [hq]; simp)] at q
        cases q
    have md : Mod K mg (hidT z1.heap H) := ⟨kinB, nsUp hns, ⟨mb, nsUp hbn, hbb⟩, let ⟨mc, h1, h2⟩ := hlim; ⟨mc, nsUp h1, h2⟩⟩
    have en0 : Env0 P w K mg (hidT z1.heap H) callerA [] z1 H := ⟨rfl, md, fun b o q => of_hidT q, Nat.le_of_eq (hidT_size _ _), trivial, fun b hb => absurd (show b ∈ ([] : List Addr) from hb) (by simp), hok, .of_eq hgen⟩
    refine codeAny_mono ((F _ kinB (nsUp hns)).run callerA [] z1 H ⟨[.ref a], []⟩ [.ref a] [.ref a] _ _ caller_guards hr en0 (hbind z1 (.ref a)) (.cons rfl .nil) (hsp H hO hS)) fun r s' h => ?_
    cases r with
    | error er => exact (hCX H er s' h).elim
    | ok fl =>
      cases fl with
      | next => exact False.elim h
      | brk => exact False.elim h
      | cont => exact False.elim h
      | ret u =>
        obtain ⟨v, H', hos, bare, un, hok', r', hv⟩ := h
        obtain rfl : v = .bl true := hv
        obtain rfl : u = Value.bool true := r'
        refine ⟨rfl, OldK.of_keep fun b o q => ?_, hos, bare⟩
        cases hq : H b with
        | none => exact un.keep b o q hq (fun z => absurd (show b ∈ ([] : List Addr) from z) (by simp)) (by simp)
        | some u =>
          rcases hO b with z | ⟨ob, xs, z⟩
          · rw [hq] at z
            cases z
          · obtain ⟨e1, _⟩ := hok b _ z
            obtain ⟨e2, _⟩ := hok' b _ (un.frzs b ob _ z)
            rw [q] at e1
            cases e1
            exact e2
  cases hk : K.lookup a with
  | some o =>
    have q := kin a o hk
    rw [hscr] at q
    cases q
    exact core (fun _ => none) (fun _ => .inl rfl) (.inr ⟨_, vs.toArray, _, hk, rfl, rfl, rfl, by rw [List.size_toArray, lenV]; exact hl, by simpa using rel⟩) (fun b u z => nomatch (show (none : Option HO) = some u from z)) (fun b z => absurd rfl z) (fun z => absurd rfl z)
  | none =>
    have hH : ∀ b, (if b = a then some (HO.frz { cls := .type "list", data := .seq vs.toArray } (.lst (ns.map V.int))) else none) ≠ none → b = a := fun b z => by
      by_cases hb : b = a
      · exact hb
      · exact absurd (if_neg hb) z
    refine core (fun b => if b = a then some (.frz { cls := .type "list", data := .seq vs.toArray } (.lst (ns.map V.int))) else none) (fun b => ?_) (.inl (.inr ⟨{ cls := .type "list", data := .seq vs.toArray }, if_pos rfl⟩)) (fun b u z => ?_) hH (fun _ => hk)
    · by_cases hb : b = a
      · exact .inr ⟨_, _, if_pos hb⟩
      · exact .inl (if_neg hb)
    · by_cases hb : b = a
      · cases (if_pos hb).symm.trans z
        subst hb
        exact ⟨hscr, by rw [List.length_map]; exact hl, vs, _, rel, hscr⟩
      · cases (if_neg hb).symm.trans z
theorem walk_ofG {l : PySem.W.OpenLaw} {n k : Nat} {q : Program} {loose : List Str} {XP : (Str → Option Value) → Heap → Prop} {YP : World → Heap → Prop} {d : DefRec} {K : Params → PySem.W.Frag} {CX : CXT} {sp : PySem.W.Frag → Sp} {x : Str}
    (hn : l.most = some n) (hn2 : n ≤ sizeLine) (hdf : d.params.defaults = []) (hr : Room k callerA) (hY : ∀ (w : World) (h : Heap), YP w h → (K w.params).In h)
    (F : ∀ (w : World) (mg : Str → Option Value) (fa : Addr) (h : Heap), (K w.params).In h → h.Ns mainGlobals mg → mg d.name = some (.ref fa) → ∃ fd : FuncData, (∀ (s : Shared) (u : Value), BindsTo s fd ⟨[u], []⟩ [(x, u)]) ∧
        ∀ base : Heap, (K w.params).In base → base.Ns mainGlobals mg → FnG l.prog w (K w.params) mg base CX k fa fd [x] (sp (K w.params)))
    (hsp : ∀ (K : PySem.W.Frag) (H : Hp) (a : Addr) (ns : List Int), ns.length ≤ n → Only H → SqL K H a (ns.map V.int) → sp K [.ref a] H (fun v _ => v = .bl true) fun _ _ _ => False) (hCX : ∀ (H : Hp) (s : Shared) (e : Value) (s' : Shared), CX [] H s (fun _ _ _ => False) e s' → False) :
    PySem.W.WalkO q loose XP YP l.row.toRowW d [] (fun f vs => PySem.call f vs) := by
  refine Att.attach_call hn hdf fun w s0 z1 mg mb fa o pm cd doc a vs ns G Y ho hd hcd hmg hobj hints hlen hg => ?_
  obtain ⟨fd, hb, hF⟩ := F w mg fa _ (hY w _ Y) G.T.g hmg
  exact law_callG (hY w _ Y) G.T.g G.T.b G.T.builtins G.T.nolimit hg hobj hints (Nat.le_trans hlen hn2) hr hF hb (fun H hO hS => hsp (K w.params) H a ns hlen hO hS) fun H e s' => hCX H z1 e s'
end L2

/-! ### own objects whose class is found by the object -/
namespace L2
open PySem PySem.Spec PyProof.Rows
/-- the method m of the class at C keeps sp, by a def of level k -/
structure MOk (P : Program) (w : World) (K : PySem.W.Frag) (mg : Str → Option Value) (base : Heap) (CX : CXT) (k : Nat) (C : Addr) (m : Str) (sp : Sp) : Prop where
  cl : Cls K C
  ex : ∃ (f : Addr) (fd : FuncData) (ps : List Str), Meth K C m f ∧ FnOk P w K mg base CX k f fd ps sp ∧ Binds K fd ps []
section
variable {X : Cx} {CX : CXT} {k : Nat} {sp : Addr → Sp} {E : XK} {m : Str} {o a1 : Expr} {ar : List Expr} {te : TE} {ta : TA} {qa qc : Pos} {M : Addr → Prop}
/-- o.m(), o of one of the classes M -/
def tMP (M : Addr → Prop) (m : Str) (sp : Addr → Sp) (E : XK) (te : TE) (ta : TA) : TE := fun σ H Q => te σ H fun x H1 => ∃ a C dx fs, x = .ref a ∧ H1 a = some (.ins C dx fs) ∧ M C ∧ fs.lookup m = none ∧ ta σ H1 fun vs H2 => sp C (x :: vs) H2 Q E
theorem pe_methP0 {pl : Sem Bool} (he : PE X o te) (hM : ∀ C, M C → MOk X.prog X.w X.K X.mg X.base CX k C m (sp C)) (hr : Room k X.A) (hx : Passes CX X E)
    (hcal : eval (.Call (.Attribute o m qa) [] [] qc) X.env = (eval o X.env >>= fun ov => standAt qa.atName >>= fun _ => holding [ov] (getMethod ov m pl) >>= fun r => callWith qc r.1 r.2 (backTo qc (starEach [] X.env)) (backToKw qc (keywordEach [] X.env))) := by rfl) :
    PE X (.Call (.Attribute o m qa) [] [] qc) (tMP M m sp E te tNil) := by
  refine ⟨fun pins s σ H Q I h => ?_⟩
  refine PySem.W.methodCall_KW (pl := pl) (thn (he.run pins s σ H _ I h) fun u s1 hh => ?_) hcal
  obtain ⟨x, H1, I1, rx, a, C, dx, fs, rfl, ea, hC, l, q⟩ := hh
  obtain rfl : u = Value.ref a := rx
  obtain ⟨cl, f, fd, ps, hm, F, hb⟩ := hM C hC
  refine getmeth_ok I1 ea cl hm l ?_
  exact PySem.W.callWith_K0 (first := [.ref a]) I1.kIn hm.kp (run_fn (us := [.ref a]) (vs := [.ref a]) (dvs := []) F hr hb .nil hx I1 (.cons rfl .nil) q)
theorem pe_methP {pl : Sem Bool} (he : PE X o te) (hM : ∀ C, M C → MOk X.prog X.w X.K X.mg X.base CX k C m (sp C)) (hr : Room k X.A) (hx : Passes CX X E) (ha : PA X (a1 :: ar) ta)
    (hst : starEach (a1 :: ar) X.env = (false, eval a1 X.env) :: starEach ar X.env := by rfl) (hps : (backTo qc (starEach ar X.env)).any (·.1) = false := by rfl)
    (hcal : eval (.Call (.Attribute o m qa) (a1 :: ar) [] qc) X.env = (eval o X.env >>= fun ov => standAt qa.atName >>= fun _ => holding [ov] (getMethod ov m pl) >>= fun r => callWith qc r.1 r.2 (backTo qc (starEach (a1 :: ar) X.env)) (backToKw qc (keywordEach [] X.env))) := by rfl) :
    PE X (.Call (.Attribute o m qa) (a1 :: ar) [] qc) (tMP M m sp E te ta) := by
  refine ⟨fun pins s σ H Q I h => ?_⟩
  refine PySem.W.methodCall_KW (pl := pl) (thn (he.run pins s σ H _ I h) fun u s1 hh => ?_) hcal
  obtain ⟨x, H1, I1, rx, a, C, dx, fs, rfl, ea, hC, l, q⟩ := hh
  obtain rfl : u = Value.ref a := rx
  obtain ⟨cl, f, fd, ps, hm, F, hb⟩ := hM C hC
  refine getmeth_ok I1 ea cl hm l ?_
  refine PySem.W.callWith_K (first := [.ref a]) (h₀ := X.base) I.ok.mod.kin hm.kp (thn (ha.run qc pins s1 σ H1 _ I1 q) fun us s2 h2 => ?_) hst hps
  obtain ⟨vs, H2, I2, r, q2⟩ := h2
  exact ⟨I2.kIn, run_fn (us := .ref a :: us) (vs := .ref a :: vs) (dvs := []) F hr hb .nil hx I2 (.cons rfl r) (by rw [List.append_nil]; exact q2)⟩
theorem c_mp {σ : St} {H : Hp} {Q : VK} (h : te σ H fun x H1 => ∃ a C dx fs, x = .ref a ∧ H1 a = some (.ins C dx fs) ∧ M C ∧ fs.lookup m = none ∧ ta σ H1 fun vs H2 => sp C (x :: vs) H2 Q E) : tMP M m sp E te ta σ H Q := h
def tNeverE : TE := fun _ _ _ => False
theorem pe_never {e : Expr} : PE X e tNeverE := ⟨fun _ _ _ _ _ _ h => h.elim⟩
end
end L2
namespace L2
open PySem PySem.Spec PyProof.Rows
section
variable {X : Cx}
theorem dpAll_int {K : PySem.W.Frag} {H : Hp} : ∀ ns : List Int, DpAll K H (ns.map V.int) (ns.map PyData.int)
  | [] => .nil
  | n :: ns => .cons (.int n) (dpAll_int ns)
/-- the greatest of these, and of the last one -/
def maxL : List Int → Int
  | [] => 0
  | y :: ys => PySem.W.maxOf y ys
/-- max(l, default=z), l of whole numbers -/
theorem call_maxD {n : Nat} (hr : Room n X.A) : CallRK X (.builtin "max") ["default"] (fun xs zs H Q => ∃ (a : Addr) (ns : List Int) (z : V), xs = [.ref a] ∧ zs = [z] ∧ SqL X.K H a (ns.map V.int) ∧ (ns = [] → Q z H) ∧ ∀ y ys, ns = y :: ys → Q (.int (PySem.W.maxOf y ys)) H) := by
  intro pins s σ H xs zs us ws Q I r rz h
  obtain ⟨a, ns, z, rfl, rfl, hS, h0, h1⟩ := h
  cases r with
  | cons ra rr =>
    cases rr
    rename_i u
    cases (show u = Value.ref a from ra)
    cases rz with
    | cons rz1 rzz =>
      cases rzz
      rename_i zu
      obtain ⟨its, rv, hp, hlen⟩ := I.list hS
      obtain ⟨as, rds⟩ := Dp.readsAll I _ _ its (dpAll_int ns) rv
      have hun := hr.un
      have hD : PySem.W.HoldAll s.heap its.toArray.toList ns := ⟨as, rds⟩
      refine PySem.W.max_list_datum_default (α := Int) hr.hd hp.isList hD (by show X.A.units + 1 + 0 < cLine; omega) (fun e h' tk hk => ?_) (fun y ys i v h' tk e hi hv hk => ?_)
      · exact ⟨z, H, I.kept (t' := tk) hk, rz1, h0 e⟩
      · obtain ⟨bs, rd⟩ := hv
        have hv2 : ∃ t, v = Value.int (PySem.W.maxOf y ys) t := by
          have rd' : Reads h' v (.int (PySem.W.maxOf y ys)) bs := rd
          cases rd' with
          | int i t => exact ⟨t, rfl⟩
        exact ⟨.int (PySem.W.maxOf y ys), H, I.kept (t' := tk) hk, hv2, h1 y ys e⟩
end
end L2
namespace L2
open PySem PySem.Spec PyProof.Rows
/-- a plain class with these fields, that can be made -/
def tcB (K : PySem.W.Frag) (C : Addr) (fs : List Str) : Bool :=
  ((PySem.W.plainGet K C Str.empty && PySem.W.hasDictIn K C) && (PySem.W.plainOver K C && (PySem.W.makesIn K C && PySem.W.keepIn K (.ref C)))) &&
  ((decide (PySem.W.findIn K (.ref C) "__setattr__" = some (some (.builtin "object.__setattr__"))) && decide (PySem.W.findIn K (.ref C) "__class__" = some (some (.builtin "object.__class__")))) &&
  ((decide (PySem.W.specialIn K (.builtin "object.__class__") "__get__" = some (some (.builtin "getset_descriptor.__get__"))) && decide (PySem.W.takesIn K (.builtin "object.__class__") = some true)) &&
  (decide (PySem.W.mroIn K C (.type "object") = some true) && fs.all fun f => decide (PySem.W.findIn K (.ref C) f = some none))))
structure TcC (K : PySem.W.Frag) (C : Addr) (fs : List Str) : Prop where
  cl : Cls K C
  makes : PySem.W.makesIn K C = true
  kp : PySem.W.keepIn K (.ref C) = true
  ty : ∀ {H : Hp} {a dx : Addr} {gs : List (Str × V)}, H a = some (.ins C dx gs) → TyX K H (.ref a) (.ref C)
  no : ∀ f ∈ fs, NoAttr K C f
theorem tcB_ok {K : PySem.W.Frag} {C : Addr} {fs : List Str} (h : tcB K C fs = true) : TcC K C fs := by
  unfold tcB at h
  simp only [Bool.and_eq_true, decide_eq_true_eq, List.all_eq_true] at h
  obtain ⟨⟨⟨h1, h2⟩, h3, h4, h5⟩, ⟨h6, h7⟩, ⟨h8, h9⟩, h10, h11⟩ := h
  have cl : Cls K C := ⟨h1, h2, h3, h6⟩
  exact ⟨cl, h4, h5, fun e => .base (.ins e cl h7 h8 h9 h10), h11⟩
section
variable {K : PySem.W.Frag} {σ : St} {H : Hp} {Q : VK} {D : Ends} {te tv : TE} {f : Str} {ta tk : TA} {C : Addr} {sp : Sp} {E : XK}
theorem c_fld (h : te σ H fun x H1 => ∃ a C dx fs v, x = .ref a ∧ H1 a = some (.ins C dx fs) ∧ Cls K C ∧ NoAttr K C f ∧ fs.lookup f = some v ∧ Q v H1) : tFld K te f σ H Q := h
theorem c_sfld (h : tv σ H fun y H1 => te σ H1 fun x H2 => ∃ a C dx fs, x = .ref a ∧ H2 a = some (.ins C dx fs) ∧ Cls K C ∧ NoAttr K C f ∧ fs.length < 1000 ∧ D.nx σ (upd H2 a (.ins C dx (putF f y fs)))) : sFld K te tv f D σ H := h
/-- C(..): what is asked, by one word -/
def MkP2 (C : Addr) (sp : Sp) (vs : List V) (H : Hp) (Q : VK) (E : XK) : Prop := ∀ x dx, H x = none → H dx = none → dx ≠ x → sp (.ref x :: vs) (upd (upd H dx (.own x)) x (.ins C dx [])) (fun v H2 => v = .non ∧ Q (.ref x) H2) E
theorem c_make (h : ta σ H fun vs H1 => MkP2 C sp vs H1 Q E) : tMake C sp [] E ta σ H Q := by
  show ta σ H fun vs H1 => ∀ x dx, H1 x = none → H1 dx = none → dx ≠ x → sp (.ref x :: (vs ++ [])) (upd (upd H1 dx (.own x)) x (.ins C dx [])) (fun v H2 => v = .non ∧ Q (.ref x) H2) E
  simp only [List.append_nil]
  exact h
theorem c_ckw {r : List V → List V → Hp → VK → Prop} (h : ta σ H fun vs H1 => tk σ H1 fun zs H2 => r vs zs H2 Q) : tCKw r ta tk σ H Q := h
end
end L2

/-! facts of classes, as truths -/
namespace L2
open PySem
def difB : List Addr → Bool
  | [] => true
  | a :: as => as.all (fun b => !decide (a = b)) && difB as
theorem difB_ne {a b : Addr} : ∀ {l : List Addr} {i j : Nat}, difB l = true → l[i]? = some a → l[j]? = some b → i < j → a ≠ b
  | [], i, j, _, h, _, _ => by simp at h
  | c :: l, i, j, h, hi, hj, hij => by
    rw [difB, Bool.and_eq_true, List.all_eq_true] at h
    cases j with
    | zero => omega
    | succ j =>
      rw [List.getElem?_cons_succ] at hj
      cases i with
      | zero =>
        have : c = a := by simpa using hi
        subst this
        have := h.1 b (List.mem_of_getElem? hj)
        intro e
        subst e
        simp at this
      | succ i =>
        rw [List.getElem?_cons_succ] at hi
        exact difB_ne h.2 hi hj (by omega)
/-- of class c, and with the plain == -/
def subB (K : PySem.W.Frag) (C c : Addr) : Bool := decide (PySem.W.kitOne K (.ref C) (.ref c) = some true) && (decide (PySem.W.mroIn K C (.type "object") = some true) && decide (PySem.W.findIn K (.ref C) "__eq__" = some (some (.builtin "object.__eq__"))))
end L2
namespace L2
open PySem
/-- each of these is of its own class and of E alone -/
def kitTab (K : PySem.W.Frag) (cs : List Addr) (E : Addr) : Bool := cs.all fun c => decide (PySem.W.kitOne K (.ref c) (.ref E) = some true) && (decide (PySem.W.mroIn K c (.type "object") = some true) && (decide (PySem.W.findIn K (.ref c) "__eq__" = some (some (.builtin "object.__eq__"))) && cs.all fun c' => decide (PySem.W.kitOne K (.ref c) (.ref c') = some (decide (c = c')))))
end L2

/-! ### repr of nested things: the bounds; comprehensions that make things -/
namespace L2
open PySem PySem.Spec PyProof.Rows
open TL (tl)
/-- may be shown: nested at most D deep, its signs and things at most B -/
def RpOk (D B : Nat) (d : PyData) : Prop := d.showable = true ∧ d.canLay0 = true ∧ d.leavesShort 13 = true ∧ d.depth ≤ D ∧ d.bulk ≤ B
def RpAll (D B : Nat) (ds : List PyData) : Prop := PyData.showableAll ds = true ∧ PyData.canLayAll0 ds = true ∧ PyData.leavesShortAll 13 ds = true ∧ PyData.depthAll ds ≤ D ∧ PyData.bulkAll ds ≤ B
theorem RpOk.mono {D B D2 B2 : Nat} {d : PyData} (h : RpOk D B d) (hD : D ≤ D2) (hB : B ≤ B2) : RpOk D2 B2 d := ⟨h.1, h.2.1, h.2.2.1, Nat.le_trans h.2.2.2.1 hD, Nat.le_trans h.2.2.2.2 hB⟩
theorem rp_non : RpOk 0 0 .none := ⟨by simp only [PyData.showable], by simp only [PyData.canLay0], by simp only [PyData.leavesShort], by simp only [PyData.depth]; omega, by simp only [PyData.bulk]; omega⟩
theorem rp_bl (b : Bool) : RpOk 0 0 (.bool b) := ⟨by simp only [PyData.showable], by simp only [PyData.canLay0], by simp only [PyData.leavesShort], by simp only [PyData.depth]; omega, by simp only [PyData.bulk]; omega⟩
theorem rp_int {i : Int} (h : i.natAbs < 10 ^ 12) : RpOk 0 0 (.int i) := by
  refine ⟨?_, by simp only [PyData.canLay0], ?_, by simp only [PyData.depth]; omega, by simp only [PyData.bulk]; omega⟩
  · simp only [PyData.showable, decide_eq_true_eq]
    by_cases h0 : i.natAbs = 0
    · rw [h0]; decide
    · have h1 : i.natAbs.log2 < 40 := (Nat.log2_lt h0).mpr (Nat.lt_trans h (by decide))
      omega
  · simp only [PyData.leavesShort, decide_eq_true_eq]
    exact PyData.shown_int_le h
theorem rp_str {x : Str} (h : OkT x) : RpOk 0 x.length (.str x) := by
  refine ⟨by simp only [PyData.showable], by simp only [PyData.canLay0]; exact okT_V h, ?_, by simp only [PyData.depth]; omega, by simp only [PyData.bulk]; exact Nat.le_refl _⟩
  simp only [PyData.leavesShort, List.all_eq_true, decide_eq_true_eq]
  exact fun c hc => Nat.lt_trans (h c hc) (by decide)
theorem rp_nil : RpAll 0 0 [] := ⟨by simp only [PyData.showableAll], by simp only [PyData.canLayAll0], by simp only [PyData.leavesShortAll], by simp only [PyData.depthAll]; omega, by simp only [PyData.bulkAll]; omega⟩
theorem rp_cons {D B D2 B2 : Nat} {d : PyData} {ds : List PyData} (h : RpOk D B d) (k : RpAll D2 B2 ds) : RpAll (max D D2) (B + 1 + B2) (d :: ds) := by
  obtain ⟨h1, h2, h3, h4, h5⟩ := h
  obtain ⟨k1, k2, k3, k4, k5⟩ := k
  refine ⟨by simp only [PyData.showableAll, h1, k1, Bool.and_self], by simp only [PyData.canLayAll0, h2, k2, Bool.and_self], by simp only [PyData.leavesShortAll, h3, k3, Bool.and_self], by simp only [PyData.depthAll]; omega, by simp only [PyData.bulkAll]; omega⟩
theorem rp_tup {D B : Nat} {ds : List PyData} (h : RpAll D B ds) : RpOk (D + 1) B (.tuple ds) := by
  obtain ⟨h1, h2, h3, h4, h5⟩ := h
  exact ⟨by simp only [PyData.showable, h1], by simp only [PyData.canLay0, h2], by simp only [PyData.leavesShort, h3], by simp only [PyData.depth]; omega, by simp only [PyData.bulk]; omega⟩
theorem rp_lst {D B : Nat} {ds : List PyData} (h : RpAll D B ds) : RpOk (D + 1) B (.list ds) := by
  obtain ⟨h1, h2, h3, h4, h5⟩ := h
  exact ⟨by simp only [PyData.showable, h1], by simp only [PyData.canLay0, h2], by simp only [PyData.leavesShort, h3], by simp only [PyData.depth]; omega, by simp only [PyData.bulk]; omega⟩
theorem rp_all {D B : Nat} : ∀ {ds : List PyData}, (∀ d ∈ ds, RpOk D B d) → RpAll D (ds.length * (B + 1)) ds
  | [], _ => ⟨by simp only [PyData.showableAll], by simp only [PyData.canLayAll0], by simp only [PyData.leavesShortAll], by simp only [PyData.depthAll]; omega, by simp only [PyData.bulkAll]; omega⟩
  | d :: ds, h => by
    obtain ⟨h1, h2, h3, h4, h5⟩ := rp_cons (h d List.mem_cons_self) (rp_all (ds := ds) fun e he => h e (List.mem_cons_of_mem _ he))
    refine ⟨h1, h2, h3, by omega, ?_⟩
    rw [List.length_cons, Nat.succ_mul]
    omega
theorem c_repr {K : PySem.W.Frag} {H : Hp} {Q : VK} {a : Addr} {d : PyData} {D B : Nat} (h : Dp K H (.ref a) d) (r : RpOk D B d) (q : Q (.str d.shown) H) (hD : D ≤ 60 := by decide) (hB : B ≤ 2 ^ 20 := by decide) : rRepr K [.ref a] H Q :=
  ⟨a, d, rfl, h, r.1, PyData.hasDict_of_canLay d r.2.1, Nat.le_trans r.2.2.2.1 hD, PyData.shown_fits_bulk (B := 13) (by decide) (by decide) r.2.2.1 (Nat.le_trans r.2.2.2.2 hB), q⟩
theorem BoxAt.up {H H2 : Hp} {b : Addr} (h : BoxAt H b) (e : Evl.Ex H H2) : BoxAt H2 b := let ⟨x, y, z, p, q⟩ := h; ⟨x, y, z, p, e _ _ q⟩
theorem RpOk.shaped {D B : Nat} {d : PyData} (h : RpOk D B d) (hD : D ≤ 64 := by decide) : SeqAt.shaped d = true := by
  unfold SeqAt.shaped
  rw [h.2.1, Bool.true_and, decide_eq_true_eq]
  exact Nat.le_trans h.2.2.2.1 hD
/-- s * n, n nought or one -/
theorem op_rep_str01 {X : Cx} : OpR X (binaryOp .Mult) (fun x y H Q => ∃ (z : Str) (n : Int), x = .str z ∧ y = .int n ∧ ((n = 0 ∧ Q (.str Str.empty) H) ∨ (n = 1 ∧ Q (.str z) H))) := by
  intro pins s σ H x y v u Q I rx ry h
  obtain ⟨z, n, rfl, rfl, h⟩ := h
  obtain ⟨t, rfl⟩ := rx
  obtain ⟨t', rfl⟩ := ry
  rcases h with ⟨rfl, q⟩ | ⟨rfl, q⟩
  · exact PySem.P.mul_str_none (by decide) (by decide) ⟨.str Str.empty, H, I.tok _, ⟨_, rfl⟩, q⟩
  · refine PySem.P.mul_str (by decide) (fun _ h2 => absurd h2 (by simp)) (fun _ h2 => absurd h2 (by simp)) ?_
    rw [if_neg (by decide), if_pos (by rfl)]
    exact ⟨.str z, H, I, ⟨_, rfl⟩, q⟩
/-- all that is no list stays -/
def NL (H H2 : Hp) : Prop := ∀ a o, (∀ ys, o ≠ HO.lst ys) → H a = some o → H2 a = some o
theorem NL.of {H H2 : Hp} (e : Evl.Ex H H2) : NL H H2 := fun a o _ h => e a o h
theorem NL.trans {H H2 H3 : Hp} (e : NL H H2) (e2 : NL H2 H3) : NL H H3 := fun a o n h => e2 a o n (e a o n h)
theorem NL.upd {H : Hp} {f : Addr} {xs ys : List V} (h : H f = some (.lst xs)) : NL H (upd H f (.lst ys)) := fun a o n ha => by
  rw [upd_ne (ne_of ha h (n xs))]
  exact ha
theorem NL.box {H H2 : Hp} {b : Addr} (e : ExB b H H2) (h : BoxAt H b) : NL H H2 := fun a o n ha => by
  obtain ⟨x, y, z, _, q⟩ := h
  exact e a o (ne_of ha q (n _)) ha
section
variable {K : PySem.W.Frag} {σ : St} {H : Hp} {Q : VK} {g : TG} {tt : TT} {te : TE} {vs : List Nat}
theorem lcTN {a : Addr} {xs : List V} (P : Nat → V → Hp → Prop) (hst : ∀ i y G G2, NL G G2 → P i y G → P i y G2) (hs : SqT K H a xs) (hn : xs.length ≤ 1000)
    (ht : ∀ (i : Nat) (x : V), xs[i]? = some x → ∀ H2, Evl.Ex H H2 → ∀ (R : V → Hp → Prop) (N : Hp → Prop), (∀ y H3, Evl.Ex H2 H3 → P i y H3 → R y H3) →
      g x (wipe σ vs) H2 fun σ2 H3 => wipe σ2 vs = wipe σ vs ∧ tt σ2 H3 fun c H4 => if c = true then te σ2 H4 fun y H5 => R y H5 else N H4)
    (k : ∀ ys p H2, ys.length = xs.length → (∀ i y, ys[i]? = some y → P i y H2) → H p = none → Evl.Ex H H2 → H2 p = some (.lst ys) → Q (.ref p) H2) : LcI (Itt K a) g tt te vs σ H Q := by
  refine fun D hD => ?_
  have ex : ∀ {G : Hp} {o : HO}, Evl.Ex H G → Evl.Ex H (upd G D o) := fun e b u hb => by rw [upd_ne (ne_of_none hb hD)]; exact e b u hb
  refine lc_tup (xs := xs) (fun i H' => i ≤ xs.length ∧ Evl.Ex H H' ∧ ∃ ys, ys.length = i ∧ (∀ j y, ys[j]? = some y → P j y H') ∧ H' D = some (.lst ys))
    ⟨Nat.zero_le _, ex (Evl.Ex.refl _), [], rfl, (fun j y h => by simp at h), upd_same⟩ (fun i H' _ p => Evl.ex_t p.2.1 hs) (fun i x H' hi p => ?_) (fun H' p => ?_)
  · obtain ⟨_, e1, ys, hl, hy, hD'⟩ := p
    have hil := (List.getElem?_eq_some_iff.mp hi).1
    refine ht i x hi H' e1 (fun y H4 => ∃ acc, H4 D = some (.lst acc) ∧ acc.length < sizeLine ∧ (i + 1 ≤ xs.length ∧ Evl.Ex H (upd H4 D (.lst (acc ++ [y]))) ∧ ∃ zs, zs.length = i + 1 ∧ (∀ j y2, zs[j]? = some y2 → P j y2 (upd H4 D (.lst (acc ++ [y])))) ∧ upd H4 D (.lst (acc ++ [y])) D = some (.lst zs))) _ (fun y H3 e3 py => ?_)
    have hD3 := e3 _ _ hD'
    have eD : NL H3 (upd H3 D (.lst (ys ++ [y]))) := NL.upd hD3
    refine ⟨ys, hD3, Evl.sz_lt (by omega), hil, ex (e1.trans e3), ys ++ [y], by rw [List.length_append, hl]; rfl, fun j y2 hj => ?_, upd_same⟩
    rcases Nat.lt_or_ge j ys.length with h | h
    · rw [List.getElem?_append_left h] at hj
      exact hst _ _ _ _ eD (hst _ _ _ _ (NL.of e3) (hy j y2 hj))
    · rw [List.getElem?_append_right h] at hj
      have hj0 : j - ys.length = 0 := by
        have := (List.getElem?_eq_some_iff.mp hj).1
        rw [List.length_singleton] at this
        omega
      rw [hj0] at hj
      have hyy : y = y2 := by simpa using hj
      subst hyy
      have : j = i := by omega
      subst this
      exact hst _ _ _ _ eD py
  · obtain ⟨_, e1, ys, hl, hy, hD'⟩ := p
    exact k ys D H' hl hy hD e1 hD'
/-- the same over range(n), with draws -/
theorem lcRN {n : Nat} {b : Addr} (P : Nat → V → Hp → Prop) (hst : ∀ i y G G2, NL G G2 → P i y G → P i y G2) (hn : n ≤ 1000) (hB : BoxAt H b)
    (ht : ∀ (i : Nat), i < n → ∀ H2, BoxAt H2 b → ExB b H H2 → ∀ (R : V → Hp → Prop) (N : Hp → Prop), (∀ y H3, ExB b H2 H3 → BoxAt H3 b → P i y H3 → R y H3) →
      g (.int (i : Int)) (wipe σ vs) H2 fun σ2 H3 => wipe σ2 vs = wipe σ vs ∧ tt σ2 H3 fun c H4 => if c = true then te σ2 H4 fun y H5 => R y H5 else N H4)
    (k : ∀ ys p H2, ys.length = n → (∀ i y, ys[i]? = some y → P i y H2) → H p = none → ExB b H H2 → BoxAt H2 b → H2 p = some (.lst ys) → Q (.ref p) H2) : LcI (Itr 0 n) g tt te vs σ H Q := by
  refine fun D hD => ?_
  obtain ⟨ob, hob⟩ := hB.some
  have nDb : D ≠ b := (ne_of_none hob hD).symm
  have bx : ∀ {G : Hp} {o : HO}, BoxAt G b → BoxAt (upd G D o) b := fun ⟨x, y, z, p, q⟩ => ⟨x, y, z, p, by rw [upd_ne nDb.symm]; exact q⟩
  have ex : ∀ {G : Hp} {o : HO}, ExB b H G → ExB b H (upd G D o) := fun e a u na ha => by rw [upd_ne (ne_of_none ha hD)]; exact e a u na ha
  refine lc_range (lo := 0) (n := n) (fun i H' => i ≤ n ∧ ExB b H H' ∧ BoxAt H' b ∧ ∃ ys, ys.length = i ∧ (∀ j y, ys[j]? = some y → P j y H') ∧ H' D = some (.lst ys))
    ⟨Nat.zero_le _, ex (ExB.refl _ _), bx hB, [], rfl, (fun j y h => by simp at h), upd_same⟩ (fun i H' hi p => ?_) (fun H' p => ?_)
  · obtain ⟨_, e1, b1, ys, hl, hy, hD'⟩ := p
    have e0 : (0 : Int) + (i : Int) = (i : Int) := Int.zero_add _
    rw [e0]
    refine ht i hi H' b1 e1 (fun y H4 => ∃ acc, H4 D = some (.lst acc) ∧ acc.length < sizeLine ∧ (i + 1 ≤ n ∧ ExB b H (upd H4 D (.lst (acc ++ [y]))) ∧ BoxAt (upd H4 D (.lst (acc ++ [y]))) b ∧ ∃ zs, zs.length = i + 1 ∧ (∀ j y2, zs[j]? = some y2 → P j y2 (upd H4 D (.lst (acc ++ [y])))) ∧ upd H4 D (.lst (acc ++ [y])) D = some (.lst zs))) _ (fun y H3 e3 b3 py => ?_)
    have hD3 := e3 _ _ nDb hD'
    have eD : NL H3 (upd H3 D (.lst (ys ++ [y]))) := NL.upd hD3
    refine ⟨ys, hD3, Evl.sz_lt (by omega), hi, ex (e1.trans e3), bx b3, ys ++ [y], by rw [List.length_append, hl]; rfl, fun j y2 hj => ?_, upd_same⟩
    rcases Nat.lt_or_ge j ys.length with h | h
    · rw [List.getElem?_append_left h] at hj
      exact hst _ _ _ _ eD (hst _ _ _ _ (NL.box e3 b1) (hy j y2 hj))
    · rw [List.getElem?_append_right h] at hj
      have hj0 : j - ys.length = 0 := by
        have := (List.getElem?_eq_some_iff.mp hj).1
        rw [List.length_singleton] at this
        omega
      rw [hj0] at hj
      have hyy : y = y2 := by simpa using hj
      subst hyy
      have : j = i := by omega
      subst this
      exact hst _ _ _ _ eD py
  · obtain ⟨_, e1, b1, ys, hl, hy, hD'⟩ := p
    exact k ys D H' hl hy hD e1 b1 hD'
theorem c_noneIn {p : Addr} {xs : List V} (h : SqL K H p xs) (hn : ∀ z ∈ xs, NoneOr K H z) (hr : ∀ z ∈ xs, z ≠ .non) (q : Q (.bl false) H) : rNoneIn K false .non (.ref p) H Q := by
  refine ⟨p, xs, rfl, rfl, h, hn, ?_⟩
  have e : xs.any isNon = false := by
    rw [List.any_eq_false]
    intro z hz he
    cases z with
    | non => exact hr _ hz rfl
    | _ => cases he
  show Q (.bl (xs.any isNon)) H
  rw [e]
  exact q
end
end L2

/-! ### C.m(self, ..), m a def of the class -/
namespace L2
open PySem PySem.Spec PyProof.Rows
structure CmC (K : PySem.W.Frag) (B f : Addr) (m : Str) : Prop where
  rd : PySem.W.readsIn K B (.type "type") = true
  ga : PySem.W.specialIn K (.ref B) "__getattribute__" = some (some (.builtin "type.__getattribute__"))
  at_ : PySem.W.findCls K (.ref B) (.type "type") m = some (.val (.ref f))
def cmB (K : PySem.W.Frag) (B f : Addr) (m : Str) : Bool := PySem.W.readsIn K B (.type "type") && (decide (PySem.W.specialIn K (.ref B) "__getattribute__" = some (some (.builtin "type.__getattribute__"))) && (match PySem.W.findCls K (.ref B) (.type "type") m with | some (.val (.ref g)) => decide (g = f) | _ => false))
theorem cmB_ok {K : PySem.W.Frag} {B f : Addr} {m : Str} (h : cmB K B f m = true) : CmC K B f m := by
  unfold cmB at h
  simp only [Bool.and_eq_true, decide_eq_true_eq] at h
  obtain ⟨h1, h2, h3⟩ := h
  split at h3
  · rename_i g e
    rw [decide_eq_true_eq] at h3
    subst h3
    exact ⟨h1, h2, e⟩
  · cases h3
section
variable {X : Cx} {CX : CXT} {k : Nat} {B f : Addr} {fd : FuncData} {ps : List Str} {sp : Sp} {E : XK} {x m : Str} {a1 : Expr} {ar : List Expr} {ta : TA} {q1 q2 qc : Pos}
theorem pe_cm {pl : Sem Bool} (hg : Gl X x) (hm : X.mg x = some (.ref B)) (T : CmC X.K B f m) (F : FnOk X.prog X.w X.K X.mg X.base CX k f fd ps sp) (hr : Room k X.A) (hk : PySem.W.keepIn X.K (.ref f) = true) (hb : Binds X.K fd ps []) (hx : Passes CX X E) (ha : PA X (a1 :: ar) ta)
    (hcal : eval (.Call (.Attribute (.Name x q1) m q2) (a1 :: ar) [] qc) X.env = (eval (.Name x q1) X.env >>= fun ov => standAt q2.atName >>= fun _ => holding [ov] (getMethod ov m pl) >>= fun r => callWith qc r.1 r.2 (backTo qc (starEach (a1 :: ar) X.env)) (backToKw qc (keywordEach [] X.env))) := by rfl)
    (hst : starEach (a1 :: ar) X.env = (false, eval a1 X.env) :: starEach ar X.env := by rfl) (hps : (backTo qc (starEach ar X.env)).any (·.1) = false := by rfl) (hdb : (x == ("__debug__" : Str)) = false := by decide) :
    PE X (.Call (.Attribute (.Name x q1) m q2) (a1 :: ar) [] qc) (tCall sp [] E ta) := by
  refine ⟨fun pins s σ H Q I h => ?_⟩
  refine PySem.W.methodCall_KW (ld_glob I hg hm ?_ hdb) hcal
  refine PySem.W.method_cls I.kIn T.ga (PySem.W.cls_value I.kIn T.rd T.at_ (by rfl) ?_)
  refine PySem.W.callWith_K (first := []) (h₀ := X.base) I.ok.mod.kin hk (thn (ha.run qc pins _ σ H _ (I.tok _) h) fun us s2 h2 => ?_) hst hps
  obtain ⟨vs, H2, I2, r, q2⟩ := h2
  exact ⟨I2.kIn, run_fn (us := us) (vs := vs) (dvs := []) F hr hb .nil hx I2 r (by rw [List.append_nil]; rw [List.append_nil] at q2; exact q2)⟩
end
end L2
namespace L2
open PySem PySem.Spec PyProof.Rows
theorem c_sdput {σ : St} {H : Hp} {D : Ends} {td ty tv : TE} (h : tv σ H fun v H1 => td σ H1 fun x H2 => ty σ H2 fun y H3 => ∃ a H4, x = .ref a ∧ DPut H3 a y v H4 ∧ D.nx σ H4) : sDPut td ty tv D σ H := h
theorem c_dget {σ : St} {H : Hp} {Q : VK} {td ty : TE} (h : td σ H fun x H1 => ty σ H1 fun y H2 => ∃ a v, x = .ref a ∧ DGet H2 a y (some v) ∧ Q v H2) : tDGet td ty σ H Q := h
end L2
namespace L2
open PySem PySem.Spec PyProof.Rows
section
variable {σ : St} {H : Hp} {Q : VK} {ta : TA} {te : TE} {sp : Sp} {E : St → XK} {C a : Addr} {cls : Value} {d : Option Addr} {f : Str} {W : XK}
theorem c_callS (h : ta σ H fun vs H1 => sp vs H1 Q (E σ)) : tCallS sp E ta σ H Q := h
theorem c_xf (h : te σ H fun x H1 => x = .ref a ∧ cls = .ref C ∧ ∃ (dd : Addr) (fs : List (Str × V)) (v : V), d = some dd ∧ H1 dd = some (.xd fs) ∧ fs.lookup f = some v ∧ Q v H1) : tXf a cls d C f te σ H Q := h
/-- what the making of an error that is raised asks -/
def RaP (C : Addr) (sp : Sp) (vs : List V) (H1 : Hp) (W : XK) : Prop := vs.length ≤ 1000 ∧ ∀ a, H1 a = none → sp (.ref a :: (vs ++ [])) (upd H1 a (exo a C none))
  (fun v H2 => v = .non ∧ ∃ (d : Addr) (fs : List (Str × V)), H2 a = some (exo a C (some d)) ∧ H2 d = some (exd d fs) ∧ H1 d = none ∧ W (.ref C) (some d) (upd (del H2 a) d (.xd fs))) (fun _ _ _ => False)
theorem c_mko (h : ta σ H fun vs H1 => RaP C sp vs H1 W) : tMkO C sp [] ta σ H W := h
theorem raise1 {u : V} (k : ∀ d H2, H d = none → Evl.Ex H H2 → H2 d = some (.xd [(f, u)]) → W (.ref C) (some d) H2) : RaP C (sp_err1 C f) [u] H W := by
  refine ⟨by simp, fun a ha => ⟨a, u, rfl, upd_same, fun d H2 hd nda hk h2a h2d => ⟨rfl, d, _, h2a, h2d, ?_, k d _ ?_ (fun b o hb => ?_) upd_same⟩⟩⟩
  · rw [upd_ne nda] at hd; exact hd
  · rw [upd_ne nda] at hd; exact hd
  · have nba : b ≠ a := ne_of_none hb ha
    have nbd : b ≠ d := by
      rw [upd_ne nda] at hd
      exact ne_of_none hb hd
    rw [upd_ne nbd, del_ne nba, hk b nba nbd, upd_ne nba]
    exact hb
end
end L2

/-! ### dicts: in, get -/
namespace L2
open PySem PySem.Spec PyProof.Rows
section
variable {X : Cx}
def rInDk : R2 := fun y x H Q => ∃ a o, x = .ref a ∧ DGet H a y o ∧ Q (.bl o.isSome) H
def rNotInDk : R2 := fun y x H Q => ∃ a o, x = .ref a ∧ DGet H a y o ∧ Q (.bl (!o.isSome)) H
theorem op_inDk (hu : X.A.units + 1 < cLine) : OpR X (compareOp .In) rInDk := by
  intro pins s σ H y x v u Q I ry rx h
  obtain ⟨a, o, rfl, g, q⟩ := h
  cases (show u = Value.ref a from rx)
  exact d_in hu I g ry fun s3 I3 => ⟨.bl o.isSome, H, I3, rfl, q⟩
theorem op_notInDk (hu : X.A.units + 1 < cLine) : OpR X (compareOp .NotIn) rNotInDk := by
  intro pins s σ H y x v u Q I ry rx h
  obtain ⟨a, o, rfl, g, q⟩ := h
  cases (show u = Value.ref a from rx)
  exact d_notIn hu I g ry fun s3 I3 => ⟨.bl (!o.isSome), H, I3, rfl, q⟩
end
end L2
/-! ### o.m(..) in a try, where m may raise -/
namespace L2
open PySem PySem.Spec PyProof.Rows
section
variable {X : Cx} {CX : CXT} {k : Nat} {sp : Addr → Sp} {E : St → XK} {m : Str} {o a1 : Expr} {ar : List Expr} {te : TE} {ta : TA} {qa qc : Pos} {M : Addr → Prop}
def tMPS (M : Addr → Prop) (m : Str) (sp : Addr → Sp) (E : St → XK) (te : TE) (ta : TA) : TE := fun σ H Q => te σ H fun x H1 => ∃ a C dx fs, x = .ref a ∧ H1 a = some (.ins C dx fs) ∧ M C ∧ fs.lookup m = none ∧ ta σ H1 fun vs H2 => sp C (x :: vs) H2 Q (E σ)
theorem pe_methPS {pl : Sem Bool} (he : PE X o te) (hM : ∀ C, M C → MOk X.prog X.w X.K X.mg X.base CX k C m (sp C)) (hr : Room k X.A) (hx : ∀ σ, PassesAt CX X σ (E σ)) (ha : PA X (a1 :: ar) ta)
    (hst : starEach (a1 :: ar) X.env = (false, eval a1 X.env) :: starEach ar X.env := by rfl) (hps : (backTo qc (starEach ar X.env)).any (·.1) = false := by rfl)
    (hcal : eval (.Call (.Attribute o m qa) (a1 :: ar) [] qc) X.env = (eval o X.env >>= fun ov => standAt qa.atName >>= fun _ => holding [ov] (getMethod ov m pl) >>= fun r => callWith qc r.1 r.2 (backTo qc (starEach (a1 :: ar) X.env)) (backToKw qc (keywordEach [] X.env))) := by rfl) :
    PE X (.Call (.Attribute o m qa) (a1 :: ar) [] qc) (tMPS M m sp E te ta) := by
  refine ⟨fun pins s σ H Q I h => ?_⟩
  refine PySem.W.methodCall_KW (pl := pl) (thn (he.run pins s σ H _ I h) fun u s1 hh => ?_) hcal
  obtain ⟨x, H1, I1, rx, a, C, dx, fs, rfl, ea, hC, l, q⟩ := hh
  obtain rfl : u = Value.ref a := rx
  obtain ⟨cl, f, fd, ps, hm, F, hb⟩ := hM C hC
  refine getmeth_ok I1 ea cl hm l ?_
  refine PySem.W.callWith_K (first := [.ref a]) (h₀ := X.base) I.ok.mod.kin hm.kp (thn (ha.run qc pins s1 σ H1 _ I1 q) fun us s2 h2 => ?_) hst hps
  obtain ⟨vs, H2, I2, r, q2⟩ := h2
  exact ⟨I2.kIn, run_fnS (us := .ref a :: us) (vs := .ref a :: vs) F hr hb (hx σ) I2 (.cons rfl r) q2⟩
theorem c_mps {σ : St} {H : Hp} {Q : VK} (h : te σ H fun x H1 => ∃ a C dx fs, x = .ref a ∧ H1 a = some (.ins C dx fs) ∧ M C ∧ fs.lookup m = none ∧ ta σ H1 fun vs H2 => sp C (x :: vs) H2 Q (E σ)) : tMPS M m sp E te ta σ H Q := h
end
end L2

/-! ### the end over a head by facts -/
namespace HandSHeadRun
/-- a list of numbers, reckoned first -/
def frL {α : Type} : List Nat → (List Nat → α) → α
  | [], k => k []
  | a :: as, k => frNat a fun b => frL as fun bs => k (b :: bs)
end HandSHeadRun
namespace L2
open PySem PySem.Spec PyProof.Rows
/-- as walk_ofE, the promise over A with nothing shown -/
theorem walk_ofEG {l : PySem.W.OpenLaw} {n k : Nat} {q : Program} {loose : List Str} {XP : (Str → Option Value) → Heap → Prop} {YP : World → Heap → Prop} {d : DefRec} {CX : CXT} {x : Str} (hn : l.most = some n) (hn2 : n ≤ sizeLine) (hdf : d.params.defaults = []) (hr : Room k callerA)
    (F : ∀ (w : World) (mg : Str → Option Value) (fa : Addr) (h : Heap), YP w h → h.Ns mainGlobals mg → mg d.name = some (.ref fa) → ∃ (K : PySem.W.Frag) (fd : FuncData) (sp : Sp), K.In h ∧ (∀ (s : Shared) (u : Value), BindsTo s fd ⟨[u], []⟩ [(x, u)]) ∧
        (∀ (H : Hp) (a : Addr) (ns : List Int), ns.length ≤ n → Only H → SqL K H a (ns.map V.int) → sp [.ref a] H (fun v _ => v = .bl true) fun _ _ _ => False) ∧ ∀ base : Heap, K.In base → base.Ns mainGlobals mg → FnG l.prog w K mg base CX k fa fd [x] sp)
    (hCX : ∀ (H : Hp) (s : Shared) (e : Value) (s' : Shared), CX [] H s (fun _ _ _ => False) e s' → False) : PySem.W.WalkO q loose XP YP l.row.toRowW d [] (fun f vs => PySem.call f vs) := by
  refine Att.attach_call hn hdf fun w s0 z1 mg mb fa o pm cd doc a vs ns G Y ho hd hcd hmg hobj hints hlen hg => ?_
  obtain ⟨K, fd, sp, KX, hb, hsp, hF⟩ := F w mg fa _ Y G.T.g hmg
  exact law_callG KX G.T.g G.T.b G.T.builtins G.T.nolimit hg hobj hints (Nat.le_trans hlen hn2) hr hF hb (fun H hO hS => hsp H a ns hlen hO hS) fun H e s' => hCX H z1 e s'
theorem fun_ofD {K : PySem.W.Frag} {x qual : Str} {st : Stmt} {f : Addr} {fd : FuncData} (F : FunD K x qual (defArgs st) (defBody st) (defScope st) [] [] f fd) : Fun K x qual st f fd := by
  obtain ⟨oc, od, dV, kV, doc, pm, an, cdv, ct, osl, e, lk, hcd, hD, _⟩ := F.ex
  rcases hD with ⟨_, rfl⟩ | ⟨z, _⟩
  · exact ⟨⟨oc, od, kV, doc, pm, an, cdv, ct, osl, e, lk, hcd⟩, F.kp⟩
  · exact absurd rfl z
theorem allAt {l : List Bool} (h : l.all id = true) (i : Nat) {b : Bool} (e : l[i]? = some b) : b = true := List.all_eq_true.mp h b (List.mem_of_getElem? e)
def strB (v : Value) (s : Str) : Bool := match v with
  | .str t _ => decide (t = s)
  | _ => false
def strsB : List Value → List Str → Bool
  | [], [] => true
  | v :: vs, s :: ss => strB v s && strsB vs ss
  | _, _ => false
theorem strsB_ok : ∀ {vs : List Value} {ss : List Str}, strsB vs ss = true → Vals (ss.map V.str) vs
  | [], [], _ => .nil
  | v :: vs, s :: ss, h => by
    rw [strsB, Bool.and_eq_true] at h
    refine .cons ?_ (strsB_ok h.2)
    cases v with
    | str t tk => exact ⟨tk, by rw [of_decide_eq_true (show decide (t = s) = true from h.1)]⟩
    | _ => exact absurd h.1 Bool.false_ne_true
  | [], _ :: _, h => absurd h Bool.false_ne_true
  | _ :: _, [], h => absurd h Bool.false_ne_true
/-- a tuple of texts of the written part -/
def tupB (K : PySem.W.Frag) (a : Addr) (ss : List Str) : Bool := match K.lookup a with
  | some ⟨.type c, _, .seq its _, _⟩ => decide (c = "tuple") && (decide (its.size ≤ 1000) && strsB its.toList ss)
  | _ => false
theorem tupB_ok {K : PySem.W.Frag} {a : Addr} {ss : List Str} (h : tupB K a ss = true) (H : Hp) : SqT K H a (ss.map V.str) := by
  unfold tupB at h
  split at h
  · rename_i c d its n sl e
    simp only [Bool.and_eq_true, decide_eq_true_eq] at h
    refine .inr ⟨_, its, n, e, ?_, rfl, Nat.le_trans h.2.1 (by decide), strsB_ok h.2.2⟩
    rw [h.1]
  · cases h
end L2
namespace L2
open PySem PySem.Spec PyProof.Rows
/-- where the named things stand: the module's names, classes and their tables, defs and their code -/
def nsOf (g : Addr → Option Obj) (C : Addr) : Addr := match g C with
  | some ⟨_, _, .cls cd, _⟩ => cd.ns
  | _ => 0
def cdOf (g : Addr → Option Obj) (f : Addr) : Addr := match g f with
  | some ⟨_, _, .func fd, _⟩ => (match fd.code with
    | .ref c => c
    | _ => 0)
  | _ => 0
def adrK (g : Addr → Option Obj) (cs ts : List Str) (fs : List (Str × Option Str)) : List Addr :=
  HandSHeadRun.frL (cs.map (He.ga (He.frG g [mainGlobals]))) fun ca => HandSHeadRun.frL (ca.map (nsOf g)) fun na =>
    HandSHeadRun.frL (fs.map (He.fAd (He.frG g (mainGlobals :: (ca ++ na))))) fun fa => HandSHeadRun.frL (fa.map (cdOf g)) fun ka =>
      HandSHeadRun.frL (ts.map (He.ga (He.frG g [mainGlobals]))) fun ta => mainGlobals :: cStatics :: (ca ++ (na ++ (fa ++ (ka ++ ta))))
def hkObs (cs ts : List Str) (fa : List He.Fa) (fn : List He.DefD) (ex : PySem.W.Frag → Bool) (g : Addr → Option Obj) : He.AlD × Bool := (He.obsD fa fn (He.frG g (adrK g cs ts (fn.map (·.at_)))), ex (He.frG g (adrK g cs ts (fn.map (·.at_)))))
def hookK (cs ts : List Str) (fa : List He.Fa) (fn : List He.DefD) (ex : PySem.W.Frag → Bool) : PySem.W.Hook where
  α := He.AlD × Bool
  obs := fun s => hkObs cs ts fa fn ex s.heap.get?
  val := fun _ => (He.valD fn, true)
  says := fun _ h => ∃ K : PySem.W.Frag, K.In h ∧ He.SaysD fa fn K ∧ ex K = true
  of := fun _ s e => ⟨_, He.frG_in, congrArg (fun z : He.AlD × Bool => z.1) e, congrArg (fun z : He.AlD × Bool => z.2) e⟩
  keeps := fun _ _ _ ⟨K, hK, c⟩ k => ⟨K, PySem.W.Frag.In.keeps hK k, c⟩
theorem hkObs_eq {cs ts : List Str} {fa : List He.Fa} {fn : List He.DefD} {ex : PySem.W.Frag → Bool} {g : Addr → Option Obj} {s : Shared} (h : ∀ a, g a = s.heap.get? a) : hkObs cs ts fa fn ex g = (hookK cs ts fa fn ex).obs s := by
  have e : g = s.heap.get? := funext h
  rw [e] <;> rfl
end L2
namespace L2
open PySem PySem.Spec PyProof.Rows
theorem opt_some {α β : Type} {E : Option α} {f : α → β} {b : β} (h : E.map f = some b) : ∃ s, E = some s ∧ f s = b := by
  cases E with
  | none => cases h
  | some s => exact ⟨s, rfl, Option.some.inj h⟩
theorem opt_at {α β : Type} {E : Option α} {f : α → β} {b : β} {s : α} (e : E = some s) (h : E.map f = some b) : f s = b := by
  rw [e] at h
  exact Option.some.inj h
theorem obs_join {α β : Type} {l : α} {z : β} {x y : Bool} {l0 : α} {z0 : β} {fa : List He.Fa} {fn fA fB : List He.DefD} {K : PySem.W.Frag} (e : fn = fA ++ fB) (a : ((l, z), x) = ((l0, z0), y))
    (b : ((fa.all fun f => f.ok K) && fA.all (fun d => d.ok K), fA.map fun d => He.fnW K d.at_) = (true, fA.map He.DefD.val)) (c : (true && fB.all (fun d => d.ok K), fB.map fun d => He.fnW K d.at_) = (true, fB.map He.DefD.val)) :
    some (l, z, (He.obsD fa fn K, x)) = some (l0, z0, (He.valD fn, y)) := by
  have a1 := (Prod.mk.inj a).1
  have a2 := (Prod.mk.inj a).2
  have a3 := (Prod.mk.inj a1).1
  have a4 := (Prod.mk.inj a1).2
  have b1 := (Prod.mk.inj b).1
  have b2 := (Prod.mk.inj b).2
  have c1 := (Prod.mk.inj c).1
  have c2 := (Prod.mk.inj c).2
  rw [Bool.and_eq_true] at b1 c1
  have o : He.obsD fa fn K = He.valD fn := by
    unfold He.obsD He.valD
    rw [e, List.all_append, b1.1, b1.2, c1.2, List.map_append, List.map_append, b2, c2]
    rfl
  rw [a2, a3, a4, o]
end L2

/-! ### try: clauses with a name or without, and else -/
namespace L2
open PySem PySem.Spec PyProof.Rows
abbrev Sui := Addr → Value → Option Addr → TS
/-- what the clauses wish: a class, the slot of the name (if there is one), the suite -/
def wAll (K : PySem.W.Frag) (Wo : WX) (D : Ends) : List (Value × Option Nat × Sui) → WX
  | [] => Wo
  | (c, none, ts) :: r => fun k d σ H => ∃ b, PySem.W.exmOne K k c = some b ∧ (b = true → ∀ a, H a = none → ts a k d D σ H) ∧ (b = false → wAll K Wo D r k d σ H)
  | (c, some i, ts) :: r => fun k d σ H => ∃ b, PySem.W.exmOne K k c = some b ∧ (b = true → ∀ a, H a = none → ts a k d ⟨fun σ' H' => D.nx (σ'.set i none) H', D.rt, fun σ' H' => D.bk (σ'.set i none) H', fun σ' H' => D.ct (σ'.set i none) H'⟩ (σ.set i (some (.ref a))) H) ∧ (b = false → wAll K Wo D r k d σ H)
abbrev SuiOk (X : Cx) (ss : List Stmt) (ts : Sui) : Prop := ∀ (a : Addr) (oe : Obj) (k : Value) (d : Option Addr) (pn : List (Addr × Obj)), Zc k d oe → (∃ vs, oe.data = .fields vs) → PSs (X.suite a ((a, oe) :: pn)) ss (ts a k d)
inductive Hds (X : Cx) : List ExceptHandler → List (Value × Option Nat × Sui) → Prop
  | nil : Hds X [] []
  | anon {x : Str} {c : Value} {ts : Sui} {s0 : Stmt} {ss : List Stmt} {p1 p2 : Pos} {hs : List ExceptHandler} {l : List (Value × Option Nat × Sui)} (hc : Names X x c) (su : SuiOk X (s0 :: ss) ts) (r : Hds X hs l) : Hds X (.ExceptHandler (some (.Name x p1)) none (s0 :: ss) p2 :: hs) ((c, none, ts) :: l)
  | named {x n : Str} {i : Nat} {c : Value} {ts : Sui} {s0 : Stmt} {ss : List Stmt} {p1 p2 : Pos} {hs : List ExceptHandler} {l : List (Value × Option Nat × Sui)} (hi : X.N[i]? = some n) (hk : X.env.kindOf n = some .local) (hc : Names X x c) (su : SuiOk X (s0 :: ss) ts) (r : Hds X hs l) : Hds X (.ExceptHandler (some (.Name x p1)) (some n) (s0 :: ss) p2 :: hs) ((c, some i, ts) :: l)
section
variable {X : Cx}
theorem ps_try_all {bd el : List Stmt} {g0 : ExceptHandler} {gs : List ExceptHandler} {l : List (Value × Option Nat × Sui)} {p : Pos} {tb : WX → TS} {te : TS} {Wo : WX} (hN : X.N.Nodup) (hs : X.stack = X.env :: X.outer) (hf : X.env.frame = some X.env.locals) (tk : Takes X Wo)
    (hb : ∀ (W : WX) (pn : List (Addr × Obj)) (xe : Value → Shared → Prop), Takes (X.tr pn xe) W → PassesOwn (model X.prog X.w) X.A X.env xe → PSs (X.tr pn xe) bd (tb W)) (hh : Hds X (g0 :: gs) l) (he : PSs X el te) :
    PS X (.Try bd (g0 :: gs) el [] p) (fun D σ H => tb (wAll X.K Wo D l) { D with nx := te D } σ H) := by
  refine ⟨fun pins s σ H D I h => ?_⟩
  have ok := I.ok
  have fr : X.A.frames = some (X.env :: X.outer) := by rw [ok.frames, hs]
  let M := model X.prog X.w
  let catches : Value → Shared → Prop := fun e s1 => wpAny M X.A (noteFrame e X.env) (fun _ s2 => wpAny M X.A (setFlight e none) (fun _ s3 => wpAny M X.A (handleBy e X.env (g0 :: gs)) (SP X pins D) X.xe s3) X.xe s2) X.xe s1
  refine wpAny_Try_except ?_
  have run := (hb (wAll X.K Wo D l) (X.pn ++ pins) catches (fun u s' got => ?_) PassesOwn.looking).run [] s σ H { D with nx := te D } (I.toTry _) h
  refine wpAny_mono run (fun f s1 out => ?_) (fun e s1 z => z)
  · cases f with
    | next => obtain ⟨σ1, H1, J1, q⟩ := out; exact he.run pins s1 σ1 H1 D (J1.ofTry ok) q
    | brk => obtain ⟨σ1, H1, J1, q⟩ := out; exact ⟨σ1, H1, J1.ofTry ok, q⟩
    | cont => obtain ⟨σ1, H1, J1, q⟩ := out; exact ⟨σ1, H1, J1.ofTry ok, q⟩
    | ret u => obtain ⟨v, σ1, H1, J1, r, q⟩ := out; exact ⟨v, σ1, H1, J1.ofTry ok, r, q⟩
  · obtain ⟨a, B, sI, pins1, σ1, H1, k, d, rfl, J1, nb, up, sky, na, os, ag, wish⟩ := got
    have J : Inv X pins σ1 H1 sI := J1.ofTry ok
    have sk : Sky B (X.env :: X.outer) a (Zc k d) X.env.locals s'.heap := hs ▸ sky
    show wpAny M X.A (noteFrame (.ref a) X.env) _ _ _
    refine Sky.land Zc.steady fr hf sk fun hA flA upA => ?_
    have JA : Inv X pins σ1 H1 { s' with heap := hA } := J.landed nb flA.1 (up.trans upA) os ag
    obtain ⟨oA, vA, eA, zA, dA⟩ := flA.there
    have off : a ∉ frs (X.env :: X.outer) := fun hm => by
      obtain ⟨_, o1, e1, hn⟩ := flA.2.2.1.mem hm
      rw [eA] at e1
      cases e1
      exact hn _ dA
    have off1 : a ≠ X.env.locals := fun z => off (List.mem_filterMap.mpr ⟨X.env, List.mem_cons_self, by rw [hf, z]⟩)
    have off2 : a ∉ X.fs := fun hm => by
      obtain ⟨e, h1, h2⟩ := List.mem_filterMap.mp hm
      exact off (List.mem_filterMap.mpr ⟨e, List.mem_cons_of_mem _ h1, h2⟩)
    have SA := JA.suite eA dA na off1 off2
    have ask : ∀ {x : Str} {c : Value} {np : Pos} {Q E : Value → Shared → Prop}, Names X x c → Q c { s' with heap := hA } → wpAny M (X.A.mark (some (.ref a))) (eval (.Name x np) X.env) Q E { s' with heap := hA } := fun {x c np Q E} hc q => by
      obtain ⟨hg, hd, hm | ⟨hm, hv, hn⟩⟩ := hc
      · exact ld_glob (X := X.suite a ((a, oA) :: (X.pn ++ pins))) SA hg hm q hd
      · exact ld_blt (X := X.suite a ((a, oA) :: (X.pn ++ pins))) SA hg hm hv q hn hd
    have type_ : PySem.W.Looks M hA (typeOf (.ref a)) k := fun A Q E s q1 q2 => wpAny_typeOf_ref (q1 _ _ eA) (by rw [zA.1]; exact q2)
    suffices go : ∀ {hs1 : List ExceptHandler} {l1 : List (Value × Option Nat × Sui)}, Hds X hs1 l1 → wAll X.K Wo D l1 k d σ1 H1 → wpAny M X.A (handleBy (.ref a) X.env hs1) (SP X pins D) X.xe { s' with heap := hA } from go hh wish
    intro hs1 l1 hk
    induction hk with
    | nil =>
      intro wsh
      refine wpAny_handleBy_nil ?_
      obtain ⟨_, _, _, oe, vs, T, oT, tt, e0, z0, d0, t0, r0⟩ := id flA
      unfold PySem.passOn
      refine wpAny_bind (wpAny_field e0 d0 t0 ?_)
      rw [if_neg (show ¬ ((Value.ref T == Value.none) = true) by simp)]
      have last : wpAny M X.A (setFlight (.ref a) X.env.frame) (fun _ s4 => wpAny M X.A (throw (.ref a) : Sem Flow) (SP X pins D) X.xe s4) X.xe { s' with heap := hA } := by
        rw [hf]
        refine HandSPX.setFlight_upZ flA fun hB kB upB => wpAny_throw (tk _ _ ?_)
        exact ⟨a, B, sI, pins, σ1, H1, k, d, rfl, J, nb, (up.trans upA).trans upB, .inr (.inr (hs ▸ kB)), na, os, ag, wsh⟩
      first
        | exact wpAny_bind (wpAny_pure (wpAny_bind last))
        | exact wpAny_bind last
    | @anon x c ts s0 ss p1 p2 hs2 l2 hc su r ih =>
      intro wsh
      obtain ⟨b, hb1, yes, no⟩ := wsh
      have LM := PySem.W.exm_one (M := M) JA.kIn type_ hb1
      refine wpAny_handleBy_cons (codeAny_handlers_test (ask hc (LM.here ?_))) (by intro q; cases q)
      cases b with
      | false => exact ih (no rfl)
      | true =>
        refine codeAny_handlers_suite (HandSPX.lands_againZ flA fun hB flB upB => ?_)
        have JB : Inv X pins σ1 H1 { s' with heap := hB } := J.landed nb flB.1 ((up.trans upA).trans upB) os ag
        obtain ⟨oB, vB, eB, zB, dB⟩ := flB.there
        have run2 := (su a oB k d (X.pn ++ pins) zB ⟨_, dB⟩).run [] _ _ H1 _ (JB.suite eB dB na off1 off2) (yes rfl a na)
        refine wpAny_mono run2 (fun f s6 out => ?_) (fun _ _ z => False.elim z)
        cases f with
        | next => obtain ⟨σ6, H6, S6, q6⟩ := out; exact ⟨_, _, S6.unsuite ok, q6⟩
        | brk => obtain ⟨σ6, H6, S6, q6⟩ := out; exact ⟨_, _, S6.unsuite ok, q6⟩
        | cont => obtain ⟨σ6, H6, S6, q6⟩ := out; exact ⟨_, _, S6.unsuite ok, q6⟩
        | ret u => obtain ⟨v6, σ6, H6, S6, r6, q6⟩ := out; exact ⟨_, _, _, S6.unsuite ok, r6, q6⟩
    | @named x n i c ts s0 ss p1 p2 hs2 l2 hi hkn hc su r ih =>
      intro wsh
      obtain ⟨b, hb1, yes, no⟩ := wsh
      have LM := PySem.W.exm_one (M := M) JA.kIn type_ hb1
      refine wpAny_handleBy_cons (codeAny_handlers_test (ask hc (LM.here ?_))) (by intro q; cases q)
      cases b with
      | false => exact ih (no rfl)
      | true =>
        refine codeAny_handlers_suite_as (HandSPX.lands_againZ flA fun hB flB upB => ?_)
        have JB : Inv X pins σ1 H1 { s' with heap := hB } := J.landed nb flB.1 ((up.trans upA).trans upB) os ag
        obtain ⟨oB, vB, eB, zB, dB⟩ := flB.there
        refine store_ok (X := X.suite a ((a, oB) :: (X.pn ++ pins))) (v := .ref a) (JB.suite eB dB na off1 off2) hN hi (.inl hkn) rfl (fun s5 S5 => ?_) (.inr hkn)
        have run2 := (su a oB k d (X.pn ++ pins) zB ⟨_, dB⟩).run [] s5 _ H1 _ S5 (yes rfl a na)
        refine wpAny_mono run2 (fun f s6 out => ?_) (fun _ _ z => False.elim z)
        cases f with
        | next => obtain ⟨σ6, H6, S6, q6⟩ := out; exact gone_ok (S6.unsuite ok) hN hi hkn fun s7 J7 => ⟨_, _, J7, q6⟩
        | brk => obtain ⟨σ6, H6, S6, q6⟩ := out; exact gone_ok (S6.unsuite ok) hN hi hkn fun s7 J7 => ⟨_, _, J7, q6⟩
        | cont => obtain ⟨σ6, H6, S6, q6⟩ := out; exact gone_ok (S6.unsuite ok) hN hi hkn fun s7 J7 => ⟨_, _, J7, q6⟩
        | ret u => obtain ⟨v6, σ6, H6, S6, r6, q6⟩ := out; exact gone_ok (S6.unsuite ok) hN hi hkn fun s7 J7 => ⟨_, _, _, J7, r6, q6⟩
end
end L2

/-! ### != of lists whose things are equal, within one model -/
namespace NeL
open PySem PySem.SeqAt
open AutoSeq1 (wpAny_loadPart')
open MeetsSeq MeetsSeq2 MeetsSeq3 SeqRoads2
abbrev LsAt (s : Shared) (l : Addr) (xs : Array Value) (n : Nat) (dd : Option Addr) (sl : Array (Option Value)) : Prop := s.heap.get? l = some { cls := .type "list", dict := dd, data := .seq xs n, slots := sl }
section
variable {P : Program} {w : World}
theorem loop_ne (l b : Addr) (xs ys : Array Value) (n m : Nat) (d1 d2 : Option Addr) (s1 s2 : Array (Option Value)) (hs : xs.size = ys.size) (k : Nat) : ∀ i : Nat, xs.size - i = k →
    MeetsIn P w (Builtin.«list.__eq__.loop» ⟨[.ref l, .ref b, rawInt i, rawInt 3], []⟩) (fun A R s => LsAt s l xs n d1 s1 ∧ LsAt s b ys m d2 s2 ∧ (∀ j (h1 : j < xs.size) (h2 : j < ys.size), EqP P w A.in1 s xs[j] ys[j] true) ∧ R (.ok (.ret (.bool false))) s) := by
  induction k with
  | zero =>
    intro i hi A R s hh
    obtain ⟨hp, g, d, tk, os⟩ := s
    obtain ⟨gl, gb, ge, r⟩ := hh
    wp_walk using wpAny_loadPart' gl, wpAny_loadPart' gb
    have n1 : xs[((i : Nat) : Int).toNat]? = none := by simp; omega
    have n2 : ys[((i : Nat) : Int).toNat]? = none := by simp; omega
    rw [n1, n2]
    wp_walk using wpAny_loadPart' gl, wpAny_loadPart' gb
    show R (.ok (.ret (.bool (xs.size != ys.size)))) _
    rw [hs, bne_self_eq_false]
    exact r
  | succ k ih =>
    intro i hi A R s hh
    obtain ⟨hp, g, d, tk, os⟩ := s
    obtain ⟨gl, gb, ge, r⟩ := hh
    wp_walk using wpAny_loadPart' gl, wpAny_loadPart' gb
    have l1 : i < xs.size := by omega
    have l2 : i < ys.size := by omega
    rw [show xs[((i : Nat) : Int).toNat]? = some xs[i] by simp [l1], show ys[((i : Nat) : Int).toNat]? = some ys[i] by simp [l2]]
    refine wpAny_bind (ge i l1 l2 _ _ ?_)
    wp_walk
    rw [show ((i : Int) + 1) = ((i + 1 : Nat) : Int) by push_cast; rfl]
    refine ⟨plainId_quiet plain_eq_loop _, codeAny_builtin entry_eq_loop ?_⟩
    rw [Around.under_plainId plain_eq_loop _]
    exact ih (i + 1) (by omega) A R _ ⟨gl, gb, ge, r⟩
theorem list_ne (l b : Addr) (xs ys : Array Value) (n m : Nat) (d1 d2 : Option Addr) (s1 s2 : Array (Option Value)) (hs : xs.size = ys.size) :
    MeetsIn P w (Builtin.«list.__ne__» ⟨[.ref l, .ref b], []⟩) (fun A R s => LsAt s l xs n d1 s1 ∧ LsAt s b ys m d2 s2 ∧ (∀ j (h1 : j < xs.size) (h2 : j < ys.size), EqP P w A.in1 s xs[j] ys[j] true) ∧ R (.ok (.ret (.bool false))) s) := by
  intro A R s hh
  obtain ⟨hp, g, d, tk, os⟩ := s
  obtain ⟨gl, gb, ge, r⟩ := hh
  have f3 := AutoSeq1.sub_list_list
  have nz : ¬ (xs.size != ys.size) = true := by simp [hs]
  wp_walk using wpAny_loadPart' gl, wpAny_loadPart' gb
  refine ⟨plainId_quiet plain_eq_loop _, codeAny_builtin entry_eq_loop ?_⟩
  rw [Around.under_plainId plain_eq_loop _]
  exact loop_ne l b xs ys n m d1 d2 s1 s2 hs _ 0 rfl A R _ ⟨gl, gb, ge, r⟩
theorem lists_ne {A : Around} {s : Shared} {l b : Addr} {xs ys : Array Value} (hl : s.heap.IsList l xs) (hb : s.heap.IsList b ys) (hs : xs.size = ys.size) (hu : A.units < cLine) (he : ∀ j (h1 : j < xs.size) (h2 : j < ys.size), EqP P w A.in1 s xs[j] ys[j] true) (E Q : Value → Shared → Prop) (q : Q (.bool false) s) :
    wpAny (model P w) A (richCompare .NotEq (.ref l) (.ref b)) Q E s := by
  obtain ⟨⟨c1, d1, t1, s1⟩, o1, e1, n, f1⟩ := id hl
  obtain ⟨⟨c2, d2, t2, s2⟩, o2, e2, m, f2⟩ := id hb
  simp only at e1 f1 e2 f2
  subst e1 f1 e2 f2
  have y1 : s.TypeIs (.ref l) "list" := ⟨_, o1, rfl⟩
  have y2 : s.TypeIs (.ref b) "list" := ⟨_, o2, rfl⟩
  refine wpAny_richCompare_same_room (op := .NotEq) y1 y2 F.slot_list_ne (call_meetsIn F.slot_list_ne y1 F.entry_list_ne (F.args_list_ne_2 _ _) (list_ne l b xs ys n m d1 d2 s1 s2 hs) ?_) hu
  exact ⟨o1, o2, he, show Value.bool false ≠ Value.notImplemented ∧ Q (.bool false) s from ⟨(fun x => nomatch x), q⟩⟩
end
end NeL

/-! ### dicts, what is shown of caught errors (printed by mk_bank16.py) -/
namespace L2
open PySem PySem.Spec PyProof.Rows
open TL (tl)
open Evl hiding RetV RetL
theorem putK_len (kvs : List (Key × V)) (k : Key) (v : V) : (putK kvs k v).length ≤ kvs.length + 1 := by
  unfold putK
  split
  · rw [List.length_map]; omega
  · rw [List.length_append]; simp
theorem dgetK {H : Hp} {d : Addr} {kvs : List (Key × V)} {s : Str} (h : H d = some (.dK kvs)) : DGet H d (.str s) (valV kvs (.inr s)) := .inl ⟨kvs, .inr s, .inl h, rfl, rfl⟩
theorem putK_nodup {kvs : List (Key × V)} {k : Key} {v : V} (h : (kvs.map (·.1)).Nodup) : ((putK kvs k v).map (·.1)).Nodup := by
  unfold putK
  cases ha : (kvs.any fun kv => decide (kv.1 = k)) with
  | true =>
    rw [if_pos rfl, List.map_map]
    refine (?_ : List.map _ kvs = kvs.map (·.1)) ▸ h
    refine List.map_congr_left fun p _ => ?_
    dsimp only [Function.comp]
    split <;> simp_all
  | false =>
    rw [if_neg (by decide), List.map_append, List.nodup_append]
    refine ⟨h, by simp, fun a ha2 b hb => ?_⟩
    obtain ⟨p, hp, rfl⟩ := List.mem_map.mp ha2
    have : b = k := by simpa using hb
    subst this
    intro he
    have : (kvs.any fun kv => decide (kv.1 = b)) = true := List.any_eq_true.mpr ⟨p, hp, by simpa using he⟩
    rw [ha] at this
    cases this
theorem c_lock {t : TS} {D : Ends} {σ : St} {H : Hp} {d : Addr} {u : HO} (hd : H d = some u) (hm : Mut (some u)) (h : ∀ od, t ⟨fun σ' H' => H' d = some (.frz od u) ∧ D.nx σ' (upd H' d u), fun v H' => H' d = some (.frz od u) ∧ D.rt v (upd H' d u), fun σ' H' => H' d = some (.frz od u) ∧ D.bk σ' (upd H' d u), fun σ' H' => H' d = some (.frz od u) ∧ D.ct σ' (upd H' d u)⟩ σ (upd H d (.frz od u))) : tLock t D σ H := ⟨d, u, hd, hm, h⟩
theorem c_forK {td : TE} {g : L2.TG} {tb : TS} {D : Ends} {σ : St} {H : Hp} (h : td σ H fun x H1 => ∃ d o, x = .ref d ∧ ((∃ kvs, H1 d = some (.frz o (.dK kvs)) ∧ ForI (Itk d o kvs) g tb D σ H1) ∨ ∃ kvs, H1 d = some (.frz o (.dT kvs)) ∧ ForI (Itkt d o kvs) g tb D σ H1)) : tFor (iKeys td) g tb D σ H := h
theorem forK {tb : TS} {D : Ends} {σ : St} {H : Hp} {d : Addr} {o : Obj} {kvs : List (Key × V)} {j : Nat} (Pv : Nat → St → Hp → Prop) (h0 : Pv 0 σ H) (hl : ∀ i σ' H', i ≤ kvs.length → Pv i σ' H' → H' d = some (.frz o (.dK kvs)))
    (hs : ∀ i k v σ' H', kvs[i]? = some (k, v) → Pv i σ' H' → tb { D with nx := Pv (i + 1), ct := Pv (i + 1), bk := D.nx } (σ'.set j (some (kV k))) H') (hd : ∀ σ' H', Pv kvs.length σ' H' → D.nx σ' H') : ForI (Itk d o kvs) (gName j) tb D σ H :=
  for_it walk_keys Pv h0 hl (fun i x σ' H' H'' _ p y => by
    obtain ⟨rfl, k, v, hk, rfl⟩ := y
    exact hs i k v σ' H'' hk p) hd
theorem valV_mem {kv : List (Key × V)} {k : Key} {v : V} (hn : (kv.map (·.1)).Nodup) (h : (k, v) ∈ kv) : valV kv k = some v := by
  induction kv with
  | nil => cases h
  | cons p r ih =>
    rw [List.map_cons, List.nodup_cons] at hn
    rcases List.mem_cons.mp h with e | h
    · subst e
      exact valV_pos rfl
    · have hne : ¬ p.1 = k := fun z => hn.1 (by rw [z]; exact List.mem_map.mpr ⟨(k, v), h, rfl⟩)
      rw [valV_neg hne]
      exact ih hn.2 h
theorem putK_len2 (kvs : List (Key × V)) (k : Key) (v : V) : (valV kvs k = none ∧ (putK kvs k v).length = kvs.length + 1) ∨ (putK kvs k v).length = kvs.length := by
  unfold putK
  cases h : (kvs.any fun kv => decide (kv.1 = k)) with
  | true => right; rw [if_pos rfl, List.length_map]
  | false =>
    left
    rw [valV_any] at h
    refine ⟨?_, by rw [if_neg (by decide), List.length_append]; rfl⟩
    cases hv : valV kvs k with
    | none => rfl
    | some x => rw [hv] at h; cases h
theorem valV_drop {kvs : List (Key × V)} {k k' : Key} : valV (dropK kvs k) k' = if k' = k then none else valV kvs k' := by
  induction kvs with
  | nil => split <;> rfl
  | cons p r ih =>
    by_cases e : p.1 = k
    · rw [dropK_pos e, ih]
      split
      · rfl
      · rename_i h
        rw [valV_neg (fun z => h (z.symm.trans e))]
    · rw [dropK_neg e]
      by_cases e2 : p.1 = k'
      · rw [valV_pos e2, valV_pos e2, if_neg (fun z => e (e2.trans z))]
      · rw [valV_neg e2, valV_neg e2, ih]
theorem c_dpop {σ : St} {H : Hp} {Q : VK} {td ty : TE} (h : td σ H fun x H1 => ∃ a, x = .ref a ∧ IsD H1 a ∧ ty σ H1 fun y H2 => ∃ kvs k v, H2 a = some (.dK kvs) ∧ y = kV k ∧ valV kvs k = some v ∧ Q v (upd H2 a (.dK (dropK kvs k)))) : tDPop1 td ty σ H Q := h
theorem c_lockE {t : TE} {Q : VK} {σ : St} {H : Hp} {d : Addr} {u : HO} (hd : H d = some u) (hm : Mut (some u)) (h : ∀ od, t σ (upd H d (.frz od u)) fun v H' => H' d = some (.frz od u) ∧ Q v (upd H' d u)) : tLockE t σ H Q := ⟨d, u, hd, hm, h⟩
theorem c_lcK {td : TE} {g : L2.TG} {tt : TT} {te : TE} {vs : List Nat} {σ : St} {H : Hp} {Q : VK} (h : td σ H fun x H1 => ∃ d o, x = .ref d ∧ ((∃ kvs, H1 d = some (.frz o (.dK kvs)) ∧ LcI (Itk d o kvs) g tt te vs σ H1 Q) ∨ ∃ kvs, H1 d = some (.frz o (.dT kvs)) ∧ LcI (Itkt d o kvs) g tt te vs σ H1 Q)) : tLc (iKeys td) g tt te vs σ H Q := h
theorem call_lenK {X : Cx} : CallR X (.builtin "len") (fun xs H Q => ∃ (a : Addr) (kvs : List (Key × V)), xs = [.ref a] ∧ Rd H a (.dK kvs) ∧ Q (.int kvs.length) H) := by
  intro pins s σ H xs us Q I r h
  obtain ⟨a, kvs, rfl, e, q⟩ := h
  rw [Vals.ref1 r]
  exact d_len I e fun t s' I' => ⟨.int _, H, I', ⟨_, rfl⟩, q⟩
theorem paired_up {α β : Type} {F G : α → β → Prop} (h : ∀ a b, F a b → G a b) : ∀ {l : List α} {m : List β}, Paired F l m → Paired G l m
  | _, _, .nil => .nil
  | _, _, .cons p q => .cons (h _ _ p) (paired_up h q)
theorem paired_snoc {α β : Type} {F : α → β → Prop} {a : α} {b : β} (p : F a b) : ∀ {l : List α} {m : List β}, Paired F l m → Paired F (l ++ [a]) (m ++ [b])
  | _, _, .nil => .cons p .nil
  | _, _, .cons q r => .cons q (paired_snoc p r)
theorem paired_len {α β : Type} {F : α → β → Prop} : ∀ {l : List α} {m : List β}, Paired F l m → l.length = m.length
  | _, _, .nil => rfl
  | _, _, .cons _ q => by rw [List.length_cons, List.length_cons, paired_len q]
theorem lcK {d : Addr} {o : Obj} {kvs : List (Key × V)} {g : L2.TG} {tt : TT} {te : TE} {vs : List Nat} {σ : St} {H : Hp} {Q : VK} (F : Key × V → Bool) (R0 : Key × V → V → Hp → Prop) (hst : ∀ kv y G G2, NL G G2 → R0 kv y G → R0 kv y G2)
    (hd : H d = some (.frz o (.dK kvs))) (hn : kvs.length ≤ 1000)
    (ht : ∀ (i : Nat) (kv : Key × V), kvs[i]? = some kv → ∀ H2, Ex H H2 → ∀ (R : V → Hp → Prop) (N : Hp → Prop), (F kv = true → ∀ y H3, Ex H2 H3 → R0 kv y H3 → R y H3) → (F kv = false → ∀ H3, Ex H2 H3 → N H3) →
      g (kV kv.1) (wipe σ vs) H2 fun σ2 H3 => wipe σ2 vs = wipe σ vs ∧ tt σ2 H3 fun c H4 => if c = true then te σ2 H4 fun y H5 => R y H5 else N H4)
    (k : ∀ ys p H2, Paired (fun y kv => R0 kv y H2) ys (kvs.filter F) → H p = none → Ex H H2 → H2 p = some (.lst ys) → Q (.ref p) H2) : LcI (Itk d o kvs) g tt te vs σ H Q := by
  refine fun D hD => ?_
  have ex : ∀ {G : Hp} {o : HO}, Ex H G → Ex H (upd G D o) := fun e b u hb => by rw [upd_ne (ne_of_none hb hD)]; exact e b u hb
  refine lc_it walk_keys (fun i H' => i ≤ kvs.length ∧ Ex H H' ∧ ∃ ys, Paired (fun y kv => R0 kv y H') ys ((kvs.take i).filter F) ∧ H' D = some (.lst ys))
    ⟨Nat.zero_le _, ex (Ex.refl _), [], .nil, upd_same⟩ (fun i H' _ p => p.2.1 _ _ hd) (fun i x H' H'' hi p y => ?_) (fun H' p => ?_)
  · obtain ⟨rfl, key, v, hk, rfl⟩ := y
    obtain ⟨_, e1, ys, hy, hD'⟩ := p
    have hyl : ys.length ≤ i := by
      rw [paired_len hy]
      exact Nat.le_trans (List.length_filter_le _ _) (by rw [List.length_take]; omega)
    have htk : kvs.take (i + 1) = kvs.take i ++ [(key, v)] := by rw [List.take_add_one, hk]; rfl
    refine ht i (key, v) hk H'' e1 (fun y H4 => ∃ acc, H4 D = some (.lst acc) ∧ acc.length < sizeLine ∧ (i + 1 ≤ kvs.length ∧ Ex H (upd H4 D (.lst (acc ++ [y]))) ∧ ∃ zs, Paired (fun z kv => R0 kv z (upd H4 D (.lst (acc ++ [y])))) zs ((kvs.take (i + 1)).filter F) ∧ upd H4 D (.lst (acc ++ [y])) D = some (.lst zs))) (fun H4 => i + 1 ≤ kvs.length ∧ Ex H H4 ∧ ∃ zs, Paired (fun y kv => R0 kv y H4) zs ((kvs.take (i + 1)).filter F) ∧ H4 D = some (.lst zs)) (fun hF y H3 e3 py => ?_) (fun hF H3 e3 => ?_)
    · have hD3 := e3 _ _ hD'
      have eD : NL H3 (upd H3 D (.lst (ys ++ [y]))) := NL.upd hD3
      refine ⟨ys, hD3, Evl.sz_lt (by omega), hi, ex (e1.trans e3), ys ++ [y], ?_, upd_same⟩
      rw [htk, List.filter_append, List.filter_cons_of_pos hF, List.filter_nil]
      exact paired_snoc (F := fun a b => R0 b a (upd H3 D (HO.lst (ys ++ [y])))) (hst _ _ _ _ eD py) (paired_up (fun a b h => hst _ _ _ _ eD (hst _ _ _ _ (NL.of e3) h)) hy)
    · refine ⟨hi, e1.trans e3, ys, ?_, e3 _ _ hD'⟩
      rw [htk, List.filter_append, List.filter_cons_of_neg (by rw [hF]; decide), List.filter_nil, List.append_nil]
      exact paired_up (fun a b h => hst _ _ _ _ (NL.of e3) h) hy
  · obtain ⟨_, e1, ys, hy, hD'⟩ := p
    rw [List.take_length] at hy
    exact k ys D H' hy hD e1 hD'
theorem ex_unlock {H G : Hp} {d : Addr} {od : Obj} {u : HO} (hd : H d = some u) (e : Ex (upd H d (.frz od u)) G) : Ex H (upd G d u) := fun a o ha => by
  by_cases h : a = d
  · subst h
    rw [upd_same, ← ha, hd]
  · rw [upd_ne h]
    exact e a o (by rw [upd_ne h]; exact ha)
theorem putK_fresh {kvs : List (Key × V)} {k : Key} {v : V} (h : k ∉ kvs.map (·.1)) : putK kvs k v = kvs ++ [(k, v)] := by
  unfold putK
  rw [if_neg]
  intro ha
  obtain ⟨p, hp, he⟩ := List.any_eq_true.mp ha
  exact h (List.mem_map.mpr ⟨p, hp, by simpa using he⟩)
theorem mergeK_nodup : ∀ (more kvs : List (Key × V)), ((kvs ++ more).map (·.1)).Nodup → mergeK kvs more = kvs ++ more
  | [], kvs, _ => (List.append_nil _).symm
  | p :: more, kvs, h => by
    have hp : p.1 ∉ kvs.map (·.1) := by
      rw [List.map_append, List.nodup_append] at h
      intro hm
      exact h.2.2 _ hm _ (List.mem_map.mpr ⟨p, List.mem_cons_self, rfl⟩) rfl
    show mergeK (putK kvs p.1 p.2) more = _
    rw [putK_fresh hp, mergeK_nodup more (kvs ++ [(p.1, p.2)]) (by rw [List.append_assoc]; exact h), List.append_assoc]
    rfl
theorem valV_filter {kvs : List (Key × V)} {F : Key × V → Bool} {k : Key} (h : ∀ v v', F (k, v) = F (k, v')) {v0 : V} (hF : F (k, v0) = true) : valV (kvs.filter F) k = valV kvs k := by
  induction kvs with
  | nil => rfl
  | cons p r ih =>
    by_cases e : p.1 = k
    · have hp : F p = true := by rw [← hF, show p = (k, p.2) from by rw [← e]]; exact h _ _
      rw [List.filter_cons_of_pos hp, valV_pos e, valV_pos e]
    · rw [valV_neg e]
      cases hp : F p with
      | true => rw [List.filter_cons_of_pos hp, valV_neg e, ih]
      | false => rw [List.filter_cons_of_neg (by rw [hp]; decide), ih]
theorem eqK_refl {kv : List (Key × V)} (hn : (kv.map (·.1)).Nodup) (hf : ∀ p ∈ kv, okV p.2 = true) : eqK kv kv = true := by
  unfold eqK
  rw [beq_self_eq_true, Bool.true_and, List.all_eq_true]
  intro p hp
  rw [valV_mem (k := p.1) (v := p.2) hn hp]
  exact eqV_refl (okV_flat (hf p hp))
def fK (kv : List (Key × V)) (s : Str) : Str := match valV kv (.inr s) with
  | some (.str s') => s'
  | _ => s
theorem fK_of {kv : List (Key × V)} {s s' : Str} (h : valV kv (.inr s) = some (.str s')) : fK kv s = s' := by unfold fK; rw [h]
theorem exB_put {b ld : Addr} {H G : Hp} {o : HO} (e : ExB b H G) (h : H ld = none) : ExB b H (upd G ld o) := fun a q na ha => by rw [upd_ne (ne_of_none ha h)]; exact e a q na ha
theorem box_put {b ld : Addr} {G : Hp} {o : HO} (h : BoxAt G b) (n : b ≠ ld) : BoxAt (upd G ld o) b := by
  obtain ⟨x, y, z, h0, q⟩ := h
  exact ⟨x, y, z, h0, by rw [upd_ne n]; exact q⟩
theorem freshB {b ld : Addr} {H G : Hp} (e : ExB b H G) (hb : BoxAt G b) (h : G ld = none) : H ld = none := by
  cases hq : H ld with
  | none => rfl
  | some o =>
    by_cases hn : ld = b
    · subst hn
      obtain ⟨ob, hob⟩ := hb.some
      exact absurd rfl (ne_of_none hob h)
    · have := e ld o hn hq
      rw [h] at this
      cases this
theorem at_last {xs : List V} (h : 0 < xs.length) : atI xs (-1) = xs[xs.length - 1]? := by
  unfold atI ixN
  rw [if_neg (by omega), if_pos (by omega)]
  show xs[_]? = _
  congr 1
  omega
theorem nodup_at {l : List Str} (h : l.Nodup) {j i : Nat} {s z : Str} (hj : l[j]? = some s) (hz : z ∈ l.take i) (hi : i ≤ j) : z ≠ s := by
  obtain ⟨k, hk, he⟩ := List.mem_iff_getElem.mp hz
  rw [List.length_take] at hk
  rw [List.getElem_take] at he
  intro e
  have hjl := (List.getElem?_eq_some_iff.mp hj).1
  have e2 : l[k]'(by omega) = l[j]'hjl := by rw [he, e]; exact ((List.getElem?_eq_some_iff.mp hj).2).symm
  have := (List.getElem_inj h).mp e2
  omega
theorem exB_ex {b : Addr} {H G G2 : Hp} (e : Ex H G) (hb : H b = none) (x : ExB b G G2) : Ex H G2 := fun a o h => x a o (ne_of_none h hb) (e a o h)
def RpV (K : PySem.W.Frag) (H : Hp) (v : V) (t : Str) : Prop := ∃ d : PyData, (Dp K H v d ∧ RpOk 50 100000 d ∨ ∃ a, v = .ref a ∧ H a = some (.dK []) ∧ d = .dict []) ∧ t = d.shown
def rReprQ (K : PySem.W.Frag) : List V → Hp → VK → Prop := fun xs H Q => ∃ (v : V) (t : Str), xs = [v] ∧ RpV K H v t ∧ Q (.str t) H
theorem un62 {n : Nat} {A : Around} (h : Room n A) : A.units + 62 < cLine := by have := h.un; omega
theorem call_reprQ {X : Cx} (hgd : X.A.guards = some []) (hu : X.A.units + 62 < cLine) : CallR X (.builtin "repr") (rReprQ X.K) := by
  intro pins s σ H xs us Q I r h
  obtain ⟨v, t, rfl, ⟨d, hd, rfl⟩, q⟩ := h
  cases r with
  | cons ra rr =>
    cases rr
    rename_i u
    rcases hd with ⟨hd, hk⟩ | ⟨a, rfl, ha, rfl⟩
    · have hz : d.shown.length ≤ sizeLine := PyData.shown_fits_bulk (B := 13) (by decide) (by decide) hk.2.2.1 (Nat.le_trans hk.2.2.2.2 (by decide))
      have hdp : d.depth ≤ 60 := Nat.le_trans hk.2.2.2.1 (by decide)
      have hnd : d.hasDict = false := PyData.hasDict_of_canLay d hk.2.1
      cases hd with
      | non =>
        cases ra
        exact PySem.P.repr_of_none ⟨.str _, H, I.tok _, ⟨_, by rw [PyData.shown]⟩, q⟩
      | bl b =>
        cases ra
        exact PySem.P.repr_of_bool ⟨.str _, H, I.tok _, ⟨_, by rw [PyData.shown]⟩, q⟩
      | int i =>
        obtain ⟨t, rfl⟩ := ra
        exact PySem.P.repr_of_int (by have := hk.1; simpa only [PyData.showable, decide_eq_true_eq] using this) ⟨.str _, H, I.tok _, ⟨_, by rw [PyData.shown]⟩, q⟩
      | str x =>
        obtain ⟨t, rfl⟩ := ra
        rw [PyData.shown] at hz
        exact PySem.P.repr_of_str ⟨.str _, H, I.tok _, ⟨_, by rw [PyData.shown]⟩, q⟩ hz
      | lst hs ha =>
        cases ra
        obtain ⟨as, rd⟩ := Dp.reads I _ _ _ (.lst hs ha) rfl
        refine repr_of_reads' rd hk.1 (fun z => by rw [hnd] at z; cases z) hgd (by omega) (fun _ _ z => z) (fun h' u tk hk => ?_) hz
        exact ⟨.str _, H, I.kept (t' := tk) hk, ⟨_, rfl⟩, q⟩
      | tup hs ha =>
        cases ra
        obtain ⟨as, rd⟩ := Dp.reads I _ _ _ (.tup hs ha) rfl
        refine repr_of_reads' rd hk.1 (fun z => by rw [hnd] at z; cases z) hgd (by omega) (fun _ _ z => z) (fun h' u tk hk => ?_) hz
        exact ⟨.str _, H, I.kept (t' := tk) hk, ⟨_, rfl⟩, q⟩
    · cases (show u = Value.ref a from ra)
      obtain ⟨_, hsys, vs, hkv, o, es, ep, ho, hx, hda, _, hp, _⟩ := I.hok a _ ha
      cases hkv
      have he : es = #[] := by
        obtain ⟨l⟩ := es
        cases hp
        rfl
      subst he
      have rd : Reads s.heap (.ref a) (.dict []) [a] := Reads.dict (kvs := []) (as := []) (bs := []) ho hx.1 hda (by exact ReadsAll.nil) (by exact ReadsAll.nil)
      refine repr_of_reads' rd (by simp only [PyData.showable, PyData.showableKv]) (fun _ z => ?_) hgd (by simp only [PyData.depth, PyData.depthKv]; omega) (fun _ _ z => z) (fun h' u tk hk => ?_) (by simp only [PyData.shown, PyData.shownKv]; rw [sizeLine_eq]; decide +kernel)
      · have : sysModules = a := by simpa using z
        rw [this] at hsys
        simp at hsys
      · exact ⟨.str _, H, I.kept (t' := tk) hk, ⟨_, rfl⟩, q⟩
theorem call_reprS {X : Cx} {a : Addr} {pn : List (Addr × Obj)} (hgd : X.A.guards = some []) (hu : X.A.units + 62 < cLine) : CallR (X.suite a pn) (.builtin "repr") (rReprQ X.K) := call_reprQ (X := X.suite a pn) hgd hu
def rIsP (K : PySem.W.Frag) (D a : Addr) (cls : Value) (d : Option Addr) : List V → Hp → VK → Prop := fun xs H Q => ∃ (c : V) (cv : Value) (b : Bool), xs = [.ref a, c] ∧ ClsV c cv ∧ cls = .ref D ∧ (∃ (dd : Addr) (fs : List (Str × V)), d = some dd ∧ H dd = some (.xd fs)) ∧ PySem.W.kitOne K (.ref D) cv = some b ∧ Q (.bl b) H
theorem call_isP {X : Cx} {a D : Addr} {oe : Obj} {cls : Value} {d : Option Addr} {pn : List (Addr × Obj)} (C : IcC X.K D) (hz : Zc cls d oe) (hf : ∃ vs, oe.data = .fields vs) : CallR (X.suite a ((a, oe) :: pn)) (.builtin "isinstance") (rIsP X.K D a cls d) := by
  intro pins s σ H xs us Q I r h
  obtain ⟨c, cv, b, rfl, hcv, rfl, ⟨dd, fs, rfl, ea⟩, e, q⟩ := h
  cases r with
  | cons rx rr =>
    cases rr with
    | cons rt rr =>
      cases rr
      cases rx
      have ec := hcv.eq rt
      subst ec
      obtain ⟨hget, _⟩ := I.pin (a, oe) (List.mem_append.mpr (.inl List.mem_cons_self))
      obtain ⟨vs, hd⟩ := hf
      have hx : ObjOk X.prog X.w H s.heap dd (.xd fs) := I.hok dd _ ea
      obtain ⟨mA, hns, hr⟩ := hx
      obtain ⟨od, ho, hl⟩ := lookIn_ns hns
      have J : PySem.W.InstAt s.heap a oe D (some od) := ⟨hget, hz.1, by unfold PySem.W.notCls; rw [hd] <;> rfl, by rw [hz.2]; exact ho⟩
      exact PySem.W.kia_one (PySem.W.kitx_exc C.cl C.xf.ga C.xf.gg C.xf.exC C.ha C.hn C.ht C.hm) I.kIn J e (fun z => nomatch z) fun tk => ⟨.bl b, H, I.kept (t' := tk) fun _ _ z => z, rfl, q⟩
theorem okc_repr {q c : Nat} (hq : q < 1114112) (hc : c < 1114112) : ∀ z ∈ Builtin.Str.reprChar q c, z < 1114112 := by
  intro z hz
  have hd : ∀ w, z ∈ (List.replicate (w - ((Nat.toDigits 16 c).map Char.toNat).length) 48 ++ (Nat.toDigits 16 c).map Char.toNat) → z < 1114112 := by
    intro w hz
    rcases List.mem_append.mp hz with h | h
    · have := List.eq_of_mem_replicate h; omega
    · obtain ⟨ch, _, rfl⟩ := List.mem_map.mp h
      rcases ch.valid with h | h
      · exact Nat.lt_trans h (by decide)
      · exact h.2
  unfold Builtin.Str.reprChar at hz
  dsimp only at hz
  repeat' split at hz
  all_goals simp only [List.mem_cons, List.mem_append, List.not_mem_nil, or_false] at hz
  all_goals first | omega | (rcases hz with (h | h) | h; · omega
                             · omega
                             · exact hd _ (List.mem_append.mpr h))
theorem okf_repr (q : Nat) (hq : q < 1114112) : ∀ (l : List Nat) (acc : Array Nat), (∀ z ∈ acc.toList, z < 1114112) → (∀ c ∈ l, c < 1114112) → ∀ z ∈ (l.foldl (fun out c => out ++ (Builtin.Str.reprChar q c).toArray) acc).toList, z < 1114112
  | [], acc, h, _ => h
  | c :: r, acc, h, hl => by
    rw [List.foldl_cons]
    refine okf_repr q hq r _ (fun z hz => ?_) fun d hd => hl d (List.mem_cons_of_mem _ hd)
    rw [Array.toList_append] at hz
    rcases List.mem_append.mp hz with h2 | h2
    · exact h z h2
    · exact okc_repr hq (hl c List.mem_cons_self) z h2
theorem okT_repr {x : Str} (h : OkT x) : OkT (reprText x) := by
  have hq : reprQuote x < 1114112 := by
    unfold reprQuote
    split <;> omega
  intro c hc
  have hc2 : c ∈ ((x.cps.foldl (fun out c => out ++ (Builtin.Str.reprChar (reprQuote x) c).toArray) #[reprQuote x]).push (reprQuote x)).toList := hc
  rw [Array.toList_push, ← Array.foldl_toList] at hc2
  rcases List.mem_append.mp hc2 with h2 | h2
  · refine okf_repr _ hq _ _ (fun z hz => ?_) (fun z hz => h z hz) c h2
    have : z = reprQuote x := by simpa using hz
    omega
  · have : c = reprQuote x := by simpa using h2
    omega
/-! new ones -/
section
variable {X : Cx} {σ : St} {H : Hp} {Q : VK} {D : Ends}
theorem c_dget2 {td ty tx : TE} (h : td σ H fun x H1 => ∃ a, x = .ref a ∧ IsD H1 a ∧ ty σ H1 fun y H2 => tx σ H2 fun z H3 => ∃ o, DGet H3 a y o ∧ Q (o.getD z) H3) : tDGet2 td ty tx σ H Q := h
theorem c_dget1 {td ty : TE} (h : td σ H fun x H1 => ∃ a, x = .ref a ∧ IsD H1 a ∧ ty σ H1 fun y H2 => ∃ o, DGet H2 a y o ∧ Q (o.getD .non) H2) : tDGet1 td ty σ H Q := h
theorem isD {d : Addr} {kvs : List (Key × V)} (h : H d = some (.dK kvs)) : IsD H d := .inl ⟨kvs, .inl h⟩
theorem isDz {d : Addr} {o : Obj} {kvs : List (Key × V)} (h : H d = some (.frz o (.dK kvs))) : IsD H d := .inl ⟨kvs, .inr ⟨o, h⟩⟩
theorem dgetZ {d : Addr} {o : Obj} {kvs : List (Key × V)} {s : Str} (h : H d = some (.frz o (.dK kvs))) : DGet H d (.str s) (valV kvs (.inr s)) := .inl ⟨kvs, .inr s, .inr ⟨o, h⟩, rfl, rfl⟩
theorem c_forIt {td : TE} {g : TG} {tb : TS} (h : td σ H fun x H1 => ∃ d o kvs, x = .ref d ∧ H1 d = some (.frz o (.dK kvs)) ∧ ForI (Iti d o kvs) g tb D σ H1) : tFor (iItems td) g tb D σ H := h
/-- for k, v in d.items() -/
theorem forIt {tb : TS} {g : TG} {d : Addr} {o : Obj} {kvs : List (Key × V)} (Pv : Nat → St → Hp → Prop) (h0 : Pv 0 σ H) (hl : ∀ i σ' H', i ≤ kvs.length → Pv i σ' H' → H' d = some (.frz o (.dK kvs)))
    (hs : ∀ i k v T σ' H', kvs[i]? = some (k, v) → Pv i σ' H' → H' T = none → g (.ref T) σ' (upd H' T (.tup [kV k, v])) fun σ2 H2 => tb { D with nx := Pv (i + 1), ct := Pv (i + 1), bk := D.nx } σ2 H2)
    (hd : ∀ σ' H', Pv kvs.length σ' H' → D.nx σ' H') : ForI (Iti d o kvs) g tb D σ H :=
  for_it walk_items Pv h0 hl (fun i v σ' H' H'' hi p y => by
    obtain ⟨T, x, z, rfl, hT, rfl, ex, ez⟩ := y
    cases hk : kvs[i]? with
    | none =>
      have h1 : (kvs[i]?.map fun kv => kV kv.1) = some x := ex
      rw [hk] at h1
      cases h1
    | some kv =>
      have h1 : (kvs[i]?.map fun kv => kV kv.1) = some x := ex
      have h2 : kvs[i]?.map Prod.snd = some z := ez
      rw [hk] at h1 h2
      cases h1
      cases h2
      exact hs i kv.1 kv.2 T σ' H' hk p hT) hd
/-- a dict that was locked is let go ahead of a statement -/
def tUnl (H0 : Hp) (t : TS) : TS := fun D σ H => ∃ d od u, H d = some (.frz od u) ∧ (∀ o' u', H0 d ≠ some (.frz o' u')) ∧ t D σ (upd H d u)
theorem ps_unl {st : Stmt} {t : TS} (h : PS X st t) : PS X st (tUnl X.H_0 t) := ⟨fun pins s σ H D I hw => let ⟨_, _, _, e, n, q⟩ := hw; h.run pins s σ _ D (I.unlock e n) q⟩
theorem c_listIt {te : TE} (h : te σ H fun x H1 => LiI.rItemsL x H1 Q) : LiI.tListItems te σ H Q := h
/-- s * n, n from 0 -/
def rRepA : R2 := fun x y H Q => ∃ (z : Str) (n : Int), x = .str z ∧ y = .int n ∧ 0 ≤ n ∧ n ≤ 1000 ∧ 0 < z.length ∧ z.length ≤ 100 ∧ Q (.str (repS z n.toNat)) H
theorem op_rep_strA : OpR X (binaryOp .Mult) rRepA := by
  intro pins s σ H x y v u Q I rx ry h
  obtain ⟨z, n, rfl, rfl, h0, h1, z0, z1, q⟩ := h
  rcases (by omega : n = 0 ∨ n = 1 ∨ 2 ≤ n) with rfl | rfl | h2
  · exact op_rep_str01 pins s σ H _ _ v u Q I rx ry ⟨z, 0, rfl, rfl, .inl ⟨rfl, q⟩⟩
  · refine op_rep_str01 pins s σ H _ _ v u Q I rx ry ⟨z, 1, rfl, rfl, .inr ⟨rfl, ?_⟩⟩
    have e : repS z (Int.toNat 1) = z := by
      show repS z 1 = z
      simp [repS]
    rw [e] at q
    exact q
  · exact op_rep_str pins s σ H _ _ v u Q I rx ry ⟨z, n, rfl, rfl, h2, by omega, z0, z1, q⟩
theorem rep_mem (a : Array Nat) : ∀ (n : Nat) (acc : Array Nat) (c : Nat), c ∈ ((List.replicate n a).foldl (· ++ ·) acc).toList → c ∈ acc.toList ∨ c ∈ a.toList
  | 0, acc, c, h => .inl (by simpa using h)
  | n + 1, acc, c, h => by
    rw [List.replicate_succ, List.foldl_cons] at h
    rcases rep_mem a n _ c h with h | h
    · rw [Array.toList_append] at h
      exact List.mem_append.mp h
    · exact .inr h
/-- a text of at most n signs that may be shown -/
def Tx (n : Nat) (s : Str) : Prop := OkT s ∧ s.length ≤ n
theorem Tx.mono {m n : Nat} {s : Str} (h : Tx m s) (k : m ≤ n) : Tx n s := ⟨h.1, Nat.le_trans h.2 k⟩
theorem Tx.app {m n : Nat} {s t : Str} (h : Tx m s) (k : Tx n t) : Tx (m + n) (s ++ t) := ⟨h.1.app k.1, by rw [add_len]; have := h.2; have := k.2; omega⟩
theorem Tx.rep {m : Nat} {s : Str} (h : Tx m s) (n : Nat) : Tx (n * m) (repS s n) := by
  refine ⟨fun c hc => ?_, by rw [repS_len]; exact Nat.mul_le_mul_left _ h.2⟩
  have hc2 : c ∈ ((List.replicate n s.cps).foldl (· ++ ·) #[]).toList := hc
  rcases rep_mem s.cps n #[] c hc2 with h2 | h2
  · simp at h2
  · exact h.1 c h2
theorem cut_len (z : Str) (lo hi : Option Int) : (cutS z lo hi).length ≤ z.length := by
  rw [← tl_len, tl_cut, List.length_take, List.length_drop, tl_len]
  omega
theorem Tx.cut {m : Nat} {s : Str} (h : Tx m s) (lo hi : Option Int) : Tx m (cutS s lo hi) := ⟨h.1.cut lo hi, Nat.le_trans (cut_len s lo hi) h.2⟩
theorem tx_sign {c : Nat} (h : c < 1114112) : Tx 1 ⟨#[c]⟩ := ⟨fun d hd => by
  have : d = c := by simpa [tl] using hd
  omega, Nat.le_refl _⟩
theorem tx_lit {n : Nat} {t : Str} (h : ((tl t).all (fun c => decide (c < 1114112)) && decide (t.length ≤ n)) = true) : Tx n t := by
  rw [Bool.and_eq_true, decide_eq_true_eq] at h
  exact ⟨OkT.lit h.1, h.2⟩
theorem at_str {ns : List Str} {d : Int} (h0 : 0 ≤ d) (h1 : d < (ns.length : Int)) : ∃ s, atI (ns.map V.str) d = some (.str s) ∧ s ∈ ns := by
  obtain ⟨j, rfl⟩ := Int.eq_ofNat_of_zero_le h0
  have hj : j < ns.length := by omega
  exact ⟨ns[j], atI_nat (by rw [List.getElem?_map, List.getElem?_eq_getElem hj] <;> rfl), List.getElem_mem hj⟩
theorem at_tl {t : Str} {n : Nat} {d : Int} (h0 : 0 ≤ d) (h1 : d < (t.length : Int)) (ht : Tx n t) : ∃ c, atI (tl t) d = some c ∧ c < 1114112 := by
  obtain ⟨j, rfl⟩ := Int.eq_ofNat_of_zero_le h0
  have hj : j < (tl t).length := by rw [tl_len]; omega
  exact ⟨(tl t)[j], atI_nat (List.getElem?_eq_getElem hj), ht.1 _ (List.getElem_mem hj)⟩
end
/-! != of two lists of dicts that are equal -/
section
variable {X : Cx} {pins : List (Addr × Obj)} {σ : St} {H : Hp} {s : Shared}
theorem hitsA (I : Inv X pins σ H s) {A : Around} (hu : A.units + 66 < cLine) {ls : List (Key × V)} {vb : List (Key × Value)} (rb : KV ls vb) (fl : ∀ k u, valV ls k = some u → okV u = true) {ks : List (Key × V)} {va : List (Key × Value)} (ra : KV ks va) (fk : ∀ p ∈ ks, okV p.2 = true) :
    PySem.W.KeqHits A.in1 s vb va (ks.all fun p => match valV ls p.1 with | some u => eqV p.2 u | none => false) := by
  unfold KV at ra
  induction ra with
  | nil => exact .nil
  | @cons p q ps qs h t ih =>
    obtain ⟨key, v⟩ := q
    obtain ⟨h1, h2⟩ := h
    have h1' : p.1 = key := h1
    have ih' := ih fun p' hm => fk p' (List.mem_cons_of_mem _ hm)
    rw [List.all_cons]
    have rr : RelO (valV ls p.1) (PySem.valueAt vb p.1) := rb.val p.1
    rw [h1'] at rr ⊢
    cases e : valV ls key with
    | none =>
      rw [e] at rr
      cases e2 : PySem.valueAt vb key with
      | none => exact .miss e2
      | some y =>
        rw [e2] at rr
        exact rr.elim
    | some u =>
      rw [e] at rr
      obtain ⟨y, hy, ry⟩ := rr.some_of
      have fp := fk p List.mem_cons_self
      have fu := fl key u e
      obtain ⟨as, r1⟩ := Dp.reads I (dOf p.2) p.2 v (dp_flat (okV_flat fp)) h2
      obtain ⟨bs, r2⟩ := Dp.reads I (dOf u) u y (dp_flat (okV_flat fu)) ry
      have z := PySem.W.keq_at (A := A) r1 r2 (shaped_flat fp) (shaped_flat fu) (by show A.units + 1 + 64 < cLine; omega)
      rw [eqv_flat (okV_flat fp) (okV_flat fu)] at z
      exact .hit hy z ih'
/-- two dicts of flat things that are equal -/
def EqDs (H : Hp) (u v : V) : Prop := ∃ (d e : Addr) (ks ls : List (Key × V)), u = .ref d ∧ v = .ref e ∧ d ≠ e ∧ H d = some (.dK ks) ∧ H e = some (.dK ls) ∧ (∀ p ∈ ks, okV p.2 = true) ∧ (∀ k u, valV ls k = some u → okV u = true) ∧ eqK ks ls = true
theorem eqds_at (I : Inv X pins σ H s) {A : Around} (hu : A.units + 66 < cLine) {u v : V} {x y : Value} (h : EqDs H u v) (rx : RelV u x) (ry : RelV v y) : SeqAt.EqP X.prog X.w A s x y true := by
  obtain ⟨d, e, ks, ls, rfl, rfl, hde, hd, he, fk, fl, hq⟩ := h
  cases (show x = Value.ref d from rx)
  cases (show y = Value.ref e from ry)
  obtain ⟨_, ya, va, ra, da⟩ := (show ObjOk X.prog X.w H s.heap d (.dK ks) from I.hok d _ hd)
  obtain ⟨_, yb, vb, rb, db⟩ := (show ObjOk X.prog X.w H s.heap e (.dK ls) from I.hok e _ he)
  refine SeqAt.eqP_refs hde fun E Q q => PySem.W.keq_eq (knd := mixKind X.prog X.w) ya yb da db (by omega) (fun _ => hitsA I hu rb fl ra fk) ?_
  rw [← ra.length, ← rb.length]
  unfold eqK at hq
  rw [hq]
  exact q
theorem eqds_all (I : Inv X pins σ H s) {A : Around} (hu : A.units + 66 < cLine) : ∀ {xs ys : List V}, Paired (EqDs H) xs ys → ∀ {us ws : List Value}, Vals xs us → Vals ys ws → ∀ (j : Nat) (h1 : j < us.length) (h2 : j < ws.length), SeqAt.EqP X.prog X.w A s us[j] ws[j] true
  | _, _, .nil, _, _, r1, _, j, h1, _ => by cases r1; exact absurd h1 (Nat.not_lt_zero j)
  | _, _, .cons h k, _, _, .cons a1 b1, .cons a2 b2, 0, _, _ => eqds_at I hu h a1 a2
  | _, _, .cons h k, _, _, .cons a1 b1, .cons a2 b2, j + 1, h1, h2 => eqds_all I hu k b1 b2 j (Nat.lt_of_succ_lt_succ h1) (Nat.lt_of_succ_lt_succ h2)
def rNeLD : R2 := fun x y H Q => ∃ (a b : Addr) (xs ys : List V), x = .ref a ∧ y = .ref b ∧ H a = some (.lst xs) ∧ H b = some (.lst ys) ∧ Paired (EqDs H) xs ys ∧ Q (.bl false) H
theorem op_neLD (hu : X.A.units + 68 < cLine) : OpR X (compareOp .NotEq) rNeLD := by
  intro pins s σ H x y v u Q I rx ry h
  obtain ⟨a, b, xs, ys, rfl, rfl, ha, hb, hp, q⟩ := h
  cases (show v = Value.ref a from rx)
  cases (show u = Value.ref b from ry)
  obtain ⟨us, r1, p1, _⟩ := I.list (SqL.of ha)
  obtain ⟨ws, r2, p2, _⟩ := I.list (SqL.of hb)
  have hsz : us.toArray.size = ws.toArray.size := by
    rw [List.size_toArray, List.size_toArray, ← r1.length, ← r2.length]
    exact Paired.length hp
  refine NeL.lists_ne p1.isList p2.isList hsz (by omega) (fun j h1 h2 => ?_) _ _ ⟨.bl false, H, I, rfl, q⟩
  have k := eqds_all I (A := X.A.in1) (by show X.A.units + 1 + 66 < cLine; omega) hp r1 r2 j (by simpa using h1) (by simpa using h2)
  simpa using k
theorem hu68 {A : Around} {k : Nat} (hr : Room k A) : A.units + 68 < cLine := by have := hr.un; omega
end
end L2

/-! ### == and != of dicts whose values are data that are equal; comprehensions over dicts that make lists -/
namespace L2
open PySem PySem.Spec PyProof.Rows
open Evl hiding RetV RetL
section
variable {X : Cx} {pins : List (Addr × Obj)} {σ : St} {H : Hp} {s : Shared}
def LikeD (K : PySem.W.Frag) (H : Hp) (ls : List (Key × V)) (p : Key × V) : Prop := ∃ u d e, valV ls p.1 = some u ∧ Dp K H p.2 d ∧ Dp K H u e ∧ SeqAt.shaped d = true ∧ SeqAt.shaped e = true ∧ PyData.eqv d e = true
theorem hitsD (I : Inv X pins σ H s) (hu : X.A.units + 66 < cLine) {ls : List (Key × V)} {vb : List (Key × Value)} (rb : KV ls vb) {ks : List (Key × V)} {va : List (Key × Value)} (ra : KV ks va) (fk : ∀ p ∈ ks, LikeD X.K H ls p) :
    PySem.W.KeqHits X.A.in1 s vb va true := by
  unfold KV at ra
  induction ra with
  | nil => exact .nil
  | @cons p q ps qs h t ih =>
    obtain ⟨key, v⟩ := q
    obtain ⟨h1, h2⟩ := h
    have h1' : p.1 = key := h1
    have ih' := ih fun p' hm => fk p' (List.mem_cons_of_mem _ hm)
    obtain ⟨u, d, e, e1, d1, d2, s1, s2, eq⟩ := fk p List.mem_cons_self
    have rr : RelO (valV ls p.1) (PySem.valueAt vb p.1) := rb.val p.1
    rw [h1'] at rr e1
    rw [e1] at rr
    obtain ⟨y, hy, ry⟩ := rr.some_of
    obtain ⟨as, r1⟩ := Dp.reads I d p.2 v d1 h2
    obtain ⟨bs, r2⟩ := Dp.reads I e u y d2 ry
    have z := PySem.W.keq_at (A := X.A) r1 r2 s1 s2 (by show X.A.units + 1 + 64 < cLine; omega)
    rw [eq] at z
    exact .hit (b := true) hy z ih'
def rEqKD (K : PySem.W.Frag) : R2 := fun x y H Q => ∃ (a b : Addr) (ks ls : List (Key × V)), x = .ref a ∧ y = .ref b ∧ H a = some (.dK ks) ∧ H b = some (.dK ls) ∧ ks.length = ls.length ∧ (∀ p ∈ ks, LikeD K H ls p) ∧ Q (.bl true) H
def rNeKD (K : PySem.W.Frag) : R2 := fun x y H Q => ∃ (a b : Addr) (ks ls : List (Key × V)), x = .ref a ∧ y = .ref b ∧ H a = some (.dK ks) ∧ H b = some (.dK ls) ∧ ks.length = ls.length ∧ (∀ p ∈ ks, LikeD K H ls p) ∧ Q (.bl false) H
theorem op_eqKD (hu : X.A.units + 66 < cLine) : OpR X (compareOp .Eq) (rEqKD X.K) := by
  intro pins s σ H x y v u Q I rx ry h
  obtain ⟨a, b, ks, ls, rfl, rfl, ha, hb, hl, fk, q⟩ := h
  cases (show v = Value.ref a from rx)
  cases (show u = Value.ref b from ry)
  obtain ⟨_, ya, va, ra, da⟩ := (show ObjOk X.prog X.w H s.heap a (.dK ks) from I.hok a _ ha)
  obtain ⟨_, yb, vb, rb, db⟩ := (show ObjOk X.prog X.w H s.heap b (.dK ls) from I.hok b _ hb)
  refine PySem.W.keq_eq (knd := mixKind X.prog X.w) ya yb da db (by omega) (fun _ => hitsD I hu rb ra fk) ?_
  rw [← ra.length, ← rb.length, hl, beq_self_eq_true, Bool.true_and]
  exact ⟨.bl _, H, I, rfl, q⟩
theorem op_neKD (hu : X.A.units + 66 < cLine) : OpR X (compareOp .NotEq) (rNeKD X.K) := by
  intro pins s σ H x y v u Q I rx ry h
  obtain ⟨a, b, ks, ls, rfl, rfl, ha, hb, hl, fk, q⟩ := h
  cases (show v = Value.ref a from rx)
  cases (show u = Value.ref b from ry)
  obtain ⟨_, ya, va, ra, da⟩ := (show ObjOk X.prog X.w H s.heap a (.dK ks) from I.hok a _ ha)
  obtain ⟨_, yb, vb, rb, db⟩ := (show ObjOk X.prog X.w H s.heap b (.dK ls) from I.hok b _ hb)
  refine PySem.W.keq_ne (knd := mixKind X.prog X.w) ya yb da db (by omega) (fun _ => hitsD I hu rb ra fk) ?_
  rw [← ra.length, ← rb.length, hl, beq_self_eq_true, Bool.true_and]
  exact ⟨.bl _, H, I, rfl, q⟩
theorem like_lists {K : PySem.W.Frag} {H : Hp} {ls : List (Key × V)} {k : Key} {p q : Addr} {xs : List V} (h : valV ls k = some (.ref q)) (hp : SqL K H p xs) (hq : SqL K H q xs) (ho : xs.all okV = true) : LikeD K H ls (k, .ref p) :=
  ⟨_, _, _, h, .lst hp (dpAll_flat (okL_flat ho)), .lst hq (dpAll_flat (okL_flat ho)), shaped_lst ho, shaped_lst ho, by rw [PyData.eqv, eqvAll_flat (okL_flat ho) (okL_flat ho)]; exact eqL_refl (okL_flat ho)⟩
end
theorem lcKD {d : Addr} {o : Obj} {kvs : List (Key × V)} {g : L2.TG} {tt : TT} {te : TE} {vs : List Nat} {σ : St} {H : Hp} {Q : VK} (F : Key × V → Bool) (R0 : Addr → Key × V → V → Hp → Prop) (hst : ∀ D kv y G G2, ExB D G G2 → R0 D kv y G → R0 D kv y G2)
    (hd : H d = some (.frz o (.dK kvs))) (hn : kvs.length ≤ 1000)
    (ht : ∀ (D : Addr) (i : Nat) (kv : Key × V), H D = none → kvs[i]? = some kv → ∀ H2, Ex H H2 → (∃ o, H2 D = some o) → ∀ (R : V → Hp → Prop) (N : Hp → Prop), (F kv = true → ∀ y H3, Ex H2 H3 → R0 D kv y H3 → R y H3) → (F kv = false → ∀ H3, Ex H2 H3 → N H3) →
      g (kV kv.1) (wipe σ vs) H2 fun σ2 H3 => wipe σ2 vs = wipe σ vs ∧ tt σ2 H3 fun c H4 => if c = true then te σ2 H4 fun y H5 => R y H5 else N H4)
    (k : ∀ ys p H2, Paired (fun y kv => R0 p kv y H2) ys (kvs.filter F) → H p = none → Ex H H2 → H2 p = some (.lst ys) → Q (.ref p) H2) : LcI (Itk d o kvs) g tt te vs σ H Q := by
  refine fun D hD => ?_
  have ex : ∀ {G : Hp} {o : HO}, Ex H G → Ex H (upd G D o) := fun e b u hb => by rw [upd_ne (ne_of_none hb hD)]; exact e b u hb
  refine lc_it walk_keys (fun i H' => i ≤ kvs.length ∧ Ex H H' ∧ ∃ ys, Paired (fun y kv => R0 D kv y H') ys ((kvs.take i).filter F) ∧ H' D = some (.lst ys))
    ⟨Nat.zero_le _, ex (Ex.refl _), [], .nil, upd_same⟩ (fun i H' _ p => p.2.1 _ _ hd) (fun i x H' H'' hi p y => ?_) (fun H' p => ?_)
  · obtain ⟨rfl, key, v, hk, rfl⟩ := y
    obtain ⟨_, e1, ys, hy, hD'⟩ := p
    have hyl : ys.length ≤ i := by
      rw [paired_len hy]
      exact Nat.le_trans (List.length_filter_le _ _) (by rw [List.length_take]; omega)
    have htk : kvs.take (i + 1) = kvs.take i ++ [(key, v)] := by rw [List.take_add_one, hk]; rfl
    refine ht D i (key, v) hD hk H'' e1 ⟨_, hD'⟩ (fun y H4 => ∃ acc, H4 D = some (.lst acc) ∧ acc.length < sizeLine ∧ (i + 1 ≤ kvs.length ∧ Ex H (upd H4 D (.lst (acc ++ [y]))) ∧ ∃ zs, Paired (fun z kv => R0 D kv z (upd H4 D (.lst (acc ++ [y])))) zs ((kvs.take (i + 1)).filter F) ∧ upd H4 D (.lst (acc ++ [y])) D = some (.lst zs))) (fun H4 => i + 1 ≤ kvs.length ∧ Ex H H4 ∧ ∃ zs, Paired (fun y kv => R0 D kv y H4) zs ((kvs.take (i + 1)).filter F) ∧ H4 D = some (.lst zs)) (fun hF y H3 e3 py => ?_) (fun hF H3 e3 => ?_)
    · have hD3 := e3 _ _ hD'
      have eD : ExB D H3 (upd H3 D (.lst (ys ++ [y]))) := ExB.upd
      refine ⟨ys, hD3, Evl.sz_lt (by omega), hi, ex (e1.trans e3), ys ++ [y], ?_, upd_same⟩
      rw [htk, List.filter_append, List.filter_cons_of_pos hF, List.filter_nil]
      exact paired_snoc (F := fun a b => R0 D b a (upd H3 D (HO.lst (ys ++ [y])))) (hst _ _ _ _ _ eD py) (paired_up (fun a b h => hst _ _ _ _ _ eD (hst _ _ _ _ _ (ExB.of e3) h)) hy)
    · refine ⟨hi, e1.trans e3, ys, ?_, e3 _ _ hD'⟩
      rw [htk, List.filter_append, List.filter_cons_of_neg (by rw [hF]; decide), List.filter_nil, List.append_nil]
      exact paired_up (fun a b h => hst _ _ _ _ _ (ExB.of e3) h) hy
  · obtain ⟨_, e1, ys, hy, hD'⟩ := p
    rw [List.take_length] at hy
    exact k ys D H' hy hD e1 hD'
/-- as lcLP, and what is not a list is kept -/
theorem lcLPl {K : PySem.W.Frag} {σ : St} {H : Hp} {Q : VK} {g : L2.TG} {tt : TT} {te : TE} {vs : List Nat} {a : Addr} {xs : List V} (P : Addr → Nat → V → Hp → Prop) (hst : ∀ D i y G G2, ExB D G G2 → NL G G2 → P D i y G → P D i y G2) (hs : SqL K H a xs) (hn : xs.length ≤ 1000)
    (ht : ∀ (D : Addr) (i : Nat) (x : V), H D = none → xs[i]? = some x → ∀ H2, Ex H H2 → (∃ o, H2 D = some o) → ∀ (R : V → Hp → Prop) (N : Hp → Prop), (∀ y H3, Ex H2 H3 → P D i y H3 → R y H3) →
      g x (wipe σ vs) H2 fun σ2 H3 => wipe σ2 vs = wipe σ vs ∧ tt σ2 H3 fun c H4 => if c = true then te σ2 H4 fun y H5 => R y H5 else N H4)
    (k : ∀ ys p H2, ys.length = xs.length → (∀ i y, ys[i]? = some y → P p i y H2) → H p = none → Ex H H2 → H2 p = some (.lst ys) → Q (.ref p) H2) : LcI (Itl K a) g tt te vs σ H Q := by
  refine fun D hD => ?_
  have ex : ∀ {G : Hp} {o : HO}, Ex H G → Ex H (upd G D o) := fun e b u hb => by rw [upd_ne (ne_of_none hb hD)]; exact e b u hb
  refine lc_list (xs := xs) (fun i H' => i ≤ xs.length ∧ Ex H H' ∧ ∃ ys, ys.length = i ∧ (∀ j y, ys[j]? = some y → P D j y H') ∧ H' D = some (.lst ys))
    ⟨Nat.zero_le _, ex (Ex.refl _), [], rfl, (fun j y h => by simp at h), upd_same⟩ (fun i H' _ p => Evl.ex_l p.2.1 hs) (fun i x H' hi p => ?_) (fun H' p => ?_)
  · obtain ⟨_, e1, ys, hl, hy, hD'⟩ := p
    have hil := (List.getElem?_eq_some_iff.mp hi).1
    refine ht D i x hD hi H' e1 ⟨_, hD'⟩ (fun y H4 => ∃ acc, H4 D = some (.lst acc) ∧ acc.length < sizeLine ∧ (i + 1 ≤ xs.length ∧ Ex H (upd H4 D (.lst (acc ++ [y]))) ∧ ∃ zs, zs.length = i + 1 ∧ (∀ j y2, zs[j]? = some y2 → P D j y2 (upd H4 D (.lst (acc ++ [y])))) ∧ upd H4 D (.lst (acc ++ [y])) D = some (.lst zs))) _ (fun y H3 e3 py => ?_)
    have eD : ExB D H3 (upd H3 D (.lst (ys ++ [y]))) := ExB.upd
    have eN : NL H3 (upd H3 D (.lst (ys ++ [y]))) := NL.upd (e3 _ _ hD')
    refine ⟨ys, e3 _ _ hD', Evl.sz_lt (by omega), hil, ex (e1.trans e3), ys ++ [y], by rw [List.length_append, hl]; rfl, fun j y2 hj => ?_, upd_same⟩
    rcases Nat.lt_or_ge j ys.length with h | h
    · rw [List.getElem?_append_left h] at hj
      exact hst _ _ _ _ _ eD eN (hst _ _ _ _ _ (ExB.of e3) (NL.of e3) (hy j y2 hj))
    · rw [List.getElem?_append_right h] at hj
      have hj0 : j - ys.length = 0 := by
        have := (List.getElem?_eq_some_iff.mp hj).1
        rw [List.length_singleton] at this
        omega
      rw [hj0] at hj
      have hyy : y = y2 := by simpa using hj
      subst hyy
      have : j = i := by omega
      subst this
      exact hst _ _ _ _ _ eD eN py
  · obtain ⟨_, e1, ys, hl, hy, hD'⟩ := p
    exact k ys D H' hl hy hD e1 hD'
/-- as lcRB, each thing with a property that no change of lists takes away -/
theorem lcRBP {σ : St} {H : Hp} {Q : VK} {g : L2.TG} {tt : TT} {te : TE} {vs : List Nat} {n : Nat} {b : Addr} (P : V → Hp → Prop) (hst : ∀ y G G2, NL G G2 → P y G → P y G2) (hn : n ≤ 1000) (hB : BoxAt H b)
    (ht : ∀ (i : Nat), i < n → ∀ H2, BoxAt H2 b → ExB b H H2 → ∀ (R : V → Hp → Prop) (N : Hp → Prop), (∀ y H3, P y H3 → BoxAt H3 b → ExB b H2 H3 → R y H3) →
      g (.int (i : Int)) (wipe σ vs) H2 fun σ2 H3 => wipe σ2 vs = wipe σ vs ∧ tt σ2 H3 fun c H4 => if c = true then te σ2 H4 fun y H5 => R y H5 else N H4)
    (k : ∀ ys p H2, ys.length = n → (∀ y ∈ ys, P y H2) → H p = none → ExB b H H2 → BoxAt H2 b → H2 p = some (.lst ys) → Q (.ref p) H2) : LcI (Itr 0 n) g tt te vs σ H Q := by
  refine fun D hD => ?_
  obtain ⟨ob, hob⟩ := hB.some
  have nDb : D ≠ b := (ne_of_none hob hD).symm
  have bx : ∀ {G : Hp} {o : HO}, BoxAt G b → BoxAt (upd G D o) b := fun ⟨x, y, z, p, q⟩ => ⟨x, y, z, p, by rw [upd_ne nDb.symm]; exact q⟩
  have ex : ∀ {G : Hp} {o : HO}, ExB b H G → ExB b H (upd G D o) := fun e a u na ha => by rw [upd_ne (ne_of_none ha hD)]; exact e a u na ha
  refine lc_range (lo := 0) (n := n) (fun i H' => i ≤ n ∧ ExB b H H' ∧ BoxAt H' b ∧ ∃ ys, ys.length = i ∧ (∀ y ∈ ys, P y H') ∧ H' D = some (.lst ys)) ⟨Nat.zero_le _, ex (ExB.refl _ _), bx hB, [], rfl, (fun _ h => by cases h), upd_same⟩ (fun i H' hi p => ?_) (fun H' p => ?_)
  · obtain ⟨_, e1, b1, ys, hl, hg, hy⟩ := p
    have e0 : (0 : Int) + (i : Int) = (i : Int) := Int.zero_add _
    rw [e0]
    refine ht i hi H' b1 e1 (fun y H4 => ∃ acc, H4 D = some (.lst acc) ∧ acc.length < sizeLine ∧ (i + 1 ≤ n ∧ ExB b H (upd H4 D (.lst (acc ++ [y]))) ∧ BoxAt (upd H4 D (.lst (acc ++ [y]))) b ∧ ∃ zs, zs.length = i + 1 ∧ (∀ y2 ∈ zs, P y2 (upd H4 D (.lst (acc ++ [y])))) ∧ upd H4 D (.lst (acc ++ [y])) D = some (.lst zs))) _ (fun y H3 gy b3 e3 => ?_)
    have hD3 := e3 D _ nDb hy
    have eN : NL H3 (upd H3 D (.lst (ys ++ [y]))) := NL.upd hD3
    refine ⟨ys, hD3, Evl.sz_lt (by omega), hi, ex (e1.trans e3), bx b3, ys ++ [y], by rw [List.length_append, hl]; rfl, fun z hz => ?_, upd_same⟩
    rcases List.mem_append.mp hz with h | h
    · exact hst _ _ _ eN (hst _ _ _ (NL.box e3 b1) (hg z h))
    · have : z = y := by simpa using h
      rw [this]
      exact hst _ _ _ eN gy
  · obtain ⟨_, e1, b1, ys, hl, hg, hy⟩ := p
    exact k ys D H' hl hg hD e1 b1 hy
end L2

/-! ### while, without a word of the test -/
namespace L2
open PySem PySem.Spec PyProof.Rows
open Evl hiding RetV RetL
/-- the turn of a while that comes back to Pv with less -/
def WTurn (tb : TS) (D : Ends) (Pv : St → Hp → Prop) (μ : St → Hp → Nat) (m : Nat) (σ : St) (H : Hp) : Prop := ∃ N : St → Hp → Prop, (∀ σ' H', N σ' H' → ∃ m', m' < m ∧ m' = μ σ' H' ∧ Pv σ' H') ∧ tb { D with nx := N, ct := N, bk := D.nx } σ H
theorem c_turn {tb : TS} {D : Ends} {Pv : St → Hp → Prop} {μ : St → Hp → Nat} {m : Nat} {σ : St} {H : Hp} (h : tb { D with nx := fun σ' H' => Pv σ' H' ∧ μ σ' H' < m, ct := fun σ' H' => Pv σ' H' ∧ μ σ' H' < m, bk := D.nx } σ H) : WTurn tb D Pv μ m σ H := ⟨_, fun _ _ ⟨p, l⟩ => ⟨_, l, rfl, p⟩, h⟩
theorem while_do {c : TT} {tb : TS} {D : Ends} {σ : St} {H : Hp} (Pv : St → Hp → Prop) (μ : St → Hp → Nat) (h0 : Pv σ H)
    (hs : ∀ σ H, Pv σ H → c σ H fun b H1 => if b = true then WTurn tb D Pv μ (μ σ H) σ H1 else D.nx σ H1) : tWhile c tb D σ H := by
  refine ⟨fun m σ H => m = μ σ H ∧ Pv σ H, ⟨_, rfl, h0⟩, ?_⟩
  rintro m σ H ⟨rfl, p⟩
  exact hs σ H p
end L2

/-! ### except suites that call defs: the context of what is handled is None -/
namespace L2
open PySem PySem.Spec PyProof.Rows
open L2H (HotC Hot1 FnH RoomH cxH)
section
variable {X : Cx} {x : Str} {p q pos : Pos} {e : Expr} {es : List Expr} {ta : TA}
theorem pmkN_oex {CX : CXT} {C fI : Addr} {k : Nat} {fd : FuncData} {ps : List Str} {sp : Sp} {ds : List Value} {dvs : List V} (T : OexC X.K C) (iC : PySem.W.findIn X.K (.ref C) "__init__" = some (some (.ref fI))) (tI : PySem.W.typeIn X.K (.ref fI) = some (.type "function"))
    (F1 : FnOk X.prog X.w X.K X.mg X.base CX k fI fd ps sp) (hr : Room (k + 1) X.A) (hb : Binds X.K fd ps ds) (hd : Vals dvs ds) (hx : Passes CX X (fun _ _ _ => False)) (hg : Gl X x) (hm : X.mg x = some (.ref C)) (ha : PA X (e :: es) ta)
    (hdb : (x == ("__debug__" : Str)) = false := by decide) (he : starEach (e :: es) X.env = (false, eval e X.env) :: starEach es X.env := by rfl) (hpl : (backTo pos (starEach es X.env)).any (·.1) = false := by rfl) :
    L2N.PMk X (.Call (.Name x p) (e :: es) [] pos) (tMkO C sp dvs ta) := by
  intro pins s σ H Q I h
  obtain ⟨nm, q, N, bs, bm, sn, sub, ab, col, dd, k0, k1, k2, k3, k5, hC, hbm⟩ := T.cls
  refine wpAny_Call_Name_kw (ld_glob I hg hm ?_ hdb)
  refine PySem.W.callWith_K (h₀ := X.base) I.ok.mod.kin T.kC (thn (ha.run pos pins s σ H _ I h) fun us s1 hh => ?_) he hpl
  obtain ⟨vs, H1, I1, r1, hz, q1⟩ := hh
  refine ⟨I1.kIn, ?_⟩
  show wpAny _ _ (call (.ref C) us) _ _ _
  obtain ⟨hp, g, dr, tk, os⟩ := s1
  have le1 : hp.objs.size ≤ hp.objs.size + 1 := Nat.le_succ _
  have hn : H1 (hp.objs.size + 1) = none := I1.hok.fresh le1
  have hq := q1 (hp.objs.size + 1) hn
  have kep : ∀ b o, hp.get? b = some o → ((hp.push (PySem.W.kdv_tup us)).push (PySem.HandSPX.excO C hp.objs.size)).get? b = some o := fun b o z => Heap.get?_push_of_some _ (Heap.get?_push_of_some _ z)
  have hget : ((hp.push (PySem.W.kdv_tup us)).push (PySem.HandSPX.excO C hp.objs.size)).get? (hp.objs.size + 1) = some (PySem.HandSPX.excO C hp.objs.size) := by heap_get
  have J2 : Inv X pins σ (upd H1 (hp.objs.size + 1) (exo (hp.objs.size + 1) C none)) ⟨(hp.push (PySem.W.kdv_tup us)).push (PySem.HandSPX.excO C hp.objs.size), g, dr, tk, os⟩ :=
    I1.laid (t' := tk) (a := hp.objs.size + 1) (o := exo (hp.objs.size + 1) C none) (h' := (hp.push (PySem.W.kdv_tup us)).push (PySem.HandSPX.excO C hp.objs.size)) kep le1 (exo_ok hget)
  have rv2 : Vals (V.ref (hp.objs.size + 1) :: (vs ++ dvs)) (Value.ref (hp.objs.size + 1) :: (us ++ ds)) := .cons rfl (r1.append hd)
  have hlen : (Value.ref (hp.objs.size + 1) :: us ++ ds).length = ps.length := by
    have z := rv2.length
    rw [F1.len _ _ _ _ hq] at z
    exact z.symm
  have hus : us.length ≤ sizeLine := by
    rw [← Paired.length r1, sizeLine_eq]
    omega
  refine wpAny_call (PySem.HandSPX.call_own F.excBase_ValueError (fun Y => PySem.HandSPX.refsVE_contains Y bm hbm) (I1.kIn _ _ hC) (PySem.W.looks_findIn I1.kIn iC) (fun self => PySem.W.bind_fn I1.kIn self tI) hus ?_)
  refine codeAny_mono (F1.run _ X.stack _ _ ⟨Value.ref (hp.objs.size + 1) :: us, []⟩ (Value.ref (hp.objs.size + 1) :: (us ++ ds)) _ _ (fun _ _ _ => False) (hr.make C us []) (J2.env0.make C us []) (hb _ (Value.ref (hp.objs.size + 1) :: us) J2.kIn hlen) rv2 hq) fun r s' hq' => ?_
  cases r with
  | error er => exact hx pins σ _ _ er s' J2 hq'
  | ok fl =>
    cases fl with
    | ret u =>
      obtain ⟨v, H2, os2, bare2, un2, hok2, rv, ev, d, fs, ea, ed, hd1, q2⟩ := hq'
      subst ev
      obtain ⟨h2, g2, d2, t2, os'⟩ := s'
      obtain ⟨t0, G, J, kG, ge, hoe, na⟩ := mk_end0 (d2 := d2) (t2 := t2) I1 le1 kep un2 hok2 os2 bare2 ea ed hd1
      refine ⟨rv, hp.objs.size + 1, _, _, ⟨G, g2, d2, t2, os'⟩, _, .ref C, some d, rfl, J, kG, ge, hoe, ⟨rfl, rfl, fun vs hv => ?_⟩, rfl, rfl, na, rfl, bare2, raises_own T.exC T.tyC, q2⟩
      cases hv
      rfl
    | next => exact False.elim hq'
    | brk => exact False.elim hq'
    | cont => exact False.elim hq'
theorem passAt0 {σ : St} : PassesAt CX0 X σ E0 := fun _ _ _ _ _ _ z => z.elim
theorem passH {W : WX} {E : XK} (tk : L2N.Takes X W) (hW : ∀ cls d σ H, E cls d H → W cls d σ H) : Passes (L2N.CX X.prog X.w) X E := fun pins σ H s e s' I c => L2N.passes_call tk hW pins σ H s e s' I c
end
section
variable {P : Program} {w : World} {K : PySem.W.Frag} {mg : Str → Option Value} {base : Heap}
theorem Fun.okN {x qual : Str} {st : Stmt} {f : Addr} {fd : FuncData} {N ps : List Str} {k : Nat} {sp : Sp} (F : Fun K x qual st f fd) (S : FnScope N ps (defScope st)) (len : ∀ vs H Q E, sp vs H Q E → vs.length = ps.length)
    (hbody : ∀ (cdv : Value) (A : Around) (outer : List Env) (s : Shared) (H : Hp) (vs : List V) (Q : VK) (E : XK), Room k (A.deeper (envOfC qual (defScope st) s.heap.objs.size f cdv)) → sp vs H Q E →
      ∃ t, PSs (cxOf (L2N.CX P w) P w K mg base N qual (defScope st) f cdv A outer s H E) (defBody st) t ∧ t { nx := fun _ H' => Q .non H', rt := Q } (start N vs) H) : FnOk P w K mg base (L2N.CX P w) (k + 1) f fd ps sp := by
  obtain ⟨oc, od, kV, doc, pm, an, cdv, ct, osl, rfl, lk, hcd⟩ := F.ex
  exact fn_of lk hcd S len fun A outer s H vs Q E hr hsp => hbody cdv A outer s H vs Q E hr hsp
/-- a def by its body, called where an exception is handled -/
theorem Fun.okH {x qual : Str} {st : Stmt} {f : Addr} {fd : FuncData} {N ps : List Str} {k : Nat} {sp : Sp} (F : Fun K x qual st f fd) (S : FnScope N ps (defScope st)) (len : ∀ vs H Q E, sp vs H Q E → vs.length = ps.length)
    (hbody : ∀ (cdv : Value) (A : Around) (outer : List Env) (s : Shared) (H : Hp) (vs : List V) (Q : VK) (E : XK) (p : Addr × Obj), HotC (cxH CX0 P w K mg base N qual (defScope st) f cdv A outer s H E p).nox → RoomH k (A.deeper (envOfC qual (defScope st) s.heap.objs.size f cdv)) → sp vs H Q E →
      ∃ t, PSs (cxH CX0 P w K mg base N qual (defScope st) f cdv A outer s H E p).nox (defBody st) t ∧ t { nx := fun _ H' => Q .non H', rt := Q } (start N vs) H) : FnH P w K mg base CX0 (k + 1) f fd ps sp := by
  obtain ⟨oc, od, kV, doc, pm, an, cdv, ct, osl, rfl, lk, hcd⟩ := F.ex
  refine L2H.fn_ofH lk hcd S len fun A outer s H vs Q E p hot hr hsp => ?_
  obtain ⟨t, ht, hq⟩ := hbody cdv A outer s H vs Q E p ⟨p, ⟨hot.1, hot.2⟩, List.mem_cons_self⟩ hr hsp
  exact ⟨t, ht.nox, hq⟩
theorem huH {A : Around} {k : Nat} (hr : RoomH k A) : A.units + 1 < cLine := by have := hr.un; omega
theorem hu66H {A : Around} {k : Nat} (hr : RoomH k A) : A.units + 66 < cLine := by have := hr.un; omega
theorem hu68H {A : Around} {k : Nat} (hr : RoomH k A) : A.units + 68 < cLine := by have := hr.un; omega
theorem unitsH {A : Around} {k : Nat} (hr : RoomH k A) : A.units + 64 < cLine := by have := hr.un; omega
end
/-! try, where the suites may call defs -/
abbrev SuiOkN (X : Cx) (ss : List Stmt) (ts : Sui) : Prop := ∀ (a : Addr) (oe : Obj) (k : Value) (d : Option Addr) (pn : List (Addr × Obj)), Zc k d oe → (∃ vs, oe.data = .fields vs) → HotC (X.suite a ((a, oe) :: pn)) → PSs (X.suite a ((a, oe) :: pn)) ss (ts a k d)
inductive HdsN (X : Cx) : List ExceptHandler → List (Value × Option Nat × Sui) → Prop
  | nil : HdsN X [] []
  | anon {x : Str} {c : Value} {ts : Sui} {s0 : Stmt} {ss : List Stmt} {p1 p2 : Pos} {hs : List ExceptHandler} {l : List (Value × Option Nat × Sui)} (hc : Names X x c) (su : SuiOkN X (s0 :: ss) ts) (r : HdsN X hs l) : HdsN X (.ExceptHandler (some (.Name x p1)) none (s0 :: ss) p2 :: hs) ((c, none, ts) :: l)
  | named {x n : Str} {i : Nat} {c : Value} {ts : Sui} {s0 : Stmt} {ss : List Stmt} {p1 p2 : Pos} {hs : List ExceptHandler} {l : List (Value × Option Nat × Sui)} (hi : X.N[i]? = some n) (hk : X.env.kindOf n = some .local) (hc : Names X x c) (su : SuiOkN X (s0 :: ss) ts) (r : HdsN X hs l) : HdsN X (.ExceptHandler (some (.Name x p1)) (some n) (s0 :: ss) p2 :: hs) ((c, some i, ts) :: l)
section
variable {X : Cx}
theorem ps_try_allN {bd el : List Stmt} {g0 : ExceptHandler} {gs : List ExceptHandler} {l : List (Value × Option Nat × Sui)} {p : Pos} {tb : WX → TS} {te : TS} {Wo : WX} (hN : X.N.Nodup) (hs : X.stack = X.env :: X.outer) (hf : X.env.frame = some X.env.locals) (tk : L2.Takes X Wo)
    (hb : ∀ (W : WX) (pn : List (Addr × Obj)) (xe : Value → Shared → Prop), L2N.Takes (X.tr pn xe) W → PassesOwn (model X.prog X.w) X.A X.env xe → PSs (X.tr pn xe) bd (tb W)) (hh : HdsN X (g0 :: gs) l) (he : PSs X el te) :
    PS X (.Try bd (g0 :: gs) el [] p) (fun D σ H => tb (wAll X.K Wo D l) { D with nx := te D } σ H) := by
  refine ⟨fun pins s σ H D I h => ?_⟩
  have ok := I.ok
  have fr : X.A.frames = some (X.env :: X.outer) := by rw [ok.frames, hs]
  let M := model X.prog X.w
  let catches : Value → Shared → Prop := fun e s1 => wpAny M X.A (noteFrame e X.env) (fun _ s2 => wpAny M X.A (setFlight e none) (fun _ s3 => wpAny M X.A (handleBy e X.env (g0 :: gs)) (SP X pins D) X.xe s3) X.xe s2) X.xe s1
  refine wpAny_Try_except ?_
  have run := (hb (wAll X.K Wo D l) (X.pn ++ pins) catches (fun u s' got => ?_) PassesOwn.looking).run [] s σ H { D with nx := te D } (I.toTry _) h
  refine wpAny_mono run (fun f s1 out => ?_) (fun e s1 z => z)
  · cases f with
    | next => obtain ⟨σ1, H1, J1, q⟩ := out; exact he.run pins s1 σ1 H1 D (J1.ofTry ok) q
    | brk => obtain ⟨σ1, H1, J1, q⟩ := out; exact ⟨σ1, H1, J1.ofTry ok, q⟩
    | cont => obtain ⟨σ1, H1, J1, q⟩ := out; exact ⟨σ1, H1, J1.ofTry ok, q⟩
    | ret u => obtain ⟨v, σ1, H1, J1, r, q⟩ := out; exact ⟨v, σ1, H1, J1.ofTry ok, r, q⟩
  · obtain ⟨a, B, sI, pins1, σ1, H1, k, d, rfl, J1, nb, up, sky, na, os, ag, wish⟩ := got
    have J : Inv X pins σ1 H1 sI := J1.ofTry ok
    have sk : Sky B (X.env :: X.outer) a (L2N.Zn k d) X.env.locals s'.heap := hs ▸ sky
    show wpAny M X.A (noteFrame (.ref a) X.env) _ _ _
    refine L2N.Sky.land L2N.Zn.steady fr hf sk fun hA flA upA => ?_
    have JA : Inv X pins σ1 H1 { s' with heap := hA } := J.landed nb flA.1 (up.trans upA) os ag
    obtain ⟨oA, vA, eA, zA, dA⟩ := flA.there
    have off : a ∉ frs (X.env :: X.outer) := fun hm => by
      obtain ⟨_, o1, e1, hn⟩ := flA.2.2.1.mem hm
      rw [eA] at e1
      cases e1
      exact hn _ dA
    have off1 : a ≠ X.env.locals := fun z => off (List.mem_filterMap.mpr ⟨X.env, List.mem_cons_self, by rw [hf, z]⟩)
    have off2 : a ∉ X.fs := fun hm => by
      obtain ⟨e, h1, h2⟩ := List.mem_filterMap.mp hm
      exact off (List.mem_filterMap.mpr ⟨e, List.mem_cons_of_mem _ h1, h2⟩)
    have SA := JA.suite eA dA na off1 off2
    have ask : ∀ {x : Str} {c : Value} {np : Pos} {Q E : Value → Shared → Prop}, Names X x c → Q c { s' with heap := hA } → wpAny M (X.A.mark (some (.ref a))) (eval (.Name x np) X.env) Q E { s' with heap := hA } := fun {x c np Q E} hc q => by
      obtain ⟨hg, hd, hm | ⟨hm, hv, hn⟩⟩ := hc
      · exact ld_glob (X := X.suite a ((a, oA) :: (X.pn ++ pins))) SA hg hm q hd
      · exact ld_blt (X := X.suite a ((a, oA) :: (X.pn ++ pins))) SA hg hm hv q hn hd
    have type_ : PySem.W.Looks M hA (typeOf (.ref a)) k := fun A Q E s q1 q2 => wpAny_typeOf_ref (q1 _ _ eA) (by rw [zA.1]; exact q2)
    suffices go : ∀ {hs1 : List ExceptHandler} {l1 : List (Value × Option Nat × Sui)}, HdsN X hs1 l1 → wAll X.K Wo D l1 k d σ1 H1 → wpAny M X.A (handleBy (.ref a) X.env hs1) (SP X pins D) X.xe { s' with heap := hA } from go hh wish
    intro hs1 l1 hk
    induction hk with
    | nil =>
      intro wsh
      refine wpAny_handleBy_nil ?_
      obtain ⟨_, _, _, oe, vs, T, oT, tt, e0, z0, d0, t0, r0⟩ := id flA
      unfold PySem.passOn
      refine wpAny_bind (wpAny_field e0 d0 t0 ?_)
      rw [if_neg (show ¬ ((Value.ref T == Value.none) = true) by simp)]
      have last : wpAny M X.A (setFlight (.ref a) X.env.frame) (fun _ s4 => wpAny M X.A (throw (.ref a) : Sem Flow) (SP X pins D) X.xe s4) X.xe { s' with heap := hA } := by
        rw [hf]
        refine HandSPX.setFlight_upZ (L2H.flyingZ_imp (fun o z => z.zc) flA) fun hB kB upB => wpAny_throw (tk _ _ ?_)
        exact ⟨a, B, sI, pins, σ1, H1, k, d, rfl, J, nb, (up.trans upA).trans upB, .inr (.inr (hs ▸ kB)), na, os, ag, wsh⟩
      first
        | exact wpAny_bind (wpAny_pure (wpAny_bind last))
        | exact wpAny_bind last
    | @anon x c ts s0 ss p1 p2 hs2 l2 hc su r ih =>
      intro wsh
      obtain ⟨b, hb1, yes, no⟩ := wsh
      have LM := PySem.W.exm_one (M := M) JA.kIn type_ hb1
      refine wpAny_handleBy_cons (codeAny_handlers_test (ask hc (LM.here ?_))) (by intro q; cases q)
      cases b with
      | false => exact ih (no rfl)
      | true =>
        refine codeAny_handlers_suite (HandSPX.lands_againZ flA fun hB flB upB => ?_)
        have JB : Inv X pins σ1 H1 { s' with heap := hB } := J.landed nb flB.1 ((up.trans upA).trans upB) os ag
        obtain ⟨oB, vB, eB, zB, dB⟩ := flB.there
        have run2 := (su a oB k d (X.pn ++ pins) zB.zc ⟨_, dB⟩ ⟨(a, oB), ⟨rfl, vB, dB, zB.2.2 vB dB⟩, List.mem_cons_self⟩).run [] _ _ H1 _ (JB.suite eB dB na off1 off2) (yes rfl a na)
        refine wpAny_mono run2 (fun f s6 out => ?_) (fun _ _ z => False.elim z)
        cases f with
        | next => obtain ⟨σ6, H6, S6, q6⟩ := out; exact ⟨_, _, S6.unsuite ok, q6⟩
        | brk => obtain ⟨σ6, H6, S6, q6⟩ := out; exact ⟨_, _, S6.unsuite ok, q6⟩
        | cont => obtain ⟨σ6, H6, S6, q6⟩ := out; exact ⟨_, _, S6.unsuite ok, q6⟩
        | ret u => obtain ⟨v6, σ6, H6, S6, r6, q6⟩ := out; exact ⟨_, _, _, S6.unsuite ok, r6, q6⟩
    | @named x n i c ts s0 ss p1 p2 hs2 l2 hi hkn hc su r ih =>
      intro wsh
      obtain ⟨b, hb1, yes, no⟩ := wsh
      have LM := PySem.W.exm_one (M := M) JA.kIn type_ hb1
      refine wpAny_handleBy_cons (codeAny_handlers_test (ask hc (LM.here ?_))) (by intro q; cases q)
      cases b with
      | false => exact ih (no rfl)
      | true =>
        refine codeAny_handlers_suite_as (HandSPX.lands_againZ flA fun hB flB upB => ?_)
        have JB : Inv X pins σ1 H1 { s' with heap := hB } := J.landed nb flB.1 ((up.trans upA).trans upB) os ag
        obtain ⟨oB, vB, eB, zB, dB⟩ := flB.there
        refine store_ok (X := X.suite a ((a, oB) :: (X.pn ++ pins))) (v := .ref a) (JB.suite eB dB na off1 off2) hN hi (.inl hkn) rfl (fun s5 S5 => ?_) (.inr hkn)
        have run2 := (su a oB k d (X.pn ++ pins) zB.zc ⟨_, dB⟩ ⟨(a, oB), ⟨rfl, vB, dB, zB.2.2 vB dB⟩, List.mem_cons_self⟩).run [] s5 _ H1 _ S5 (yes rfl a na)
        refine wpAny_mono run2 (fun f s6 out => ?_) (fun _ _ z => False.elim z)
        cases f with
        | next => obtain ⟨σ6, H6, S6, q6⟩ := out; exact gone_ok (S6.unsuite ok) hN hi hkn fun s7 J7 => ⟨_, _, J7, q6⟩
        | brk => obtain ⟨σ6, H6, S6, q6⟩ := out; exact gone_ok (S6.unsuite ok) hN hi hkn fun s7 J7 => ⟨_, _, J7, q6⟩
        | cont => obtain ⟨σ6, H6, S6, q6⟩ := out; exact gone_ok (S6.unsuite ok) hN hi hkn fun s7 J7 => ⟨_, _, J7, q6⟩
        | ret u => obtain ⟨v6, σ6, H6, S6, r6, q6⟩ := out; exact gone_ok (S6.unsuite ok) hN hi hkn fun s7 J7 => ⟨_, _, _, J7, r6, q6⟩
end
end L2

/-! ### repr of a dict from texts to tuples of texts -/
namespace L2
open PySem PySem.Spec PyProof.Rows
open TL (tl)
def ktD (L : List (Str × List Str)) : PyData := .dict (L.map fun q => (PyData.str q.1, PyData.tuple (q.2.map PyData.str)))
def KtAt (H : Hp) (a : Addr) (L : List (Str × List Str)) : Prop := ∃ kv, H a = some (.dK kv) ∧ Paired (fun (p : Key × V) (q : Str × List Str) => p.1 = .inr q.1 ∧ ∃ t, p.2 = .ref t ∧ H t = some (.tup (q.2.map V.str))) kv L
def TxS (s : Str) : Prop := OkT s ∧ s.length ≤ 80
def KtOk (L : List (Str × List Str)) : Prop := L.length ≤ 40 ∧ ∀ q ∈ L, TxS q.1 ∧ q.2.length ≤ 40 ∧ ∀ z ∈ q.2, TxS z
def rReprKT : List V → Hp → VK → Prop := fun xs H Q => ∃ a L, xs = [.ref a] ∧ KtAt H a L ∧ KtOk L ∧ Q (.str (ktD L).shown) H
section
variable {X : Cx} {pins : List (Addr × Obj)} {σ : St} {H : Hp} {s : Shared}
theorem reads_strs {h : Heap} : ∀ {l : List Str} {us : List Value}, Vals (l.map V.str) us → ReadsAll h us (l.map PyData.str) []
  | [], _, .nil => ReadsAll.nil
  | a :: l, _, .cons r t => by
    obtain ⟨tk, rfl⟩ := (show ∃ t, _ = Value.str a t from r)
    exact ReadsAll.cons (as := []) (bs := []) (.str a tk) (reads_strs t)
theorem kt_reads (I : Inv X pins σ H s) : ∀ {L : List (Str × List Str)} {kv : List (Key × V)} {vs : List (Key × Value)} {es : List DictEntry}, Paired (fun (p : Key × V) (q : Str × List Str) => p.1 = .inr q.1 ∧ ∃ t, p.2 = .ref t ∧ H t = some (.tup (q.2.map V.str))) kv L → KV kv vs → Pairs (mixKind X.prog X.w) es vs →
    ReadsAll s.heap (es.map (·.key)) (L.map fun q => PyData.str q.1) [] ∧ ReadsAll s.heap (es.map (·.val)) (L.map fun q => PyData.tuple (q.2.map PyData.str)) []
  | [], _, _, _, .nil, hkv, hp => by
    cases hkv
    cases hp
    exact ⟨.nil, .nil⟩
  | q :: L, _, _, _, .cons h t, hkv, hp => by
    unfold KV at hkv
    cases hkv with
    | cons h2 t2 =>
      cases hp with
      | cons k1 k2 t3 =>
        obtain ⟨e1, ta, e2, hta⟩ := h
        obtain ⟨f1, f2⟩ := h2
        obtain ⟨r1, r2⟩ := kt_reads I t t2 t3
        rw [← f1, e1] at k1
        obtain ⟨tk, ek⟩ := (show ∃ t, _ = Value.str q.1 t from relV_key (k := .inr q.1) (show keyIs _ _ = true from k1))
        rw [e2] at f2
        have f2' := (show _ = Value.ref ta from f2)
        obtain ⟨its, rv, hp2, hlen⟩ := I.tuple (SqT.of hta)
        obtain ⟨o, ho, hc, n, hd⟩ := hp2
        refine ⟨?_, ?_⟩
        · rw [List.map_cons, List.map_cons, ek]
          exact ReadsAll.cons (as := []) (bs := []) (.str _ _) r1
        · rw [List.map_cons, List.map_cons, k2, f2']
          exact ReadsAll.cons (as := []) (bs := []) (Reads.tuple ho hc hd (by simpa using reads_strs rv)) r2
theorem kv_ok {B D : Nat} : ∀ {L : List (Str × List Str)}, (∀ q ∈ L, RpOk 0 B (.str q.1) ∧ RpOk D B (.tuple (q.2.map PyData.str))) → PyData.showableKv (L.map fun q => (PyData.str q.1, PyData.tuple (q.2.map PyData.str))) = true ∧ PyData.leavesShortKv 13 (L.map fun q => (PyData.str q.1, PyData.tuple (q.2.map PyData.str))) = true ∧ PyData.depthKv (L.map fun q => (PyData.str q.1, PyData.tuple (q.2.map PyData.str))) ≤ D ∧ PyData.bulkKv (L.map fun q => (PyData.str q.1, PyData.tuple (q.2.map PyData.str))) ≤ L.length * (2 * B + 2)
  | [], _ => by simp [PyData.showableKv, PyData.leavesShortKv, PyData.depthKv, PyData.bulkKv]
  | q :: L, h => by
    obtain ⟨⟨a1, a2, a3, a4, a5⟩, b1, b2, b3, b4, b5⟩ := h q List.mem_cons_self
    obtain ⟨h1, h2, h3, h4⟩ := kv_ok (L := L) fun z hz => h z (List.mem_cons_of_mem _ hz)
    rw [List.map_cons]
    refine ⟨by simp only [PyData.showableKv, a1, b1, h1, Bool.and_self], by simp only [PyData.leavesShortKv, a3, b3, h2, Bool.and_self], by simp only [PyData.depthKv]; omega, ?_⟩
    simp only [PyData.bulkKv]
    rw [List.length_cons, Nat.succ_mul]
    omega
theorem strs_ok : ∀ {l : List Str}, (∀ z ∈ l, TxS z) → RpAll 0 (l.length * 81) (l.map PyData.str)
  | [], _ => rp_nil
  | a :: l, h => by
    have h1 := (rp_str (h a List.mem_cons_self).1).mono (Nat.le_refl 0) (h a List.mem_cons_self).2
    obtain ⟨k1, k2, k3, k4, k5⟩ := rp_cons h1 (strs_ok (l := l) fun z hz => h z (List.mem_cons_of_mem _ hz))
    refine ⟨k1, k2, k3, Nat.le_trans k4 (by decide), ?_⟩
    rw [List.length_cons, Nat.succ_mul]
    have k5' : PyData.bulkAll ((a :: l).map PyData.str) ≤ 80 + 1 + l.length * 81 := k5
    omega
theorem call_reprKT (hgd : X.A.guards = some []) (hu : X.A.units + 62 < cLine) : CallR X (.builtin "repr") rReprKT := by
  intro pins s σ H xs us Q I r h
  obtain ⟨a, L, rfl, ⟨kv, ha, hp⟩, ⟨hl, hL⟩, q⟩ := h
  cases r with
  | cons ra rr =>
    cases rr
    rename_i u
    cases (show u = Value.ref a from ra)
    obtain ⟨_, hsys, vs, hkv, o, es, ep, ho, hx, hda, _, hpr, _⟩ := I.hok a _ ha
    obtain ⟨r1, r2⟩ := kt_reads I hp hkv hpr
    have rd : Reads s.heap (.ref a) (ktD L) [a] := Reads.dict (as := []) (bs := []) ho hx.1 hda (by rw [List.map_map]; exact r1) (by rw [List.map_map]; exact r2)
    have ok := kv_ok (B := 3240) (D := 1) (L := L) fun q hq => ⟨(rp_str (hL q hq).1.1).mono (Nat.le_refl _) (by have := (hL q hq).1.2; omega), (rp_tup (strs_ok (hL q hq).2.2)).mono (by omega) (by have := (hL q hq).2.1; have := Nat.mul_le_mul_right 81 this; omega)⟩
    obtain ⟨k1, k2, k3, k4⟩ := ok
    have hb : (ktD L).bulk ≤ 2 ^ 20 := by
      unfold ktD
      simp only [PyData.bulk]
      have := Nat.mul_le_mul_right (2 * 3240 + 2) hl
      omega
    have hls : (ktD L).leavesShort 13 = true := by unfold ktD; simp only [PyData.leavesShort]; exact k2
    refine repr_of_reads' rd (by unfold ktD; simp only [PyData.showable]; exact k1) (fun _ z => ?_) hgd (by unfold ktD; simp only [PyData.depth]; omega) (fun _ _ z => z) (fun h' u tk hk => ?_) (PyData.shown_fits_bulk (B := 13) (by decide) (by decide) hls hb)
    · have : sysModules = a := by simpa using z
      rw [this] at hsys
      simp at hsys
    · exact ⟨.str _, H, I.kept (t' := tk) hk, ⟨_, rfl⟩, q⟩
end
end L2

/-! ### a comprehension over any walk of given things, some left out, each thing made with a property -/
namespace L2
open PySem PySem.Spec PyProof.Rows
open Evl hiding RetV RetL
section
variable {K : PySem.W.Frag} {σ : St} {H : Hp} {Q : VK} {g : L2.TG} {tt : TT} {te : TE} {vs : List Nat}
theorem lcW {α : Type} {J : It} {xs : List V} {G0 : Hp → Prop} {as : List α} (w : Walk J xs.length G0 (YAt xs)) (hG : ∀ G, Ex H G → G0 G) (hl : as.length = xs.length) (hn : xs.length ≤ 1000) (F : α → Bool) (P : Addr → α → V → Hp → Prop)
    (hst : ∀ D r y G G2, ExB D G G2 → NL G G2 → P D r y G → P D r y G2)
    (ht : ∀ (D : Addr) (i : Nat) (r : α) (x : V), H D = none → as[i]? = some r → xs[i]? = some x → ∀ H2, Ex H H2 → (∃ o, H2 D = some o) → ∀ (R : V → Hp → Prop) (N : Hp → Prop), (F r = true → ∀ y H3, Ex H2 H3 → P D r y H3 → R y H3) → (F r = false → ∀ H3, Ex H2 H3 → N H3) →
      g x (wipe σ vs) H2 fun σ2 H3 => wipe σ2 vs = wipe σ vs ∧ tt σ2 H3 fun c H4 => if c = true then te σ2 H4 fun y H5 => R y H5 else N H4)
    (k : ∀ ys p H2, Paired (fun r y => P p r y H2) (as.filter F) ys → H p = none → Ex H H2 → H2 p = some (.lst ys) → Q (.ref p) H2) : LcI J g tt te vs σ H Q := by
  refine fun D hD => ?_
  have ex : ∀ {G : Hp} {o : HO}, Ex H G → Ex H (upd G D o) := fun e b u hb => by rw [upd_ne (ne_of_none hb hD)]; exact e b u hb
  refine lc_it w (fun i H' => i ≤ xs.length ∧ Ex H H' ∧ ∃ ys, Paired (fun r y => P D r y H') ((as.take i).filter F) ys ∧ H' D = some (.lst ys))
    ⟨Nat.zero_le _, ex (Ex.refl _), [], .nil, upd_same⟩ (fun i H' _ p => hG _ p.2.1) (fun i x H' H'' hi p y => ?_) (fun H' p => ?_)
  · obtain ⟨rfl, hx⟩ := y
    obtain ⟨_, e1, ys, hy, hD'⟩ := p
    have hil : i < as.length := by omega
    have hr : as[i]? = some as[i] := List.getElem?_eq_getElem hil
    have hyl : ys.length ≤ i := by
      rw [← paired_len hy]
      exact Nat.le_trans (List.length_filter_le _ _) (by rw [List.length_take]; omega)
    have htk : as.take (i + 1) = as.take i ++ [as[i]] := by rw [List.take_add_one, hr]; rfl
    refine ht D i as[i] x hD hr hx H'' e1 ⟨_, hD'⟩ (fun y H4 => ∃ acc, H4 D = some (.lst acc) ∧ acc.length < sizeLine ∧ (i + 1 ≤ xs.length ∧ Ex H (upd H4 D (.lst (acc ++ [y]))) ∧ ∃ zs, Paired (fun r z => P D r z (upd H4 D (.lst (acc ++ [y])))) ((as.take (i + 1)).filter F) zs ∧ upd H4 D (.lst (acc ++ [y])) D = some (.lst zs))) (fun H4 => i + 1 ≤ xs.length ∧ Ex H H4 ∧ ∃ zs, Paired (fun r z => P D r z H4) ((as.take (i + 1)).filter F) zs ∧ H4 D = some (.lst zs)) (fun hF y H3 e3 py => ?_) (fun hF H3 e3 => ?_)
    · have hD3 := e3 _ _ hD'
      have eD : ExB D H3 (upd H3 D (.lst (ys ++ [y]))) := ExB.upd
      have eN : NL H3 (upd H3 D (.lst (ys ++ [y]))) := NL.upd hD3
      refine ⟨ys, hD3, Evl.sz_lt (by omega), hi, ex (e1.trans e3), ys ++ [y], ?_, upd_same⟩
      rw [htk, List.filter_append, List.filter_cons_of_pos hF, List.filter_nil]
      exact paired_snoc (F := fun r z => P D r z (upd H3 D (HO.lst (ys ++ [y])))) (hst _ _ _ _ _ eD eN py) (paired_up (fun a b h => hst _ _ _ _ _ eD eN (hst _ _ _ _ _ (ExB.of e3) (NL.of e3) h)) hy)
    · refine ⟨hi, e1.trans e3, ys, ?_, e3 _ _ hD'⟩
      rw [htk, List.filter_append, List.filter_cons_of_neg (by rw [hF]; decide), List.filter_nil, List.append_nil]
      exact paired_up (fun a b h => hst _ _ _ _ _ (ExB.of e3) (NL.of e3) h) hy
  · obtain ⟨_, e1, ys, hy, hD'⟩ := p
    rw [← hl, List.take_length] at hy
    exact k ys D H' hy hD e1 hD'
end
end L2

/-! ### a call of a local name that holds a def; what is raised is wished for at the caller's slots -/
namespace L2
open PySem PySem.Spec PyProof.Rows
section
variable {X : Cx} {CX : CXT} {k i : Nat} {f : Addr} {fd : FuncData} {ps : List Str} {sp : Sp} {x : Str} {p pos : Pos} {e : Expr} {es : List Expr} {t : TA} {E : St → XK}
def tCallLS (i : Nat) (f : Addr) (sp : Sp) (E : St → XK) (t : TA) : TE := fun σ H Q => σ[i]? = some (some (.ref f)) ∧ t σ H fun vs H1 => sp vs H1 Q (E σ)
theorem pe_callLS (F : FnOk X.prog X.w X.K X.mg X.base CX k f fd ps sp) (hr : Room k X.A) (hN : X.N[i]? = some x) (hv : Vis X.env.scope x) (hk : PySem.W.keepIn X.K (.ref f) = true) (hb : Binds X.K fd ps []) (hx : ∀ σ, PassesAt CX X σ (E σ)) (ha : PA X (e :: es) t)
    (hdb : (x == ("__debug__" : Str)) = false := by decide) (hcd : (x == ("__classdict__" : Str)) = false := by decide)
    (he : starEach (e :: es) X.env = (false, eval e X.env) :: starEach es X.env := by rfl) (hpl : (backTo pos (starEach es X.env)).any (·.1) = false := by rfl) : PE X (.Call (.Name x p) (e :: es) [] pos) (tCallLS i f sp E t) := by
  refine ⟨fun pins s σ H Q I h => ?_⟩
  obtain ⟨hs, ht⟩ := h
  refine wpAny_Call_Name_kw (thn ((pe_var (pos := p) hN hv hdb hcd).run pins s σ H (fun v H1 => v = .ref f ∧ H1 = H) I ⟨.ref f, hs, rfl, rfl⟩) fun u s1 ⟨v, H1, I1, r1, q1⟩ => ?_)
  obtain ⟨rfl, rfl⟩ := q1
  cases r1
  refine PySem.W.callWith_K (h₀ := X.base) I.ok.mod.kin hk (thn (ha.run pos pins s1 σ _ _ I1 ht) fun us s2 ⟨vs, H2, I2, r, q⟩ => ⟨I2.kIn, ?_⟩) he hpl
  exact run_fnS F hr hb (hx σ) I2 r q
theorem c_callLS {σ : St} {H : Hp} {Q : VK} (hs : σ[i]? = some (some (.ref f))) (h : t σ H fun vs H1 => sp vs H1 Q (E σ)) : tCallLS i f sp E t σ H Q := ⟨hs, h⟩
end
end L2

open L2 in
local macro_rules | `(tactic| walk_at "s") => `(tactic| with_reducible (first
  | refine c_var (by with_unfolding_all rfl) ?_ | refine c_c ?_ | refine c_op ?_ | refine c_test ?_ | refine c_cons ?_ | refine c_nil ?_ | refine c_call ?_ | refine c_cb ?_ | refine c_seq ?_ | refine c_asg ?_ | refine c_gName ?_ | refine c_ret ?_ | refine c_ifS ?_
  | (refine d_nx ?_; refine c_nx ?_) | (refine d_rt ?_; refine c_rt ?_) | (refine d_bk ?_; refine c_bk ?_) | (refine d_ct ?_; refine c_ct ?_) | refine c_next ?_ | refine c_drop ?_ | refine c_un ?_ | refine c_b ?_ | refine c_and ?_ | refine c_or ?_ | refine c_not ?_ | refine c_andV ?_ | refine c_orV ?_ | refine c_notV ?_ | refine c_if ?_
  | refine c_tup ?_ | refine c_lst ?_ | refine c_sl ?_ | refine c_noPart ?_ | refine c_part ?_ | refine c_bm ?_ | refine c_bm0 ?_ | refine c_m0 ?_ | refine c_m1 ?_ | refine c_chain ?_ | refine c_retN ?_ | refine c_gCons ?_ | refine c_gNil ?_ | refine c_gSub ?_
  | refine c_I0 ?_ | refine c_U ?_ | refine c_eq (by with_unfolding_all rfl) ?_ | refine c_ne (by with_unfolding_all rfl) ?_ | refine c_yes ?_ | refine c_forS ?_ | refine c_lcSi ?_ | refine c_forR1 ?_ | refine c_forR2 ?_ | refine c_forL ?_ | refine c_forT ?_ | refine c_lcR1 ?_ | refine c_lcLi ?_ | refine c_lcTi ?_ | refine c_forE ?_ | refine c_lcZi ?_ | refine c_xfv ?_ | refine c_mkv ?_ | refine c_mp ?_ | refine c_fld ?_ | refine c_sfld ?_ | refine c_make ?_ | refine c_ckw ?_ | refine c_sdput ?_ | refine c_dget ?_ | refine c_callS ?_ | refine c_xf ?_ | refine c_mko ?_ | refine c_mps ?_ | refine c_lcK ?_ | refine c_forK ?_ | refine c_dpop ?_ | refine c_dget2 ?_ | refine c_dget1 ?_ | refine c_forIt ?_ | refine c_listIt ?_ | refine c_break ?_ | refine c_cont ?_ | refine c_orT ?_ | refine c_andT ?_ | refine c_notT ?_ | refine iteT ?_ | refine iteF ?_ | refine if_nt ?_ | refine if_nf ?_
  | refine ⟨_, rfl, ?_⟩ | refine ⟨_, _, rfl, rfl, ?_⟩ | refine And.intro rfl ?_))
local macro_rules | `(tactic| walk_at "ss") => `(tactic| repeat (walk_at "s"))

namespace Toy
open PySem L2
open Evl hiding RetV RetL
def top (i : Nat) : Stmt := PySem.Challenge.pw_beatrows_k48_alike_but_for_one_thing.main.body.getD i (.Pass ⟨0, 0, 0, 0⟩)
abbrev s_NoName_init : Stmt := (cBody (top 4)).getD 0 (.Pass ⟨0, 0, 0, 0⟩)
abbrev s_NoArgs_init : Stmt := (cBody (top 13)).getD 0 (.Pass ⟨0, 0, 0, 0⟩)
abbrev s_NoCall_init : Stmt := (cBody (top 14)).getD 0 (.Pass ⟨0, 0, 0, 0⟩)
abbrev s_is_whole : Stmt := top 21
abbrev s_is_within : Stmt := top 22
abbrev s_is_name : Stmt := top 23
abbrev s_is_pointed : Stmt := top 24
abbrev s_is_value : Stmt := top 25
abbrev s_ops_told : Stmt := top 29
abbrev s_Term_parts : Stmt := (cBody (top 32)).getD 0 (.Pass ⟨0, 0, 0, 0⟩)
abbrev s_Term_names : Stmt := (cBody (top 32)).getD 1 (.Pass ⟨0, 0, 0, 0⟩)
abbrev s_Term_levels : Stmt := (cBody (top 32)).getD 2 (.Pass ⟨0, 0, 0, 0⟩)
abbrev s_need_term : Stmt := top 33
abbrev s_Name_init : Stmt := (cBody (top 34)).getD 0 (.Pass ⟨0, 0, 0, 0⟩)
abbrev s_Name_names : Stmt := (cBody (top 34)).getD 1 (.Pass ⟨0, 0, 0, 0⟩)
abbrev s_Name_told : Stmt := (cBody (top 34)).getD 4 (.Pass ⟨0, 0, 0, 0⟩)
abbrev s_Value_init : Stmt := (cBody (top 35)).getD 0 (.Pass ⟨0, 0, 0, 0⟩)
abbrev s_Value_told : Stmt := (cBody (top 35)).getD 2 (.Pass ⟨0, 0, 0, 0⟩)
abbrev s_Two_init : Stmt := (cBody (top 36)).getD 0 (.Pass ⟨0, 0, 0, 0⟩)
abbrev s_Two_parts : Stmt := (cBody (top 36)).getD 1 (.Pass ⟨0, 0, 0, 0⟩)
abbrev s_Two_told : Stmt := (cBody (top 36)).getD 4 (.Pass ⟨0, 0, 0, 0⟩)
abbrev s_Not_init : Stmt := (cBody (top 37)).getD 0 (.Pass ⟨0, 0, 0, 0⟩)
abbrev s_Not_parts : Stmt := (cBody (top 37)).getD 1 (.Pass ⟨0, 0, 0, 0⟩)
abbrev s_Not_told : Stmt := (cBody (top 37)).getD 4 (.Pass ⟨0, 0, 0, 0⟩)
abbrev s_Pick_init : Stmt := (cBody (top 38)).getD 0 (.Pass ⟨0, 0, 0, 0⟩)
abbrev s_Pick_parts : Stmt := (cBody (top 38)).getD 1 (.Pass ⟨0, 0, 0, 0⟩)
abbrev s_Pick_told : Stmt := (cBody (top 38)).getD 4 (.Pass ⟨0, 0, 0, 0⟩)
abbrev s_simple_of : Stmt := top 39
abbrev s_made_of_told : Stmt := top 40
abbrev s_term_of : Stmt := top 41
abbrev s_each_once : Stmt := top 43
abbrev s_Equation_init : Stmt := (cBody (top 44)).getD 0 (.Pass ⟨0, 0, 0, 0⟩)
abbrev s_Equation_told : Stmt := (cBody (top 44)).getD 1 (.Pass ⟨0, 0, 0, 0⟩)
abbrev s_Equation_tells : Stmt := (cBody (top 44)).getD 2 (.Pass ⟨0, 0, 0, 0⟩)
abbrev s_Equation_names : Stmt := (cBody (top 44)).getD 3 (.Pass ⟨0, 0, 0, 0⟩)
abbrev s_Equation_term : Stmt := (cBody (top 44)).getD 4 (.Pass ⟨0, 0, 0, 0⟩)
abbrev s_Equation_is_call : Stmt := (cBody (top 44)).getD 5 (.Pass ⟨0, 0, 0, 0⟩)
abbrev s_Plain_init : Stmt := (cBody (top 45)).getD 0 (.Pass ⟨0, 0, 0, 0⟩)
abbrev s_Plain_names : Stmt := (cBody (top 45)).getD 1 (.Pass ⟨0, 0, 0, 0⟩)
abbrev s_Plain_term : Stmt := (cBody (top 45)).getD 2 (.Pass ⟨0, 0, 0, 0⟩)
abbrev s_When_names : Stmt := (cBody (top 47)).getD 0 (.Pass ⟨0, 0, 0, 0⟩)
abbrev s_Same_tells : Stmt := (cBody (top 50)).getD 0 (.Pass ⟨0, 0, 0, 0⟩)
abbrev s_Same_names : Stmt := (cBody (top 50)).getD 1 (.Pass ⟨0, 0, 0, 0⟩)
abbrev s_Call_tells : Stmt := (cBody (top 51)).getD 0 (.Pass ⟨0, 0, 0, 0⟩)
abbrev s_Call_names : Stmt := (cBody (top 51)).getD 1 (.Pass ⟨0, 0, 0, 0⟩)
abbrev s_Call_is_call : Stmt := (cBody (top 51)).getD 2 (.Pass ⟨0, 0, 0, 0⟩)
abbrev s_are_pointed : Stmt := top 52
abbrev s_is_valued : Stmt := top 53
abbrev s_plain_of : Stmt := top 54
abbrev s_valued_of : Stmt := top 55
abbrev s_call_of : Stmt := top 56
abbrev s_made_of : Stmt := top 57
abbrev s_equation_of : Stmt := top 58
abbrev s_need_names : Stmt := top 61
abbrev s_equations_of : Stmt := top 62
abbrev s_Node_init : Stmt := (cBody (top 63)).getD 0 (.Pass ⟨0, 0, 0, 0⟩)
abbrev s_Node_take_tellers : Stmt := (cBody (top 63)).getD 1 (.Pass ⟨0, 0, 0, 0⟩)
abbrev s_Node_need_told : Stmt := (cBody (top 63)).getD 2 (.Pass ⟨0, 0, 0, 0⟩)
abbrev s_Node_inputs : Stmt := (cBody (top 63)).getD 3 (.Pass ⟨0, 0, 0, 0⟩)
abbrev s_Node_outs : Stmt := (cBody (top 63)).getD 4 (.Pass ⟨0, 0, 0, 0⟩)
abbrev s_Node_rows : Stmt := (cBody (top 63)).getD 5 (.Pass ⟨0, 0, 0, 0⟩)
abbrev s_Node_names : Stmt := (cBody (top 63)).getD 6 (.Pass ⟨0, 0, 0, 0⟩)
abbrev s_Node_told : Stmt := (cBody (top 63)).getD 9 (.Pass ⟨0, 0, 0, 0⟩)
abbrev s_node_of : Stmt := top 64
abbrev s_same_node : Stmt := top 65
abbrev s_need_calls : Stmt := top 67
abbrev s_need_nodes : Stmt := top 68
abbrev s_Program_init : Stmt := (cBody (top 69)).getD 0 (.Pass ⟨0, 0, 0, 0⟩)
abbrev s_Program_told : Stmt := (cBody (top 69)).getD 5 (.Pass ⟨0, 0, 0, 0⟩)
abbrev s_form_of : Stmt := top 71
abbrev s_same_but_order : Stmt := top 72
abbrev s_cell_at_l : Stmt := top 74
abbrev s_box_l : Stmt := top 75
abbrev s_take_l : Stmt := top 76
abbrev s_names_l : Stmt := top 77
abbrev s_rows_l : Stmt := top 78
abbrev s_inner_l : Stmt := top 79
abbrev s_node_l : Stmt := top 80
abbrev s_whole_l : Stmt := top 81
abbrev s_value_put_l : Stmt := top 82
abbrev s_other_l : Stmt := top 83
abbrev s_sames_put_l : Stmt := top 84
abbrev s_right_l : Stmt := top 85
abbrev s_law : Stmt := top 86
/-- where the defs stand -/
structure Adr where
  f_NoName_init : Addr
  fd_NoName_init : FuncData
  f_NoArgs_init : Addr
  fd_NoArgs_init : FuncData
  f_NoCall_init : Addr
  fd_NoCall_init : FuncData
  f_is_whole : Addr
  fd_is_whole : FuncData
  f_is_within : Addr
  fd_is_within : FuncData
  f_is_name : Addr
  fd_is_name : FuncData
  f_is_pointed : Addr
  fd_is_pointed : FuncData
  f_is_value : Addr
  fd_is_value : FuncData
  f_ops_told : Addr
  fd_ops_told : FuncData
  f_Term_parts : Addr
  fd_Term_parts : FuncData
  f_Term_names : Addr
  fd_Term_names : FuncData
  f_Term_levels : Addr
  fd_Term_levels : FuncData
  f_need_term : Addr
  fd_need_term : FuncData
  f_Name_init : Addr
  fd_Name_init : FuncData
  f_Name_names : Addr
  fd_Name_names : FuncData
  f_Name_told : Addr
  fd_Name_told : FuncData
  f_Value_init : Addr
  fd_Value_init : FuncData
  f_Value_told : Addr
  fd_Value_told : FuncData
  f_Two_init : Addr
  fd_Two_init : FuncData
  f_Two_parts : Addr
  fd_Two_parts : FuncData
  f_Two_told : Addr
  fd_Two_told : FuncData
  f_Not_init : Addr
  fd_Not_init : FuncData
  f_Not_parts : Addr
  fd_Not_parts : FuncData
  f_Not_told : Addr
  fd_Not_told : FuncData
  f_Pick_init : Addr
  fd_Pick_init : FuncData
  f_Pick_parts : Addr
  fd_Pick_parts : FuncData
  f_Pick_told : Addr
  fd_Pick_told : FuncData
  f_simple_of : Addr
  fd_simple_of : FuncData
  f_made_of_told : Addr
  fd_made_of_told : FuncData
  f_term_of : Addr
  fd_term_of : FuncData
  f_each_once : Addr
  fd_each_once : FuncData
  f_Equation_init : Addr
  fd_Equation_init : FuncData
  f_Equation_told : Addr
  fd_Equation_told : FuncData
  f_Equation_tells : Addr
  fd_Equation_tells : FuncData
  f_Equation_names : Addr
  fd_Equation_names : FuncData
  f_Equation_term : Addr
  fd_Equation_term : FuncData
  f_Equation_is_call : Addr
  fd_Equation_is_call : FuncData
  f_Plain_init : Addr
  fd_Plain_init : FuncData
  f_Plain_names : Addr
  fd_Plain_names : FuncData
  f_Plain_term : Addr
  fd_Plain_term : FuncData
  f_When_names : Addr
  fd_When_names : FuncData
  f_Same_tells : Addr
  fd_Same_tells : FuncData
  f_Same_names : Addr
  fd_Same_names : FuncData
  f_Call_tells : Addr
  fd_Call_tells : FuncData
  f_Call_names : Addr
  fd_Call_names : FuncData
  f_Call_is_call : Addr
  fd_Call_is_call : FuncData
  f_are_pointed : Addr
  fd_are_pointed : FuncData
  f_is_valued : Addr
  fd_is_valued : FuncData
  f_plain_of : Addr
  fd_plain_of : FuncData
  f_valued_of : Addr
  fd_valued_of : FuncData
  f_call_of : Addr
  fd_call_of : FuncData
  f_made_of : Addr
  fd_made_of : FuncData
  f_equation_of : Addr
  fd_equation_of : FuncData
  f_need_names : Addr
  fd_need_names : FuncData
  f_equations_of : Addr
  fd_equations_of : FuncData
  f_Node_init : Addr
  fd_Node_init : FuncData
  f_Node_take_tellers : Addr
  fd_Node_take_tellers : FuncData
  f_Node_need_told : Addr
  fd_Node_need_told : FuncData
  f_Node_inputs : Addr
  fd_Node_inputs : FuncData
  f_Node_outs : Addr
  fd_Node_outs : FuncData
  f_Node_rows : Addr
  fd_Node_rows : FuncData
  f_Node_names : Addr
  fd_Node_names : FuncData
  f_Node_told : Addr
  fd_Node_told : FuncData
  f_node_of : Addr
  fd_node_of : FuncData
  f_same_node : Addr
  fd_same_node : FuncData
  f_need_calls : Addr
  fd_need_calls : FuncData
  f_need_nodes : Addr
  fd_need_nodes : FuncData
  f_Program_init : Addr
  fd_Program_init : FuncData
  f_Program_told : Addr
  fd_Program_told : FuncData
  f_form_of : Addr
  fd_form_of : FuncData
  f_same_but_order : Addr
  fd_same_but_order : FuncData
  f_cell_at_l : Addr
  fd_cell_at_l : FuncData
  f_box_l : Addr
  fd_box_l : FuncData
  f_take_l : Addr
  fd_take_l : FuncData
  f_names_l : Addr
  fd_names_l : FuncData
  f_rows_l : Addr
  fd_rows_l : FuncData
  f_inner_l : Addr
  fd_inner_l : FuncData
  f_node_l : Addr
  fd_node_l : FuncData
  f_whole_l : Addr
  fd_whole_l : FuncData
  f_value_put_l : Addr
  fd_value_put_l : FuncData
  f_other_l : Addr
  fd_other_l : FuncData
  f_sames_put_l : Addr
  fd_sames_put_l : FuncData
  f_right_l : Addr
  fd_right_l : FuncData
  f_law : Addr
  fd_law : FuncData
  a_OPS : Addr
  a_OWN : Addr
  c_BeatError : Addr
  c_NoName : Addr
  c_NoArgs : Addr
  c_NoCall : Addr
  c_Term : Addr
  c_Name : Addr
  c_Value : Addr
  c_Two : Addr
  c_Not : Addr
  c_Pick : Addr
  c_Equation : Addr
  c_Plain : Addr
  c_Before : Addr
  c_When : Addr
  c_Hold : Addr
  c_Like : Addr
  c_Same : Addr
  c_Call : Addr
  c_Node : Addr
  c_Program : Addr
structure Txt (K : PySem.W.Frag) (mg : Str → Option Value) (Z : Adr) : Prop where
  F_NoName_init : Fun K "__init__" "NoName.__init__" s_NoName_init Z.f_NoName_init Z.fd_NoName_init
  b_NoName_init : Binds K Z.fd_NoName_init ["self", "found"] []
  F_NoArgs_init : Fun K "__init__" "NoArgs.__init__" s_NoArgs_init Z.f_NoArgs_init Z.fd_NoArgs_init
  b_NoArgs_init : Binds K Z.fd_NoArgs_init ["self", "name", "many"] []
  F_NoCall_init : Fun K "__init__" "NoCall.__init__" s_NoCall_init Z.f_NoCall_init Z.fd_NoCall_init
  b_NoCall_init : Binds K Z.fd_NoCall_init ["self", "name"] []
  F_is_whole : Fun K "is_whole" "is_whole" s_is_whole Z.f_is_whole Z.fd_is_whole
  b_is_whole : Binds K Z.fd_is_whole ["thing"] []
  g_is_whole : mg "is_whole" = some (.ref Z.f_is_whole)
  F_is_within : Fun K "is_within" "is_within" s_is_within Z.f_is_within Z.fd_is_within
  b_is_within : Binds K Z.fd_is_within ["thing", "low", "high"] []
  g_is_within : mg "is_within" = some (.ref Z.f_is_within)
  F_is_name : Fun K "is_name" "is_name" s_is_name Z.f_is_name Z.fd_is_name
  b_is_name : Binds K Z.fd_is_name ["thing"] []
  g_is_name : mg "is_name" = some (.ref Z.f_is_name)
  F_is_pointed : Fun K "is_pointed" "is_pointed" s_is_pointed Z.f_is_pointed Z.fd_is_pointed
  b_is_pointed : Binds K Z.fd_is_pointed ["thing"] []
  g_is_pointed : mg "is_pointed" = some (.ref Z.f_is_pointed)
  F_is_value : Fun K "is_value" "is_value" s_is_value Z.f_is_value Z.fd_is_value
  b_is_value : Binds K Z.fd_is_value ["thing"] []
  g_is_value : mg "is_value" = some (.ref Z.f_is_value)
  F_ops_told : Fun K "ops_told" "ops_told" s_ops_told Z.f_ops_told Z.fd_ops_told
  b_ops_told : Binds K Z.fd_ops_told [] []
  g_ops_told : mg "ops_told" = some (.ref Z.f_ops_told)
  F_Term_parts : Fun K "parts" "Term.parts" s_Term_parts Z.f_Term_parts Z.fd_Term_parts
  b_Term_parts : Binds K Z.fd_Term_parts ["self"] []
  y_Term_parts : PySem.W.isFn K (.ref Z.f_Term_parts) = true
  F_Term_names : Fun K "names" "Term.names" s_Term_names Z.f_Term_names Z.fd_Term_names
  b_Term_names : Binds K Z.fd_Term_names ["self"] []
  y_Term_names : PySem.W.isFn K (.ref Z.f_Term_names) = true
  F_Term_levels : Fun K "levels" "Term.levels" s_Term_levels Z.f_Term_levels Z.fd_Term_levels
  b_Term_levels : Binds K Z.fd_Term_levels ["self"] []
  y_Term_levels : PySem.W.isFn K (.ref Z.f_Term_levels) = true
  F_need_term : Fun K "need_term" "need_term" s_need_term Z.f_need_term Z.fd_need_term
  b_need_term : Binds K Z.fd_need_term ["thing"] []
  g_need_term : mg "need_term" = some (.ref Z.f_need_term)
  F_Name_init : Fun K "__init__" "Name.__init__" s_Name_init Z.f_Name_init Z.fd_Name_init
  b_Name_init : Binds K Z.fd_Name_init ["self", "name"] []
  y_Name_init : PySem.W.isFn K (.ref Z.f_Name_init) = true
  F_Name_names : Fun K "names" "Name.names" s_Name_names Z.f_Name_names Z.fd_Name_names
  b_Name_names : Binds K Z.fd_Name_names ["self"] []
  y_Name_names : PySem.W.isFn K (.ref Z.f_Name_names) = true
  F_Name_told : Fun K "told" "Name.told" s_Name_told Z.f_Name_told Z.fd_Name_told
  b_Name_told : Binds K Z.fd_Name_told ["self"] []
  y_Name_told : PySem.W.isFn K (.ref Z.f_Name_told) = true
  F_Value_init : Fun K "__init__" "Value.__init__" s_Value_init Z.f_Value_init Z.fd_Value_init
  b_Value_init : Binds K Z.fd_Value_init ["self", "value"] []
  y_Value_init : PySem.W.isFn K (.ref Z.f_Value_init) = true
  F_Value_told : Fun K "told" "Value.told" s_Value_told Z.f_Value_told Z.fd_Value_told
  b_Value_told : Binds K Z.fd_Value_told ["self"] []
  y_Value_told : PySem.W.isFn K (.ref Z.f_Value_told) = true
  F_Two_init : Fun K "__init__" "Two.__init__" s_Two_init Z.f_Two_init Z.fd_Two_init
  b_Two_init : Binds K Z.fd_Two_init ["self", "op", "one", "other"] []
  y_Two_init : PySem.W.isFn K (.ref Z.f_Two_init) = true
  F_Two_parts : Fun K "parts" "Two.parts" s_Two_parts Z.f_Two_parts Z.fd_Two_parts
  b_Two_parts : Binds K Z.fd_Two_parts ["self"] []
  y_Two_parts : PySem.W.isFn K (.ref Z.f_Two_parts) = true
  F_Two_told : Fun K "told" "Two.told" s_Two_told Z.f_Two_told Z.fd_Two_told
  b_Two_told : Binds K Z.fd_Two_told ["self"] []
  y_Two_told : PySem.W.isFn K (.ref Z.f_Two_told) = true
  F_Not_init : Fun K "__init__" "Not.__init__" s_Not_init Z.f_Not_init Z.fd_Not_init
  b_Not_init : Binds K Z.fd_Not_init ["self", "one"] []
  y_Not_init : PySem.W.isFn K (.ref Z.f_Not_init) = true
  F_Not_parts : Fun K "parts" "Not.parts" s_Not_parts Z.f_Not_parts Z.fd_Not_parts
  b_Not_parts : Binds K Z.fd_Not_parts ["self"] []
  y_Not_parts : PySem.W.isFn K (.ref Z.f_Not_parts) = true
  F_Not_told : Fun K "told" "Not.told" s_Not_told Z.f_Not_told Z.fd_Not_told
  b_Not_told : Binds K Z.fd_Not_told ["self"] []
  y_Not_told : PySem.W.isFn K (.ref Z.f_Not_told) = true
  F_Pick_init : Fun K "__init__" "Pick.__init__" s_Pick_init Z.f_Pick_init Z.fd_Pick_init
  b_Pick_init : Binds K Z.fd_Pick_init ["self", "by", "one", "other"] []
  y_Pick_init : PySem.W.isFn K (.ref Z.f_Pick_init) = true
  F_Pick_parts : Fun K "parts" "Pick.parts" s_Pick_parts Z.f_Pick_parts Z.fd_Pick_parts
  b_Pick_parts : Binds K Z.fd_Pick_parts ["self"] []
  y_Pick_parts : PySem.W.isFn K (.ref Z.f_Pick_parts) = true
  F_Pick_told : Fun K "told" "Pick.told" s_Pick_told Z.f_Pick_told Z.fd_Pick_told
  b_Pick_told : Binds K Z.fd_Pick_told ["self"] []
  y_Pick_told : PySem.W.isFn K (.ref Z.f_Pick_told) = true
  F_simple_of : Fun K "simple_of" "simple_of" s_simple_of Z.f_simple_of Z.fd_simple_of
  b_simple_of : Binds K Z.fd_simple_of ["word", "thing"] []
  g_simple_of : mg "simple_of" = some (.ref Z.f_simple_of)
  F_made_of_told : Fun K "made_of_told" "made_of_told" s_made_of_told Z.f_made_of_told Z.fd_made_of_told
  b_made_of_told : Binds K Z.fd_made_of_told ["told", "left"] []
  g_made_of_told : mg "made_of_told" = some (.ref Z.f_made_of_told)
  F_term_of : Fun K "term_of" "term_of" s_term_of Z.f_term_of Z.fd_term_of
  b_term_of : Binds K Z.fd_term_of ["told"] []
  g_term_of : mg "term_of" = some (.ref Z.f_term_of)
  F_each_once : Fun K "each_once" "each_once" s_each_once Z.f_each_once Z.fd_each_once
  b_each_once : Binds K Z.fd_each_once ["names"] []
  g_each_once : mg "each_once" = some (.ref Z.f_each_once)
  F_Equation_init : Fun K "__init__" "Equation.__init__" s_Equation_init Z.f_Equation_init Z.fd_Equation_init
  b_Equation_init : Binds K Z.fd_Equation_init ["self", "row"] []
  y_Equation_init : PySem.W.isFn K (.ref Z.f_Equation_init) = true
  F_Equation_told : Fun K "told" "Equation.told" s_Equation_told Z.f_Equation_told Z.fd_Equation_told
  b_Equation_told : Binds K Z.fd_Equation_told ["self"] []
  y_Equation_told : PySem.W.isFn K (.ref Z.f_Equation_told) = true
  F_Equation_tells : Fun K "tells" "Equation.tells" s_Equation_tells Z.f_Equation_tells Z.fd_Equation_tells
  b_Equation_tells : Binds K Z.fd_Equation_tells ["self"] []
  y_Equation_tells : PySem.W.isFn K (.ref Z.f_Equation_tells) = true
  F_Equation_names : Fun K "names" "Equation.names" s_Equation_names Z.f_Equation_names Z.fd_Equation_names
  b_Equation_names : Binds K Z.fd_Equation_names ["self"] []
  y_Equation_names : PySem.W.isFn K (.ref Z.f_Equation_names) = true
  F_Equation_term : Fun K "term" "Equation.term" s_Equation_term Z.f_Equation_term Z.fd_Equation_term
  b_Equation_term : Binds K Z.fd_Equation_term ["self"] []
  y_Equation_term : PySem.W.isFn K (.ref Z.f_Equation_term) = true
  F_Equation_is_call : Fun K "is_call" "Equation.is_call" s_Equation_is_call Z.f_Equation_is_call Z.fd_Equation_is_call
  b_Equation_is_call : Binds K Z.fd_Equation_is_call ["self"] []
  y_Equation_is_call : PySem.W.isFn K (.ref Z.f_Equation_is_call) = true
  F_Plain_init : Fun K "__init__" "Plain.__init__" s_Plain_init Z.f_Plain_init Z.fd_Plain_init
  b_Plain_init : Binds K Z.fd_Plain_init ["self", "row"] []
  y_Plain_init : PySem.W.isFn K (.ref Z.f_Plain_init) = true
  F_Plain_names : Fun K "names" "Plain.names" s_Plain_names Z.f_Plain_names Z.fd_Plain_names
  b_Plain_names : Binds K Z.fd_Plain_names ["self"] []
  y_Plain_names : PySem.W.isFn K (.ref Z.f_Plain_names) = true
  F_Plain_term : Fun K "term" "Plain.term" s_Plain_term Z.f_Plain_term Z.fd_Plain_term
  b_Plain_term : Binds K Z.fd_Plain_term ["self"] []
  y_Plain_term : PySem.W.isFn K (.ref Z.f_Plain_term) = true
  F_When_names : Fun K "names" "When.names" s_When_names Z.f_When_names Z.fd_When_names
  b_When_names : Binds K Z.fd_When_names ["self"] []
  y_When_names : PySem.W.isFn K (.ref Z.f_When_names) = true
  F_Same_tells : Fun K "tells" "Same.tells" s_Same_tells Z.f_Same_tells Z.fd_Same_tells
  b_Same_tells : Binds K Z.fd_Same_tells ["self"] []
  y_Same_tells : PySem.W.isFn K (.ref Z.f_Same_tells) = true
  F_Same_names : Fun K "names" "Same.names" s_Same_names Z.f_Same_names Z.fd_Same_names
  b_Same_names : Binds K Z.fd_Same_names ["self"] []
  y_Same_names : PySem.W.isFn K (.ref Z.f_Same_names) = true
  F_Call_tells : Fun K "tells" "Call.tells" s_Call_tells Z.f_Call_tells Z.fd_Call_tells
  b_Call_tells : Binds K Z.fd_Call_tells ["self"] []
  y_Call_tells : PySem.W.isFn K (.ref Z.f_Call_tells) = true
  F_Call_names : Fun K "names" "Call.names" s_Call_names Z.f_Call_names Z.fd_Call_names
  b_Call_names : Binds K Z.fd_Call_names ["self"] []
  y_Call_names : PySem.W.isFn K (.ref Z.f_Call_names) = true
  F_Call_is_call : Fun K "is_call" "Call.is_call" s_Call_is_call Z.f_Call_is_call Z.fd_Call_is_call
  b_Call_is_call : Binds K Z.fd_Call_is_call ["self"] []
  y_Call_is_call : PySem.W.isFn K (.ref Z.f_Call_is_call) = true
  F_are_pointed : Fun K "are_pointed" "are_pointed" s_are_pointed Z.f_are_pointed Z.fd_are_pointed
  b_are_pointed : Binds K Z.fd_are_pointed ["thing", "least"] []
  g_are_pointed : mg "are_pointed" = some (.ref Z.f_are_pointed)
  F_is_valued : Fun K "is_valued" "is_valued" s_is_valued Z.f_is_valued Z.fd_is_valued
  b_is_valued : Binds K Z.fd_is_valued ["row"] []
  g_is_valued : mg "is_valued" = some (.ref Z.f_is_valued)
  F_plain_of : Fun K "plain_of" "plain_of" s_plain_of Z.f_plain_of Z.fd_plain_of
  b_plain_of : Binds K Z.fd_plain_of ["row"] []
  g_plain_of : mg "plain_of" = some (.ref Z.f_plain_of)
  F_valued_of : Fun K "valued_of" "valued_of" s_valued_of Z.f_valued_of Z.fd_valued_of
  b_valued_of : Binds K Z.fd_valued_of ["row"] []
  g_valued_of : mg "valued_of" = some (.ref Z.f_valued_of)
  F_call_of : Fun K "call_of" "call_of" s_call_of Z.f_call_of Z.fd_call_of
  b_call_of : Binds K Z.fd_call_of ["row"] []
  g_call_of : mg "call_of" = some (.ref Z.f_call_of)
  F_made_of : Fun K "made_of" "made_of" s_made_of Z.f_made_of Z.fd_made_of
  b_made_of : Binds K Z.fd_made_of ["row"] []
  g_made_of : mg "made_of" = some (.ref Z.f_made_of)
  F_equation_of : Fun K "equation_of" "equation_of" s_equation_of Z.f_equation_of Z.fd_equation_of
  b_equation_of : Binds K Z.fd_equation_of ["told"] []
  g_equation_of : mg "equation_of" = some (.ref Z.f_equation_of)
  F_need_names : Fun K "need_names" "need_names" s_need_names Z.f_need_names Z.fd_need_names
  b_need_names : Binds K Z.fd_need_names ["things"] []
  g_need_names : mg "need_names" = some (.ref Z.f_need_names)
  F_equations_of : Fun K "equations_of" "equations_of" s_equations_of Z.f_equations_of Z.fd_equations_of
  b_equations_of : Binds K Z.fd_equations_of ["rows"] []
  g_equations_of : mg "equations_of" = some (.ref Z.f_equations_of)
  F_Node_init : Fun K "__init__" "Node.__init__" s_Node_init Z.f_Node_init Z.fd_Node_init
  b_Node_init : Binds K Z.fd_Node_init ["self", "name", "inputs", "outs", "rows"] []
  y_Node_init : PySem.W.isFn K (.ref Z.f_Node_init) = true
  F_Node_take_tellers : Fun K "take_tellers" "Node.take_tellers" s_Node_take_tellers Z.f_Node_take_tellers Z.fd_Node_take_tellers
  b_Node_take_tellers : Binds K Z.fd_Node_take_tellers ["self"] []
  y_Node_take_tellers : PySem.W.isFn K (.ref Z.f_Node_take_tellers) = true
  F_Node_need_told : Fun K "need_told" "Node.need_told" s_Node_need_told Z.f_Node_need_told Z.fd_Node_need_told
  b_Node_need_told : Binds K Z.fd_Node_need_told ["self"] []
  y_Node_need_told : PySem.W.isFn K (.ref Z.f_Node_need_told) = true
  F_Node_inputs : Fun K "inputs" "Node.inputs" s_Node_inputs Z.f_Node_inputs Z.fd_Node_inputs
  b_Node_inputs : Binds K Z.fd_Node_inputs ["self"] []
  y_Node_inputs : PySem.W.isFn K (.ref Z.f_Node_inputs) = true
  F_Node_outs : Fun K "outs" "Node.outs" s_Node_outs Z.f_Node_outs Z.fd_Node_outs
  b_Node_outs : Binds K Z.fd_Node_outs ["self"] []
  y_Node_outs : PySem.W.isFn K (.ref Z.f_Node_outs) = true
  F_Node_rows : Fun K "rows" "Node.rows" s_Node_rows Z.f_Node_rows Z.fd_Node_rows
  b_Node_rows : Binds K Z.fd_Node_rows ["self"] []
  y_Node_rows : PySem.W.isFn K (.ref Z.f_Node_rows) = true
  F_Node_names : Fun K "names" "Node.names" s_Node_names Z.f_Node_names Z.fd_Node_names
  b_Node_names : Binds K Z.fd_Node_names ["self"] []
  y_Node_names : PySem.W.isFn K (.ref Z.f_Node_names) = true
  F_Node_told : Fun K "told" "Node.told" s_Node_told Z.f_Node_told Z.fd_Node_told
  b_Node_told : Binds K Z.fd_Node_told ["self"] []
  y_Node_told : PySem.W.isFn K (.ref Z.f_Node_told) = true
  F_node_of : Fun K "node_of" "node_of" s_node_of Z.f_node_of Z.fd_node_of
  b_node_of : Binds K Z.fd_node_of ["told"] []
  g_node_of : mg "node_of" = some (.ref Z.f_node_of)
  F_same_node : Fun K "same_node" "same_node" s_same_node Z.f_same_node Z.fd_same_node
  b_same_node : Binds K Z.fd_same_node ["one", "other"] []
  g_same_node : mg "same_node" = some (.ref Z.f_same_node)
  F_need_calls : Fun K "need_calls" "need_calls" s_need_calls Z.f_need_calls Z.fd_need_calls
  b_need_calls : Binds K Z.fd_need_calls ["known", "node"] []
  g_need_calls : mg "need_calls" = some (.ref Z.f_need_calls)
  F_need_nodes : Fun K "need_nodes" "need_nodes" s_need_nodes Z.f_need_nodes Z.fd_need_nodes
  b_need_nodes : Binds K Z.fd_need_nodes ["thing"] []
  g_need_nodes : mg "need_nodes" = some (.ref Z.f_need_nodes)
  F_Program_init : Fun K "__init__" "Program.__init__" s_Program_init Z.f_Program_init Z.fd_Program_init
  b_Program_init : Binds K Z.fd_Program_init ["self", "nodes"] []
  y_Program_init : PySem.W.isFn K (.ref Z.f_Program_init) = true
  F_Program_told : Fun K "told" "Program.told" s_Program_told Z.f_Program_told Z.fd_Program_told
  b_Program_told : Binds K Z.fd_Program_told ["self"] []
  y_Program_told : PySem.W.isFn K (.ref Z.f_Program_told) = true
  F_form_of : Fun K "form_of" "form_of" s_form_of Z.f_form_of Z.fd_form_of
  b_form_of : Binds K Z.fd_form_of ["program"] []
  g_form_of : mg "form_of" = some (.ref Z.f_form_of)
  F_same_but_order : Fun K "same_but_order" "same_but_order" s_same_but_order Z.f_same_but_order Z.fd_same_but_order
  b_same_but_order : Binds K Z.fd_same_but_order ["one", "other"] []
  g_same_but_order : mg "same_but_order" = some (.ref Z.f_same_but_order)
  F_cell_at_l : Fun K "_law_cell_at" "_law_cell_at" s_cell_at_l Z.f_cell_at_l Z.fd_cell_at_l
  b_cell_at_l : Binds K Z.fd_cell_at_l ["_law_script", "_law_k"] []
  g_cell_at_l : mg "_law_cell_at" = some (.ref Z.f_cell_at_l)
  F_box_l : Fun K "_law_box" "_law_box" s_box_l Z.f_box_l Z.fd_box_l
  b_box_l : Binds K Z.fd_box_l ["_law_cell"] []
  g_box_l : mg "_law_box" = some (.ref Z.f_box_l)
  F_take_l : Fun K "_law_take" "_law_take" s_take_l Z.f_take_l Z.fd_take_l
  b_take_l : Binds K Z.fd_take_l ["_law_box_here", "_law_many"] []
  g_take_l : mg "_law_take" = some (.ref Z.f_take_l)
  F_names_l : Fun K "_law_names" "_law_names" s_names_l Z.f_names_l Z.fd_names_l
  b_names_l : Binds K Z.fd_names_l ["_law_box_here"] []
  g_names_l : mg "_law_names" = some (.ref Z.f_names_l)
  F_rows_l : Fun K "_law_rows" "_law_rows" s_rows_l Z.f_rows_l Z.fd_rows_l
  b_rows_l : Binds K Z.fd_rows_l ["_law_box_here", "_law_names_here"] []
  g_rows_l : mg "_law_rows" = some (.ref Z.f_rows_l)
  F_inner_l : Fun K "_law_inner" "_law_inner" s_inner_l Z.f_inner_l Z.fd_inner_l
  b_inner_l : Binds K Z.fd_inner_l ["_law_names_here"] []
  g_inner_l : mg "_law_inner" = some (.ref Z.f_inner_l)
  F_node_l : Fun K "_law_node" "_law_node" s_node_l Z.f_node_l Z.fd_node_l
  b_node_l : Binds K Z.fd_node_l ["_law_names_here", "_law_rows_here"] []
  g_node_l : mg "_law_node" = some (.ref Z.f_node_l)
  F_whole_l : Fun K "_law_whole" "_law_whole" s_whole_l Z.f_whole_l Z.fd_whole_l
  b_whole_l : Binds K Z.fd_whole_l ["_law_box_here", "_law_names_here"] []
  g_whole_l : mg "_law_whole" = some (.ref Z.f_whole_l)
  F_value_put_l : Fun K "_law_value_put" "_law_value_put" s_value_put_l Z.f_value_put_l Z.fd_value_put_l
  b_value_put_l : Binds K Z.fd_value_put_l ["_law_rows_here"] []
  g_value_put_l : mg "_law_value_put" = some (.ref Z.f_value_put_l)
  F_other_l : Fun K "_law_other" "_law_other" s_other_l Z.f_other_l Z.fd_other_l
  b_other_l : Binds K Z.fd_other_l ["_law_box_here", "_law_names_here", "_law_node_here"] []
  g_other_l : mg "_law_other" = some (.ref Z.f_other_l)
  F_sames_put_l : Fun K "_law_sames_put" "_law_sames_put" s_sames_put_l Z.f_sames_put_l Z.fd_sames_put_l
  b_sames_put_l : Binds K Z.fd_sames_put_l ["_law_names_here", "_law_node_here"] []
  g_sames_put_l : mg "_law_sames_put" = some (.ref Z.f_sames_put_l)
  F_right_l : Fun K "_law_right" "_law_right" s_right_l Z.f_right_l Z.fd_right_l
  b_right_l : Binds K Z.fd_right_l ["_law_names_here", "_law_one", "_law_other_here", "_law_order"] []
  g_right_l : mg "_law_right" = some (.ref Z.f_right_l)
  F_law : Fun K "law" "law" s_law Z.f_law Z.fd_law
  b_law : Binds K Z.fd_law ["_law_script"] []
  g_law : mg "law" = some (.ref Z.f_law)
  m_BeatError : mg "BeatError" = some (.ref Z.c_BeatError)
  q_BeatError : baseB K Z.c_BeatError = true
  e_BeatError : PySem.W.excIn K Z.c_BeatError [.type "ValueError", .type "Exception", .type "BaseException", .type "object"] "ValueError.__new__" = true
  k_BeatError : PySem.W.keepIn K (.ref Z.c_BeatError) = true
  w_BeatError : icB K Z.c_BeatError = true
  m_NoName : mg "NoName" = some (.ref Z.c_NoName)
  x_NoName : exB K Z.c_NoName ["found"] = true
  i_NoName : PySem.W.findIn K (.ref Z.c_NoName) "__init__" = some (some (.ref Z.f_NoName_init))
  y_NoName : PySem.W.typeIn K (.ref Z.f_NoName_init) = some (.type "function")
  m_NoArgs : mg "NoArgs" = some (.ref Z.c_NoArgs)
  x_NoArgs : exB K Z.c_NoArgs ["name", "many"] = true
  i_NoArgs : PySem.W.findIn K (.ref Z.c_NoArgs) "__init__" = some (some (.ref Z.f_NoArgs_init))
  y_NoArgs : PySem.W.typeIn K (.ref Z.f_NoArgs_init) = some (.type "function")
  m_NoCall : mg "NoCall" = some (.ref Z.c_NoCall)
  x_NoCall : exB K Z.c_NoCall ["name"] = true
  i_NoCall : PySem.W.findIn K (.ref Z.c_NoCall) "__init__" = some (some (.ref Z.f_NoCall_init))
  y_NoCall : PySem.W.typeIn K (.ref Z.f_NoCall_init) = some (.type "function")
  m_Term : mg "Term" = some (.ref Z.c_Term)
  m_Name : mg "Name" = some (.ref Z.c_Name)
  x_Name : tcB K Z.c_Name ["name"] = true
  i_Name : PySem.W.findIn K (.ref Z.c_Name) "__init__" = some (some (.ref Z.f_Name_init))
  h_parts_Name : PySem.W.findIn K (.ref Z.c_Name) "parts" = some (some (.ref Z.f_Term_parts))
  h_names_Name : PySem.W.findIn K (.ref Z.c_Name) "names" = some (some (.ref Z.f_Name_names))
  h_levels_Name : PySem.W.findIn K (.ref Z.c_Name) "levels" = some (some (.ref Z.f_Term_levels))
  h_told_Name : PySem.W.findIn K (.ref Z.c_Name) "told" = some (some (.ref Z.f_Name_told))
  m_Value : mg "Value" = some (.ref Z.c_Value)
  x_Value : tcB K Z.c_Value ["amount"] = true
  i_Value : PySem.W.findIn K (.ref Z.c_Value) "__init__" = some (some (.ref Z.f_Value_init))
  h_parts_Value : PySem.W.findIn K (.ref Z.c_Value) "parts" = some (some (.ref Z.f_Term_parts))
  h_names_Value : PySem.W.findIn K (.ref Z.c_Value) "names" = some (some (.ref Z.f_Term_names))
  h_levels_Value : PySem.W.findIn K (.ref Z.c_Value) "levels" = some (some (.ref Z.f_Term_levels))
  h_told_Value : PySem.W.findIn K (.ref Z.c_Value) "told" = some (some (.ref Z.f_Value_told))
  m_Two : mg "Two" = some (.ref Z.c_Two)
  x_Two : tcB K Z.c_Two ["op", "one", "second"] = true
  i_Two : PySem.W.findIn K (.ref Z.c_Two) "__init__" = some (some (.ref Z.f_Two_init))
  h_parts_Two : PySem.W.findIn K (.ref Z.c_Two) "parts" = some (some (.ref Z.f_Two_parts))
  h_names_Two : PySem.W.findIn K (.ref Z.c_Two) "names" = some (some (.ref Z.f_Term_names))
  h_levels_Two : PySem.W.findIn K (.ref Z.c_Two) "levels" = some (some (.ref Z.f_Term_levels))
  h_told_Two : PySem.W.findIn K (.ref Z.c_Two) "told" = some (some (.ref Z.f_Two_told))
  m_Not : mg "Not" = some (.ref Z.c_Not)
  x_Not : tcB K Z.c_Not ["one"] = true
  i_Not : PySem.W.findIn K (.ref Z.c_Not) "__init__" = some (some (.ref Z.f_Not_init))
  h_parts_Not : PySem.W.findIn K (.ref Z.c_Not) "parts" = some (some (.ref Z.f_Not_parts))
  h_names_Not : PySem.W.findIn K (.ref Z.c_Not) "names" = some (some (.ref Z.f_Term_names))
  h_levels_Not : PySem.W.findIn K (.ref Z.c_Not) "levels" = some (some (.ref Z.f_Term_levels))
  h_told_Not : PySem.W.findIn K (.ref Z.c_Not) "told" = some (some (.ref Z.f_Not_told))
  m_Pick : mg "Pick" = some (.ref Z.c_Pick)
  x_Pick : tcB K Z.c_Pick ["by", "one", "second"] = true
  i_Pick : PySem.W.findIn K (.ref Z.c_Pick) "__init__" = some (some (.ref Z.f_Pick_init))
  h_parts_Pick : PySem.W.findIn K (.ref Z.c_Pick) "parts" = some (some (.ref Z.f_Pick_parts))
  h_names_Pick : PySem.W.findIn K (.ref Z.c_Pick) "names" = some (some (.ref Z.f_Term_names))
  h_levels_Pick : PySem.W.findIn K (.ref Z.c_Pick) "levels" = some (some (.ref Z.f_Term_levels))
  h_told_Pick : PySem.W.findIn K (.ref Z.c_Pick) "told" = some (some (.ref Z.f_Pick_told))
  m_Equation : mg "Equation" = some (.ref Z.c_Equation)
  x_Equation : tcB K Z.c_Equation ["told_row"] = true
  i_Equation : PySem.W.findIn K (.ref Z.c_Equation) "__init__" = some (some (.ref Z.f_Equation_init))
  h_names_Equation : PySem.W.findIn K (.ref Z.c_Equation) "names" = some (some (.ref Z.f_Equation_names))
  h_told_Equation : PySem.W.findIn K (.ref Z.c_Equation) "told" = some (some (.ref Z.f_Equation_told))
  h_tells_Equation : PySem.W.findIn K (.ref Z.c_Equation) "tells" = some (some (.ref Z.f_Equation_tells))
  h_term_Equation : PySem.W.findIn K (.ref Z.c_Equation) "term" = some (some (.ref Z.f_Equation_term))
  h_is_call_Equation : PySem.W.findIn K (.ref Z.c_Equation) "is_call" = some (some (.ref Z.f_Equation_is_call))
  m_Plain : mg "Plain" = some (.ref Z.c_Plain)
  x_Plain : tcB K Z.c_Plain ["told_row", "kept_term"] = true
  i_Plain : PySem.W.findIn K (.ref Z.c_Plain) "__init__" = some (some (.ref Z.f_Plain_init))
  h_names_Plain : PySem.W.findIn K (.ref Z.c_Plain) "names" = some (some (.ref Z.f_Plain_names))
  h_told_Plain : PySem.W.findIn K (.ref Z.c_Plain) "told" = some (some (.ref Z.f_Equation_told))
  h_tells_Plain : PySem.W.findIn K (.ref Z.c_Plain) "tells" = some (some (.ref Z.f_Equation_tells))
  h_term_Plain : PySem.W.findIn K (.ref Z.c_Plain) "term" = some (some (.ref Z.f_Plain_term))
  h_is_call_Plain : PySem.W.findIn K (.ref Z.c_Plain) "is_call" = some (some (.ref Z.f_Equation_is_call))
  m_Before : mg "Before" = some (.ref Z.c_Before)
  x_Before : tcB K Z.c_Before ["told_row"] = true
  i_Before : PySem.W.findIn K (.ref Z.c_Before) "__init__" = some (some (.ref Z.f_Equation_init))
  h_names_Before : PySem.W.findIn K (.ref Z.c_Before) "names" = some (some (.ref Z.f_Equation_names))
  h_told_Before : PySem.W.findIn K (.ref Z.c_Before) "told" = some (some (.ref Z.f_Equation_told))
  h_tells_Before : PySem.W.findIn K (.ref Z.c_Before) "tells" = some (some (.ref Z.f_Equation_tells))
  h_term_Before : PySem.W.findIn K (.ref Z.c_Before) "term" = some (some (.ref Z.f_Equation_term))
  h_is_call_Before : PySem.W.findIn K (.ref Z.c_Before) "is_call" = some (some (.ref Z.f_Equation_is_call))
  m_When : mg "When" = some (.ref Z.c_When)
  x_When : tcB K Z.c_When ["told_row"] = true
  i_When : PySem.W.findIn K (.ref Z.c_When) "__init__" = some (some (.ref Z.f_Equation_init))
  h_names_When : PySem.W.findIn K (.ref Z.c_When) "names" = some (some (.ref Z.f_When_names))
  h_told_When : PySem.W.findIn K (.ref Z.c_When) "told" = some (some (.ref Z.f_Equation_told))
  h_tells_When : PySem.W.findIn K (.ref Z.c_When) "tells" = some (some (.ref Z.f_Equation_tells))
  h_term_When : PySem.W.findIn K (.ref Z.c_When) "term" = some (some (.ref Z.f_Equation_term))
  h_is_call_When : PySem.W.findIn K (.ref Z.c_When) "is_call" = some (some (.ref Z.f_Equation_is_call))
  m_Hold : mg "Hold" = some (.ref Z.c_Hold)
  x_Hold : tcB K Z.c_Hold ["told_row"] = true
  i_Hold : PySem.W.findIn K (.ref Z.c_Hold) "__init__" = some (some (.ref Z.f_Equation_init))
  h_names_Hold : PySem.W.findIn K (.ref Z.c_Hold) "names" = some (some (.ref Z.f_Equation_names))
  h_told_Hold : PySem.W.findIn K (.ref Z.c_Hold) "told" = some (some (.ref Z.f_Equation_told))
  h_tells_Hold : PySem.W.findIn K (.ref Z.c_Hold) "tells" = some (some (.ref Z.f_Equation_tells))
  h_term_Hold : PySem.W.findIn K (.ref Z.c_Hold) "term" = some (some (.ref Z.f_Equation_term))
  h_is_call_Hold : PySem.W.findIn K (.ref Z.c_Hold) "is_call" = some (some (.ref Z.f_Equation_is_call))
  m_Like : mg "Like" = some (.ref Z.c_Like)
  x_Like : tcB K Z.c_Like ["told_row"] = true
  i_Like : PySem.W.findIn K (.ref Z.c_Like) "__init__" = some (some (.ref Z.f_Equation_init))
  h_names_Like : PySem.W.findIn K (.ref Z.c_Like) "names" = some (some (.ref Z.f_Equation_names))
  h_told_Like : PySem.W.findIn K (.ref Z.c_Like) "told" = some (some (.ref Z.f_Equation_told))
  h_tells_Like : PySem.W.findIn K (.ref Z.c_Like) "tells" = some (some (.ref Z.f_Equation_tells))
  h_term_Like : PySem.W.findIn K (.ref Z.c_Like) "term" = some (some (.ref Z.f_Equation_term))
  h_is_call_Like : PySem.W.findIn K (.ref Z.c_Like) "is_call" = some (some (.ref Z.f_Equation_is_call))
  m_Same : mg "Same" = some (.ref Z.c_Same)
  x_Same : tcB K Z.c_Same ["told_row"] = true
  i_Same : PySem.W.findIn K (.ref Z.c_Same) "__init__" = some (some (.ref Z.f_Equation_init))
  h_names_Same : PySem.W.findIn K (.ref Z.c_Same) "names" = some (some (.ref Z.f_Same_names))
  h_told_Same : PySem.W.findIn K (.ref Z.c_Same) "told" = some (some (.ref Z.f_Equation_told))
  h_tells_Same : PySem.W.findIn K (.ref Z.c_Same) "tells" = some (some (.ref Z.f_Same_tells))
  h_term_Same : PySem.W.findIn K (.ref Z.c_Same) "term" = some (some (.ref Z.f_Equation_term))
  h_is_call_Same : PySem.W.findIn K (.ref Z.c_Same) "is_call" = some (some (.ref Z.f_Equation_is_call))
  m_Call : mg "Call" = some (.ref Z.c_Call)
  x_Call : tcB K Z.c_Call ["told_row"] = true
  i_Call : PySem.W.findIn K (.ref Z.c_Call) "__init__" = some (some (.ref Z.f_Equation_init))
  h_names_Call : PySem.W.findIn K (.ref Z.c_Call) "names" = some (some (.ref Z.f_Call_names))
  h_told_Call : PySem.W.findIn K (.ref Z.c_Call) "told" = some (some (.ref Z.f_Equation_told))
  h_tells_Call : PySem.W.findIn K (.ref Z.c_Call) "tells" = some (some (.ref Z.f_Call_tells))
  h_term_Call : PySem.W.findIn K (.ref Z.c_Call) "term" = some (some (.ref Z.f_Equation_term))
  h_is_call_Call : PySem.W.findIn K (.ref Z.c_Call) "is_call" = some (some (.ref Z.f_Call_is_call))
  m_Node : mg "Node" = some (.ref Z.c_Node)
  x_Node : tcB K Z.c_Node ["name", "kept_inputs", "kept_outs", "kept_rows", "tellers"] = true
  i_Node : PySem.W.findIn K (.ref Z.c_Node) "__init__" = some (some (.ref Z.f_Node_init))
  h_names_Node : PySem.W.findIn K (.ref Z.c_Node) "names" = some (some (.ref Z.f_Node_names))
  h_told_Node : PySem.W.findIn K (.ref Z.c_Node) "told" = some (some (.ref Z.f_Node_told))
  h_take_tellers_Node : PySem.W.findIn K (.ref Z.c_Node) "take_tellers" = some (some (.ref Z.f_Node_take_tellers))
  h_need_told_Node : PySem.W.findIn K (.ref Z.c_Node) "need_told" = some (some (.ref Z.f_Node_need_told))
  h_inputs_Node : PySem.W.findIn K (.ref Z.c_Node) "inputs" = some (some (.ref Z.f_Node_inputs))
  h_outs_Node : PySem.W.findIn K (.ref Z.c_Node) "outs" = some (some (.ref Z.f_Node_outs))
  h_rows_Node : PySem.W.findIn K (.ref Z.c_Node) "rows" = some (some (.ref Z.f_Node_rows))
  m_Program : mg "Program" = some (.ref Z.c_Program)
  x_Program : tcB K Z.c_Program ["by_name"] = true
  i_Program : PySem.W.findIn K (.ref Z.c_Program) "__init__" = some (some (.ref Z.f_Program_init))
  h_told_Program : PySem.W.findIn K (.ref Z.c_Program) "told" = some (some (.ref Z.f_Program_told))
  fact_dif : difB [Z.c_Name, Z.c_Value, Z.c_Two, Z.c_Not, Z.c_Pick] = true
  fact_is_Name : subB K Z.c_Name Z.c_Term = true
  fact_is_Value : subB K Z.c_Value Z.c_Term = true
  fact_is_Two : subB K Z.c_Two Z.c_Term = true
  fact_is_Not : subB K Z.c_Not Z.c_Term = true
  fact_is_Pick : subB K Z.c_Pick Z.c_Term = true
  fact_difT : difB [Z.c_Plain, Z.c_Name, Z.c_Value, Z.c_Two, Z.c_Not, Z.c_Pick] = true
  fact_difE : difB [Z.c_Plain, Z.c_Before, Z.c_Hold, Z.c_Like, Z.c_When, Z.c_Same, Z.c_Call] = true
  fact_kitE : kitTab K [Z.c_Plain, Z.c_Before, Z.c_Hold, Z.c_Like, Z.c_When, Z.c_Same, Z.c_Call] Z.c_Equation = true
  fact_cm_Equation : cmB K Z.c_Equation Z.f_Equation_init "__init__" = true
  fact_difN1 : difB [Z.c_Node, Z.c_Name, Z.c_Value, Z.c_Two, Z.c_Not, Z.c_Pick] = true
  fact_difN2 : difB [Z.c_Node, Z.c_Plain, Z.c_Before, Z.c_Hold, Z.c_Like, Z.c_When, Z.c_Same, Z.c_Call] = true
  fact_kitNN : PySem.W.kitOne K (.ref Z.c_Node) (.ref Z.c_Node) = some true
  n_all : mg "all" = none
  n_bool : mg "bool" = none
  n_enumerate : mg "enumerate" = none
  n_int : mg "int" = none
  n_isinstance : mg "isinstance" = none
  n_len : mg "len" = none
  n_list : mg "list" = none
  n_max : mg "max" = none
  n_min : mg "min" = none
  n_range : mg "range" = none
  n_repr : mg "repr" = none
  n_sorted : mg "sorted" = none
  n_str : mg "str" = none
  n_tuple : mg "tuple" = none
  c_LETTERS : ∃ u, mg "LETTERS" = some u ∧ RelV (.str "abcdefghijklmnopqrstuvwxyz") u
  c_LONGEST : ∃ u, mg "LONGEST" = some u ∧ RelV (.int 8) u
  c_MOST : ∃ u, mg "MOST" = some u ∧ RelV (.int 1000000000) u
  c_MOST_LEVELS : ∃ u, mg "MOST_LEVELS" = some u ∧ RelV (.int 5) u
  c_MOST_SIGNS : ∃ u, mg "MOST_SIGNS" = some u ∧ RelV (.int 80) u
  c_OPS : ∃ u, mg "OPS" = some u ∧ RelV (.ref Z.a_OPS) u
  t_OPS : ∀ H, SqT K H Z.a_OPS [.str "+", .str "-", .str "*", .str "/", .str "mod", .str "<", .str "=", .str "&", .str "|"]
  c_OWN : ∃ u, mg "OWN" = some u ∧ RelV (.ref Z.a_OWN) u
  t_OWN : ∀ H, SqT K H Z.a_OWN [.str "node", .str "in", .str "out", .str "before", .str "when", .str "hold", .str "like", .str "same", .str "call", .str "true", .str "false", .str "mod", .str "beat", .str "desk"]
  c_TOLD_THINGS : ∃ u, mg "TOLD_THINGS" = some u ∧ RelV (.int 4) u
abbrev N_NoName_init : List Str := ["self", "found"]
theorem sc_NoName_init : FnScope N_NoName_init ["self", "found"] (defScope s_NoName_init) := ⟨rfl, rfl, rfl, by decide +kernel, rfl, by decide +kernel, by decide +kernel⟩
abbrev N_NoArgs_init : List Str := ["self", "name", "many"]
theorem sc_NoArgs_init : FnScope N_NoArgs_init ["self", "name", "many"] (defScope s_NoArgs_init) := ⟨rfl, rfl, rfl, by decide +kernel, rfl, by decide +kernel, by decide +kernel⟩
abbrev N_NoCall_init : List Str := ["self", "name"]
theorem sc_NoCall_init : FnScope N_NoCall_init ["self", "name"] (defScope s_NoCall_init) := ⟨rfl, rfl, rfl, by decide +kernel, rfl, by decide +kernel, by decide +kernel⟩
abbrev N_is_whole : List Str := ["thing"]
theorem sc_is_whole : FnScope N_is_whole ["thing"] (defScope s_is_whole) := ⟨rfl, rfl, rfl, by decide +kernel, rfl, by decide +kernel, by decide +kernel⟩
abbrev N_is_within : List Str := ["thing", "low", "high"]
theorem sc_is_within : FnScope N_is_within ["thing", "low", "high"] (defScope s_is_within) := ⟨rfl, rfl, rfl, by decide +kernel, rfl, by decide +kernel, by decide +kernel⟩
abbrev N_is_name : List Str := ["thing", "sign"]
theorem sc_is_name : FnScope N_is_name ["thing"] (defScope s_is_name) := ⟨rfl, rfl, rfl, by decide +kernel, rfl, by decide +kernel, by decide +kernel⟩
abbrev N_is_pointed : List Str := ["thing", "part"]
theorem sc_is_pointed : FnScope N_is_pointed ["thing"] (defScope s_is_pointed) := ⟨rfl, rfl, rfl, by decide +kernel, rfl, by decide +kernel, by decide +kernel⟩
abbrev N_is_value : List Str := ["thing"]
theorem sc_is_value : FnScope N_is_value ["thing"] (defScope s_is_value) := ⟨rfl, rfl, rfl, by decide +kernel, rfl, by decide +kernel, by decide +kernel⟩
abbrev N_ops_told : List Str := []
theorem sc_ops_told : FnScope N_ops_told [] (defScope s_ops_told) := ⟨rfl, rfl, rfl, by decide +kernel, rfl, by decide +kernel, by decide +kernel⟩
abbrev N_Term_parts : List Str := ["self"]
theorem sc_Term_parts : FnScope N_Term_parts ["self"] (defScope s_Term_parts) := ⟨rfl, rfl, rfl, by decide +kernel, rfl, by decide +kernel, by decide +kernel⟩
abbrev N_Term_names : List Str := ["self", "found", "part", "name"]
theorem sc_Term_names : FnScope N_Term_names ["self"] (defScope s_Term_names) := ⟨rfl, rfl, rfl, by decide +kernel, rfl, by decide +kernel, by decide +kernel⟩
abbrev N_Term_levels : List Str := ["self", "part"]
theorem sc_Term_levels : FnScope N_Term_levels ["self"] (defScope s_Term_levels) := ⟨rfl, rfl, rfl, by decide +kernel, rfl, by decide +kernel, by decide +kernel⟩
abbrev N_need_term : List Str := ["thing"]
theorem sc_need_term : FnScope N_need_term ["thing"] (defScope s_need_term) := ⟨rfl, rfl, rfl, by decide +kernel, rfl, by decide +kernel, by decide +kernel⟩
abbrev N_Name_init : List Str := ["self", "name"]
theorem sc_Name_init : FnScope N_Name_init ["self", "name"] (defScope s_Name_init) := ⟨rfl, rfl, rfl, by decide +kernel, rfl, by decide +kernel, by decide +kernel⟩
abbrev N_Name_names : List Str := ["self"]
theorem sc_Name_names : FnScope N_Name_names ["self"] (defScope s_Name_names) := ⟨rfl, rfl, rfl, by decide +kernel, rfl, by decide +kernel, by decide +kernel⟩
abbrev N_Name_told : List Str := ["self"]
theorem sc_Name_told : FnScope N_Name_told ["self"] (defScope s_Name_told) := ⟨rfl, rfl, rfl, by decide +kernel, rfl, by decide +kernel, by decide +kernel⟩
abbrev N_Value_init : List Str := ["self", "value"]
theorem sc_Value_init : FnScope N_Value_init ["self", "value"] (defScope s_Value_init) := ⟨rfl, rfl, rfl, by decide +kernel, rfl, by decide +kernel, by decide +kernel⟩
abbrev N_Value_told : List Str := ["self"]
theorem sc_Value_told : FnScope N_Value_told ["self"] (defScope s_Value_told) := ⟨rfl, rfl, rfl, by decide +kernel, rfl, by decide +kernel, by decide +kernel⟩
abbrev N_Two_init : List Str := ["self", "op", "one", "other"]
theorem sc_Two_init : FnScope N_Two_init ["self", "op", "one", "other"] (defScope s_Two_init) := ⟨rfl, rfl, rfl, by decide +kernel, rfl, by decide +kernel, by decide +kernel⟩
abbrev N_Two_parts : List Str := ["self"]
theorem sc_Two_parts : FnScope N_Two_parts ["self"] (defScope s_Two_parts) := ⟨rfl, rfl, rfl, by decide +kernel, rfl, by decide +kernel, by decide +kernel⟩
abbrev N_Two_told : List Str := ["self"]
theorem sc_Two_told : FnScope N_Two_told ["self"] (defScope s_Two_told) := ⟨rfl, rfl, rfl, by decide +kernel, rfl, by decide +kernel, by decide +kernel⟩
abbrev N_Not_init : List Str := ["self", "one"]
theorem sc_Not_init : FnScope N_Not_init ["self", "one"] (defScope s_Not_init) := ⟨rfl, rfl, rfl, by decide +kernel, rfl, by decide +kernel, by decide +kernel⟩
abbrev N_Not_parts : List Str := ["self"]
theorem sc_Not_parts : FnScope N_Not_parts ["self"] (defScope s_Not_parts) := ⟨rfl, rfl, rfl, by decide +kernel, rfl, by decide +kernel, by decide +kernel⟩
abbrev N_Not_told : List Str := ["self"]
theorem sc_Not_told : FnScope N_Not_told ["self"] (defScope s_Not_told) := ⟨rfl, rfl, rfl, by decide +kernel, rfl, by decide +kernel, by decide +kernel⟩
abbrev N_Pick_init : List Str := ["self", "by", "one", "other"]
theorem sc_Pick_init : FnScope N_Pick_init ["self", "by", "one", "other"] (defScope s_Pick_init) := ⟨rfl, rfl, rfl, by decide +kernel, rfl, by decide +kernel, by decide +kernel⟩
abbrev N_Pick_parts : List Str := ["self"]
theorem sc_Pick_parts : FnScope N_Pick_parts ["self"] (defScope s_Pick_parts) := ⟨rfl, rfl, rfl, by decide +kernel, rfl, by decide +kernel, by decide +kernel⟩
abbrev N_Pick_told : List Str := ["self"]
theorem sc_Pick_told : FnScope N_Pick_told ["self"] (defScope s_Pick_told) := ⟨rfl, rfl, rfl, by decide +kernel, rfl, by decide +kernel, by decide +kernel⟩
abbrev N_simple_of : List Str := ["word", "thing"]
theorem sc_simple_of : FnScope N_simple_of ["word", "thing"] (defScope s_simple_of) := ⟨rfl, rfl, rfl, by decide +kernel, rfl, by decide +kernel, by decide +kernel⟩
abbrev N_made_of_told : List Str := ["told", "left", "word", "first", "parts", "one"]
theorem sc_made_of_told : FnScope N_made_of_told ["told", "left"] (defScope s_made_of_told) := ⟨rfl, rfl, rfl, by decide +kernel, rfl, by decide +kernel, by decide +kernel⟩
abbrev N_term_of : List Str := ["told", "found"]
theorem sc_term_of : FnScope N_term_of ["told"] (defScope s_term_of) := ⟨rfl, rfl, rfl, by decide +kernel, rfl, by decide +kernel, by decide +kernel⟩
abbrev N_each_once : List Str := ["names", "found", "name"]
theorem sc_each_once : FnScope N_each_once ["names"] (defScope s_each_once) := ⟨rfl, rfl, rfl, by decide +kernel, rfl, by decide +kernel, by decide +kernel⟩
abbrev N_Equation_init : List Str := ["self", "row"]
theorem sc_Equation_init : FnScope N_Equation_init ["self", "row"] (defScope s_Equation_init) := ⟨rfl, rfl, rfl, by decide +kernel, rfl, by decide +kernel, by decide +kernel⟩
abbrev N_Equation_told : List Str := ["self"]
theorem sc_Equation_told : FnScope N_Equation_told ["self"] (defScope s_Equation_told) := ⟨rfl, rfl, rfl, by decide +kernel, rfl, by decide +kernel, by decide +kernel⟩
abbrev N_Equation_tells : List Str := ["self"]
theorem sc_Equation_tells : FnScope N_Equation_tells ["self"] (defScope s_Equation_tells) := ⟨rfl, rfl, rfl, by decide +kernel, rfl, by decide +kernel, by decide +kernel⟩
abbrev N_Equation_names : List Str := ["self"]
theorem sc_Equation_names : FnScope N_Equation_names ["self"] (defScope s_Equation_names) := ⟨rfl, rfl, rfl, by decide +kernel, rfl, by decide +kernel, by decide +kernel⟩
abbrev N_Equation_term : List Str := ["self"]
theorem sc_Equation_term : FnScope N_Equation_term ["self"] (defScope s_Equation_term) := ⟨rfl, rfl, rfl, by decide +kernel, rfl, by decide +kernel, by decide +kernel⟩
abbrev N_Equation_is_call : List Str := ["self"]
theorem sc_Equation_is_call : FnScope N_Equation_is_call ["self"] (defScope s_Equation_is_call) := ⟨rfl, rfl, rfl, by decide +kernel, rfl, by decide +kernel, by decide +kernel⟩
abbrev N_Plain_init : List Str := ["self", "row"]
theorem sc_Plain_init : FnScope N_Plain_init ["self", "row"] (defScope s_Plain_init) := ⟨rfl, rfl, rfl, by decide +kernel, rfl, by decide +kernel, by decide +kernel⟩
abbrev N_Plain_names : List Str := ["self"]
theorem sc_Plain_names : FnScope N_Plain_names ["self"] (defScope s_Plain_names) := ⟨rfl, rfl, rfl, by decide +kernel, rfl, by decide +kernel, by decide +kernel⟩
abbrev N_Plain_term : List Str := ["self"]
theorem sc_Plain_term : FnScope N_Plain_term ["self"] (defScope s_Plain_term) := ⟨rfl, rfl, rfl, by decide +kernel, rfl, by decide +kernel, by decide +kernel⟩
abbrev N_When_names : List Str := ["self"]
theorem sc_When_names : FnScope N_When_names ["self"] (defScope s_When_names) := ⟨rfl, rfl, rfl, by decide +kernel, rfl, by decide +kernel, by decide +kernel⟩
abbrev N_Same_tells : List Str := ["self"]
theorem sc_Same_tells : FnScope N_Same_tells ["self"] (defScope s_Same_tells) := ⟨rfl, rfl, rfl, by decide +kernel, rfl, by decide +kernel, by decide +kernel⟩
abbrev N_Same_names : List Str := ["self"]
theorem sc_Same_names : FnScope N_Same_names ["self"] (defScope s_Same_names) := ⟨rfl, rfl, rfl, by decide +kernel, rfl, by decide +kernel, by decide +kernel⟩
abbrev N_Call_tells : List Str := ["self"]
theorem sc_Call_tells : FnScope N_Call_tells ["self"] (defScope s_Call_tells) := ⟨rfl, rfl, rfl, by decide +kernel, rfl, by decide +kernel, by decide +kernel⟩
abbrev N_Call_names : List Str := ["self"]
theorem sc_Call_names : FnScope N_Call_names ["self"] (defScope s_Call_names) := ⟨rfl, rfl, rfl, by decide +kernel, rfl, by decide +kernel, by decide +kernel⟩
abbrev N_Call_is_call : List Str := ["self"]
theorem sc_Call_is_call : FnScope N_Call_is_call ["self"] (defScope s_Call_is_call) := ⟨rfl, rfl, rfl, by decide +kernel, rfl, by decide +kernel, by decide +kernel⟩
abbrev N_are_pointed : List Str := ["thing", "least", "name"]
theorem sc_are_pointed : FnScope N_are_pointed ["thing", "least"] (defScope s_are_pointed) := ⟨rfl, rfl, rfl, by decide +kernel, rfl, by decide +kernel, by decide +kernel⟩
abbrev N_is_valued : List Str := ["row"]
theorem sc_is_valued : FnScope N_is_valued ["row"] (defScope s_is_valued) := ⟨rfl, rfl, rfl, by decide +kernel, rfl, by decide +kernel, by decide +kernel⟩
abbrev N_plain_of : List Str := ["row"]
theorem sc_plain_of : FnScope N_plain_of ["row"] (defScope s_plain_of) := ⟨rfl, rfl, rfl, by decide +kernel, rfl, by decide +kernel, by decide +kernel⟩
abbrev N_valued_of : List Str := ["row"]
theorem sc_valued_of : FnScope N_valued_of ["row"] (defScope s_valued_of) := ⟨rfl, rfl, rfl, by decide +kernel, rfl, by decide +kernel, by decide +kernel⟩
abbrev N_call_of : List Str := ["row"]
theorem sc_call_of : FnScope N_call_of ["row"] (defScope s_call_of) := ⟨rfl, rfl, rfl, by decide +kernel, rfl, by decide +kernel, by decide +kernel⟩
abbrev N_made_of : List Str := ["row"]
theorem sc_made_of : FnScope N_made_of ["row"] (defScope s_made_of) := ⟨rfl, rfl, rfl, by decide +kernel, rfl, by decide +kernel, by decide +kernel⟩
abbrev N_equation_of : List Str := ["told", "found"]
theorem sc_equation_of : FnScope N_equation_of ["told"] (defScope s_equation_of) := ⟨rfl, rfl, rfl, by decide +kernel, rfl, by decide +kernel, by decide +kernel⟩
abbrev N_need_names : List Str := ["things", "ahead", "name"]
theorem sc_need_names : FnScope N_need_names ["things"] (defScope s_need_names) := ⟨rfl, rfl, rfl, by decide +kernel, rfl, by decide +kernel, by decide +kernel⟩
abbrev N_equations_of : List Str := ["rows", "found", "row", "equation"]
theorem sc_equations_of : FnScope N_equations_of ["rows"] (defScope s_equations_of) := ⟨rfl, rfl, rfl, by decide +kernel, rfl, by decide +kernel, by decide +kernel⟩
abbrev N_Node_init : List Str := ["self", "name", "inputs", "outs", "rows"]
theorem sc_Node_init : FnScope N_Node_init ["self", "name", "inputs", "outs", "rows"] (defScope s_Node_init) := ⟨rfl, rfl, rfl, by decide +kernel, rfl, by decide +kernel, by decide +kernel⟩
abbrev N_Node_take_tellers : List Str := ["self", "name", "row"]
theorem sc_Node_take_tellers : FnScope N_Node_take_tellers ["self"] (defScope s_Node_take_tellers) := ⟨rfl, rfl, rfl, by decide +kernel, rfl, by decide +kernel, by decide +kernel⟩
abbrev N_Node_need_told : List Str := ["self", "row", "name"]
theorem sc_Node_need_told : FnScope N_Node_need_told ["self"] (defScope s_Node_need_told) := ⟨rfl, rfl, rfl, by decide +kernel, rfl, by decide +kernel, by decide +kernel⟩
abbrev N_Node_inputs : List Str := ["self"]
theorem sc_Node_inputs : FnScope N_Node_inputs ["self"] (defScope s_Node_inputs) := ⟨rfl, rfl, rfl, by decide +kernel, rfl, by decide +kernel, by decide +kernel⟩
abbrev N_Node_outs : List Str := ["self"]
theorem sc_Node_outs : FnScope N_Node_outs ["self"] (defScope s_Node_outs) := ⟨rfl, rfl, rfl, by decide +kernel, rfl, by decide +kernel, by decide +kernel⟩
abbrev N_Node_rows : List Str := ["self"]
theorem sc_Node_rows : FnScope N_Node_rows ["self"] (defScope s_Node_rows) := ⟨rfl, rfl, rfl, by decide +kernel, rfl, by decide +kernel, by decide +kernel⟩
abbrev N_Node_names : List Str := ["self"]
theorem sc_Node_names : FnScope N_Node_names ["self"] (defScope s_Node_names) := ⟨rfl, rfl, rfl, by decide +kernel, rfl, by decide +kernel, by decide +kernel⟩
abbrev N_Node_told : List Str := ["self", "rows", "row"]
theorem sc_Node_told : FnScope N_Node_told ["self"] (defScope s_Node_told) := ⟨rfl, rfl, rfl, by decide +kernel, rfl, by decide +kernel, by decide +kernel⟩
abbrev N_node_of : List Str := ["told", "thing", "found"]
theorem sc_node_of : FnScope N_node_of ["told"] (defScope s_node_of) := ⟨rfl, rfl, rfl, by decide +kernel, rfl, by decide +kernel, by decide +kernel⟩
abbrev N_same_node : List Str := ["one", "other"]
theorem sc_same_node : FnScope N_same_node ["one", "other"] (defScope s_same_node) := ⟨rfl, rfl, rfl, by decide +kernel, rfl, by decide +kernel, by decide +kernel⟩
abbrev N_need_calls : List Str := ["known", "node", "name", "row", "word", "outs", "called", "args"]
theorem sc_need_calls : FnScope N_need_calls ["known", "node"] (defScope s_need_calls) := ⟨rfl, rfl, rfl, by decide +kernel, rfl, by decide +kernel, by decide +kernel⟩
abbrev N_need_nodes : List Str := ["thing", "node", "known"]
theorem sc_need_nodes : FnScope N_need_nodes ["thing"] (defScope s_need_nodes) := ⟨rfl, rfl, rfl, by decide +kernel, rfl, by decide +kernel, by decide +kernel⟩
abbrev N_Program_init : List Str := ["self", "nodes", "one"]
theorem sc_Program_init : FnScope N_Program_init ["self", "nodes"] (defScope s_Program_init) := ⟨rfl, rfl, rfl, by decide +kernel, rfl, by decide +kernel, by decide +kernel⟩
abbrev N_Program_told : List Str := ["self", "one"]
theorem sc_Program_told : FnScope N_Program_told ["self"] (defScope s_Program_told) := ⟨rfl, rfl, rfl, by decide +kernel, rfl, by decide +kernel, by decide +kernel⟩
abbrev N_form_of : List Str := ["program", "found", "name", "inputs", "outs", "rows", "row"]
theorem sc_form_of : FnScope N_form_of ["program"] (defScope s_form_of) := ⟨rfl, rfl, rfl, by decide +kernel, rfl, by decide +kernel, by decide +kernel⟩
abbrev N_same_but_order : List Str := ["one", "other"]
theorem sc_same_but_order : FnScope N_same_but_order ["one", "other"] (defScope s_same_but_order) := ⟨rfl, rfl, rfl, by decide +kernel, rfl, by decide +kernel, by decide +kernel⟩
abbrev N_cell_at_l : List Str := ["_law_script", "_law_k"]
theorem sc_cell_at_l : FnScope N_cell_at_l ["_law_script", "_law_k"] (defScope s_cell_at_l) := ⟨rfl, rfl, rfl, by decide +kernel, rfl, by decide +kernel, by decide +kernel⟩
abbrev N_box_l : List Str := ["_law_cell"]
theorem sc_box_l : FnScope N_box_l ["_law_cell"] (defScope s_box_l) := ⟨rfl, rfl, rfl, by decide +kernel, rfl, by decide +kernel, by decide +kernel⟩
abbrev N_take_l : List Str := ["_law_box_here", "_law_many", "_law_digit", "_law_number"]
theorem sc_take_l : FnScope N_take_l ["_law_box_here", "_law_many"] (defScope s_take_l) := ⟨rfl, rfl, rfl, by decide +kernel, rfl, by decide +kernel, by decide +kernel⟩
abbrev N_names_l : List Str := ["_law_box_here", "_law_letters", "_law_size", "_law_stem", "_law_k", "_law_at", "_law_first"]
theorem sc_names_l : FnScope N_names_l ["_law_box_here"] (defScope s_names_l) := ⟨rfl, rfl, rfl, by decide +kernel, rfl, by decide +kernel, by decide +kernel⟩
abbrev N_rows_l : List Str := ["_law_box_here", "_law_names_here", "_law_a", "_law_b", "_law_c", "_law_d", "_law_x", "_law_y", "_law_z", "_law_w", "_law_v", "_law_p", "_law_q", "_law_some", "_law_firsts", "_law_k", "_law_rows_here", "_law_turn"]
theorem sc_rows_l : FnScope N_rows_l ["_law_box_here", "_law_names_here"] (defScope s_rows_l) := ⟨rfl, rfl, rfl, by decide +kernel, rfl, by decide +kernel, by decide +kernel⟩
abbrev N_inner_l : List Str := ["_law_names_here", "_law_a", "_law_b", "_law_p", "_law_q", "_law_rows_here"]
theorem sc_inner_l : FnScope N_inner_l ["_law_names_here"] (defScope s_inner_l) := ⟨rfl, rfl, rfl, by decide +kernel, rfl, by decide +kernel, by decide +kernel⟩
abbrev N_node_l : List Str := ["_law_names_here", "_law_rows_here"]
theorem sc_node_l : FnScope N_node_l ["_law_names_here", "_law_rows_here"] (defScope s_node_l) := ⟨rfl, rfl, rfl, by decide +kernel, rfl, by decide +kernel, by decide +kernel⟩
abbrev N_whole_l : List Str := ["_law_box_here", "_law_names_here", "_law_rows_here", "_law_sames", "_law_row", "_law_turn", "_law_node_here"]
theorem sc_whole_l : FnScope N_whole_l ["_law_box_here", "_law_names_here"] (defScope s_whole_l) := ⟨rfl, rfl, rfl, by decide +kernel, rfl, by decide +kernel, by decide +kernel⟩
abbrev N_value_put_l : List Str := ["_law_rows_here", "_law_found", "_law_at", "_law_row", "_law_value"]
theorem sc_value_put_l : FnScope N_value_put_l ["_law_rows_here"] (defScope s_value_put_l) := ⟨rfl, rfl, rfl, by decide +kernel, rfl, by decide +kernel, by decide +kernel⟩
abbrev N_other_l : List Str := ["_law_box_here", "_law_names_here", "_law_node_here", "_law_name", "_law_inputs", "_law_outs", "_law_rows_here", "_law_way", "_law_at", "_law_to", "_law_found"]
theorem sc_other_l : FnScope N_other_l ["_law_box_here", "_law_names_here", "_law_node_here"] (defScope s_other_l) := ⟨rfl, rfl, rfl, by decide +kernel, rfl, by decide +kernel, by decide +kernel⟩
abbrev N_sames_put_l : List Str := ["_law_names_here", "_law_node_here", "_law_one", "_law_other_here", "_law_rows_here", "_law_row"]
theorem sc_sames_put_l : FnScope N_sames_put_l ["_law_names_here", "_law_node_here"] (defScope s_sames_put_l) := ⟨rfl, rfl, rfl, by decide +kernel, rfl, by decide +kernel, by decide +kernel⟩
abbrev N_right_l : List Str := ["_law_names_here", "_law_one", "_law_other_here", "_law_order", "_law_first", "_law_second", "_law_due", "_law_found", "_law_inner_here", "_law_left", "_law_right_here"]
theorem sc_right_l : FnScope N_right_l ["_law_names_here", "_law_one", "_law_other_here", "_law_order"] (defScope s_right_l) := ⟨rfl, rfl, rfl, by decide +kernel, rfl, by decide +kernel, by decide +kernel⟩
abbrev N_law : List Str := ["_law_script", "_law_k", "_law_box_here", "_law_names_here", "_law_one", "_law_turn", "_law_other_here", "_law_turned_alone", "_law_pair"]
theorem sc_law : FnScope N_law ["_law_script"] (defScope s_law) := ⟨rfl, rfl, rfl, by decide +kernel, rfl, by decide +kernel, by decide +kernel⟩
section
variable {P : Program} {w : World} {K : PySem.W.Frag} {mg : Str → Option Value} {base : Heap} {Z : Adr}
def d_NoName_init : He.DefD := ⟨("NoName", some "__init__"), "__init__", "NoName.__init__", defArgs s_NoName_init, defBody s_NoName_init, defScope s_NoName_init, [], []⟩
def d_NoArgs_init : He.DefD := ⟨("NoArgs", some "__init__"), "__init__", "NoArgs.__init__", defArgs s_NoArgs_init, defBody s_NoArgs_init, defScope s_NoArgs_init, [], []⟩
def d_NoCall_init : He.DefD := ⟨("NoCall", some "__init__"), "__init__", "NoCall.__init__", defArgs s_NoCall_init, defBody s_NoCall_init, defScope s_NoCall_init, [], []⟩
def d_is_whole : He.DefD := ⟨("is_whole", none), "is_whole", "is_whole", defArgs s_is_whole, defBody s_is_whole, defScope s_is_whole, [], []⟩
def d_is_within : He.DefD := ⟨("is_within", none), "is_within", "is_within", defArgs s_is_within, defBody s_is_within, defScope s_is_within, [], []⟩
def d_is_name : He.DefD := ⟨("is_name", none), "is_name", "is_name", defArgs s_is_name, defBody s_is_name, defScope s_is_name, [], []⟩
def d_is_pointed : He.DefD := ⟨("is_pointed", none), "is_pointed", "is_pointed", defArgs s_is_pointed, defBody s_is_pointed, defScope s_is_pointed, [], []⟩
def d_is_value : He.DefD := ⟨("is_value", none), "is_value", "is_value", defArgs s_is_value, defBody s_is_value, defScope s_is_value, [], []⟩
def d_ops_told : He.DefD := ⟨("ops_told", none), "ops_told", "ops_told", defArgs s_ops_told, defBody s_ops_told, defScope s_ops_told, [], []⟩
def d_Term_parts : He.DefD := ⟨("Term", some "parts"), "parts", "Term.parts", defArgs s_Term_parts, defBody s_Term_parts, defScope s_Term_parts, [], []⟩
def d_Term_names : He.DefD := ⟨("Term", some "names"), "names", "Term.names", defArgs s_Term_names, defBody s_Term_names, defScope s_Term_names, [], []⟩
def d_Term_levels : He.DefD := ⟨("Term", some "levels"), "levels", "Term.levels", defArgs s_Term_levels, defBody s_Term_levels, defScope s_Term_levels, [], []⟩
def d_need_term : He.DefD := ⟨("need_term", none), "need_term", "need_term", defArgs s_need_term, defBody s_need_term, defScope s_need_term, [], []⟩
def d_Name_init : He.DefD := ⟨("Name", some "__init__"), "__init__", "Name.__init__", defArgs s_Name_init, defBody s_Name_init, defScope s_Name_init, [], []⟩
def d_Name_names : He.DefD := ⟨("Name", some "names"), "names", "Name.names", defArgs s_Name_names, defBody s_Name_names, defScope s_Name_names, [], []⟩
def d_Name_told : He.DefD := ⟨("Name", some "told"), "told", "Name.told", defArgs s_Name_told, defBody s_Name_told, defScope s_Name_told, [], []⟩
def d_Value_init : He.DefD := ⟨("Value", some "__init__"), "__init__", "Value.__init__", defArgs s_Value_init, defBody s_Value_init, defScope s_Value_init, [], []⟩
def d_Value_told : He.DefD := ⟨("Value", some "told"), "told", "Value.told", defArgs s_Value_told, defBody s_Value_told, defScope s_Value_told, [], []⟩
def d_Two_init : He.DefD := ⟨("Two", some "__init__"), "__init__", "Two.__init__", defArgs s_Two_init, defBody s_Two_init, defScope s_Two_init, [], []⟩
def d_Two_parts : He.DefD := ⟨("Two", some "parts"), "parts", "Two.parts", defArgs s_Two_parts, defBody s_Two_parts, defScope s_Two_parts, [], []⟩
def d_Two_told : He.DefD := ⟨("Two", some "told"), "told", "Two.told", defArgs s_Two_told, defBody s_Two_told, defScope s_Two_told, [], []⟩
def d_Not_init : He.DefD := ⟨("Not", some "__init__"), "__init__", "Not.__init__", defArgs s_Not_init, defBody s_Not_init, defScope s_Not_init, [], []⟩
def d_Not_parts : He.DefD := ⟨("Not", some "parts"), "parts", "Not.parts", defArgs s_Not_parts, defBody s_Not_parts, defScope s_Not_parts, [], []⟩
def d_Not_told : He.DefD := ⟨("Not", some "told"), "told", "Not.told", defArgs s_Not_told, defBody s_Not_told, defScope s_Not_told, [], []⟩
def d_Pick_init : He.DefD := ⟨("Pick", some "__init__"), "__init__", "Pick.__init__", defArgs s_Pick_init, defBody s_Pick_init, defScope s_Pick_init, [], []⟩
def d_Pick_parts : He.DefD := ⟨("Pick", some "parts"), "parts", "Pick.parts", defArgs s_Pick_parts, defBody s_Pick_parts, defScope s_Pick_parts, [], []⟩
def d_Pick_told : He.DefD := ⟨("Pick", some "told"), "told", "Pick.told", defArgs s_Pick_told, defBody s_Pick_told, defScope s_Pick_told, [], []⟩
def d_simple_of : He.DefD := ⟨("simple_of", none), "simple_of", "simple_of", defArgs s_simple_of, defBody s_simple_of, defScope s_simple_of, [], []⟩
def d_made_of_told : He.DefD := ⟨("made_of_told", none), "made_of_told", "made_of_told", defArgs s_made_of_told, defBody s_made_of_told, defScope s_made_of_told, [], []⟩
def d_term_of : He.DefD := ⟨("term_of", none), "term_of", "term_of", defArgs s_term_of, defBody s_term_of, defScope s_term_of, [], []⟩
def d_each_once : He.DefD := ⟨("each_once", none), "each_once", "each_once", defArgs s_each_once, defBody s_each_once, defScope s_each_once, [], []⟩
def d_Equation_init : He.DefD := ⟨("Equation", some "__init__"), "__init__", "Equation.__init__", defArgs s_Equation_init, defBody s_Equation_init, defScope s_Equation_init, [], []⟩
def d_Equation_told : He.DefD := ⟨("Equation", some "told"), "told", "Equation.told", defArgs s_Equation_told, defBody s_Equation_told, defScope s_Equation_told, [], []⟩
def d_Equation_tells : He.DefD := ⟨("Equation", some "tells"), "tells", "Equation.tells", defArgs s_Equation_tells, defBody s_Equation_tells, defScope s_Equation_tells, [], []⟩
def d_Equation_names : He.DefD := ⟨("Equation", some "names"), "names", "Equation.names", defArgs s_Equation_names, defBody s_Equation_names, defScope s_Equation_names, [], []⟩
def d_Equation_term : He.DefD := ⟨("Equation", some "term"), "term", "Equation.term", defArgs s_Equation_term, defBody s_Equation_term, defScope s_Equation_term, [], []⟩
def d_Equation_is_call : He.DefD := ⟨("Equation", some "is_call"), "is_call", "Equation.is_call", defArgs s_Equation_is_call, defBody s_Equation_is_call, defScope s_Equation_is_call, [], []⟩
def d_Plain_init : He.DefD := ⟨("Plain", some "__init__"), "__init__", "Plain.__init__", defArgs s_Plain_init, defBody s_Plain_init, defScope s_Plain_init, [], []⟩
def d_Plain_names : He.DefD := ⟨("Plain", some "names"), "names", "Plain.names", defArgs s_Plain_names, defBody s_Plain_names, defScope s_Plain_names, [], []⟩
def d_Plain_term : He.DefD := ⟨("Plain", some "term"), "term", "Plain.term", defArgs s_Plain_term, defBody s_Plain_term, defScope s_Plain_term, [], []⟩
def d_When_names : He.DefD := ⟨("When", some "names"), "names", "When.names", defArgs s_When_names, defBody s_When_names, defScope s_When_names, [], []⟩
def d_Same_tells : He.DefD := ⟨("Same", some "tells"), "tells", "Same.tells", defArgs s_Same_tells, defBody s_Same_tells, defScope s_Same_tells, [], []⟩
def d_Same_names : He.DefD := ⟨("Same", some "names"), "names", "Same.names", defArgs s_Same_names, defBody s_Same_names, defScope s_Same_names, [], []⟩
def d_Call_tells : He.DefD := ⟨("Call", some "tells"), "tells", "Call.tells", defArgs s_Call_tells, defBody s_Call_tells, defScope s_Call_tells, [], []⟩
def d_Call_names : He.DefD := ⟨("Call", some "names"), "names", "Call.names", defArgs s_Call_names, defBody s_Call_names, defScope s_Call_names, [], []⟩
def d_Call_is_call : He.DefD := ⟨("Call", some "is_call"), "is_call", "Call.is_call", defArgs s_Call_is_call, defBody s_Call_is_call, defScope s_Call_is_call, [], []⟩
def d_are_pointed : He.DefD := ⟨("are_pointed", none), "are_pointed", "are_pointed", defArgs s_are_pointed, defBody s_are_pointed, defScope s_are_pointed, [], []⟩
def d_is_valued : He.DefD := ⟨("is_valued", none), "is_valued", "is_valued", defArgs s_is_valued, defBody s_is_valued, defScope s_is_valued, [], []⟩
def d_plain_of : He.DefD := ⟨("plain_of", none), "plain_of", "plain_of", defArgs s_plain_of, defBody s_plain_of, defScope s_plain_of, [], []⟩
def d_valued_of : He.DefD := ⟨("valued_of", none), "valued_of", "valued_of", defArgs s_valued_of, defBody s_valued_of, defScope s_valued_of, [], []⟩
def d_call_of : He.DefD := ⟨("call_of", none), "call_of", "call_of", defArgs s_call_of, defBody s_call_of, defScope s_call_of, [], []⟩
def d_made_of : He.DefD := ⟨("made_of", none), "made_of", "made_of", defArgs s_made_of, defBody s_made_of, defScope s_made_of, [], []⟩
def d_equation_of : He.DefD := ⟨("equation_of", none), "equation_of", "equation_of", defArgs s_equation_of, defBody s_equation_of, defScope s_equation_of, [], []⟩
def d_need_names : He.DefD := ⟨("need_names", none), "need_names", "need_names", defArgs s_need_names, defBody s_need_names, defScope s_need_names, [], []⟩
def d_equations_of : He.DefD := ⟨("equations_of", none), "equations_of", "equations_of", defArgs s_equations_of, defBody s_equations_of, defScope s_equations_of, [], []⟩
def d_Node_init : He.DefD := ⟨("Node", some "__init__"), "__init__", "Node.__init__", defArgs s_Node_init, defBody s_Node_init, defScope s_Node_init, [], []⟩
def d_Node_take_tellers : He.DefD := ⟨("Node", some "take_tellers"), "take_tellers", "Node.take_tellers", defArgs s_Node_take_tellers, defBody s_Node_take_tellers, defScope s_Node_take_tellers, [], []⟩
def d_Node_need_told : He.DefD := ⟨("Node", some "need_told"), "need_told", "Node.need_told", defArgs s_Node_need_told, defBody s_Node_need_told, defScope s_Node_need_told, [], []⟩
def d_Node_inputs : He.DefD := ⟨("Node", some "inputs"), "inputs", "Node.inputs", defArgs s_Node_inputs, defBody s_Node_inputs, defScope s_Node_inputs, [], []⟩
def d_Node_outs : He.DefD := ⟨("Node", some "outs"), "outs", "Node.outs", defArgs s_Node_outs, defBody s_Node_outs, defScope s_Node_outs, [], []⟩
def d_Node_rows : He.DefD := ⟨("Node", some "rows"), "rows", "Node.rows", defArgs s_Node_rows, defBody s_Node_rows, defScope s_Node_rows, [], []⟩
def d_Node_names : He.DefD := ⟨("Node", some "names"), "names", "Node.names", defArgs s_Node_names, defBody s_Node_names, defScope s_Node_names, [], []⟩
def d_Node_told : He.DefD := ⟨("Node", some "told"), "told", "Node.told", defArgs s_Node_told, defBody s_Node_told, defScope s_Node_told, [], []⟩
def d_node_of : He.DefD := ⟨("node_of", none), "node_of", "node_of", defArgs s_node_of, defBody s_node_of, defScope s_node_of, [], []⟩
def d_same_node : He.DefD := ⟨("same_node", none), "same_node", "same_node", defArgs s_same_node, defBody s_same_node, defScope s_same_node, [], []⟩
def d_need_calls : He.DefD := ⟨("need_calls", none), "need_calls", "need_calls", defArgs s_need_calls, defBody s_need_calls, defScope s_need_calls, [], []⟩
def d_need_nodes : He.DefD := ⟨("need_nodes", none), "need_nodes", "need_nodes", defArgs s_need_nodes, defBody s_need_nodes, defScope s_need_nodes, [], []⟩
def d_Program_init : He.DefD := ⟨("Program", some "__init__"), "__init__", "Program.__init__", defArgs s_Program_init, defBody s_Program_init, defScope s_Program_init, [], []⟩
def d_Program_told : He.DefD := ⟨("Program", some "told"), "told", "Program.told", defArgs s_Program_told, defBody s_Program_told, defScope s_Program_told, [], []⟩
def d_form_of : He.DefD := ⟨("form_of", none), "form_of", "form_of", defArgs s_form_of, defBody s_form_of, defScope s_form_of, [], []⟩
def d_same_but_order : He.DefD := ⟨("same_but_order", none), "same_but_order", "same_but_order", defArgs s_same_but_order, defBody s_same_but_order, defScope s_same_but_order, [], []⟩
def d_cell_at_l : He.DefD := ⟨("_law_cell_at", none), "_law_cell_at", "_law_cell_at", defArgs s_cell_at_l, defBody s_cell_at_l, defScope s_cell_at_l, [], []⟩
def d_box_l : He.DefD := ⟨("_law_box", none), "_law_box", "_law_box", defArgs s_box_l, defBody s_box_l, defScope s_box_l, [], []⟩
def d_take_l : He.DefD := ⟨("_law_take", none), "_law_take", "_law_take", defArgs s_take_l, defBody s_take_l, defScope s_take_l, [], []⟩
def d_names_l : He.DefD := ⟨("_law_names", none), "_law_names", "_law_names", defArgs s_names_l, defBody s_names_l, defScope s_names_l, [], []⟩
def d_rows_l : He.DefD := ⟨("_law_rows", none), "_law_rows", "_law_rows", defArgs s_rows_l, defBody s_rows_l, defScope s_rows_l, [], []⟩
def d_inner_l : He.DefD := ⟨("_law_inner", none), "_law_inner", "_law_inner", defArgs s_inner_l, defBody s_inner_l, defScope s_inner_l, [], []⟩
def d_node_l : He.DefD := ⟨("_law_node", none), "_law_node", "_law_node", defArgs s_node_l, defBody s_node_l, defScope s_node_l, [], []⟩
def d_whole_l : He.DefD := ⟨("_law_whole", none), "_law_whole", "_law_whole", defArgs s_whole_l, defBody s_whole_l, defScope s_whole_l, [], []⟩
def d_value_put_l : He.DefD := ⟨("_law_value_put", none), "_law_value_put", "_law_value_put", defArgs s_value_put_l, defBody s_value_put_l, defScope s_value_put_l, [], []⟩
def d_other_l : He.DefD := ⟨("_law_other", none), "_law_other", "_law_other", defArgs s_other_l, defBody s_other_l, defScope s_other_l, [], []⟩
def d_sames_put_l : He.DefD := ⟨("_law_sames_put", none), "_law_sames_put", "_law_sames_put", defArgs s_sames_put_l, defBody s_sames_put_l, defScope s_sames_put_l, [], []⟩
def d_right_l : He.DefD := ⟨("_law_right", none), "_law_right", "_law_right", defArgs s_right_l, defBody s_right_l, defScope s_right_l, [], []⟩
def d_law : He.DefD := ⟨("law", none), "law", "law", defArgs s_law, defBody s_law, defScope s_law, [], []⟩
def fnL0 : List He.DefD := [d_NoName_init, d_NoArgs_init, d_NoCall_init, d_is_whole, d_is_within, d_is_name, d_is_pointed, d_is_value, d_ops_told, d_Term_parts, d_Term_names, d_Term_levels, d_need_term, d_Name_init, d_Name_names, d_Name_told, d_Value_init, d_Value_told, d_Two_init, d_Two_parts, d_Two_told, d_Not_init, d_Not_parts, d_Not_told, d_Pick_init, d_Pick_parts, d_Pick_told, d_simple_of, d_made_of_told, d_term_of]
def fnL1 : List He.DefD := [d_each_once, d_Equation_init, d_Equation_told, d_Equation_tells, d_Equation_names, d_Equation_term, d_Equation_is_call, d_Plain_init, d_Plain_names, d_Plain_term, d_When_names, d_Same_tells, d_Same_names, d_Call_tells, d_Call_names, d_Call_is_call, d_are_pointed, d_is_valued, d_plain_of, d_valued_of, d_call_of, d_made_of, d_equation_of, d_need_names, d_equations_of, d_Node_init, d_Node_take_tellers, d_Node_need_told, d_Node_inputs, d_Node_outs]
def fnL2 : List He.DefD := [d_Node_rows, d_Node_names, d_Node_told, d_node_of, d_same_node, d_need_calls, d_need_nodes, d_Program_init, d_Program_told, d_form_of, d_same_but_order, d_cell_at_l, d_box_l, d_take_l, d_names_l, d_rows_l, d_inner_l, d_node_l, d_whole_l, d_value_put_l, d_other_l, d_sames_put_l, d_right_l, d_law]
def fnL : List He.DefD := fnL0 ++ (fnL1 ++ (fnL2))
def faL0 : List He.Fa := [.glo "is_whole", .glo "is_within", .glo "is_name", .glo "is_pointed", .glo "is_value", .glo "ops_told", .glo "need_term", .glo "simple_of", .glo "made_of_told", .glo "term_of", .glo "each_once", .glo "are_pointed", .glo "is_valued", .glo "plain_of", .glo "valued_of", .glo "call_of", .glo "made_of", .glo "equation_of", .glo "need_names", .glo "equations_of", .glo "node_of", .glo "same_node", .glo "need_calls", .glo "need_nodes", .glo "form_of", .glo "same_but_order", .glo "_law_cell_at", .glo "_law_box", .glo "_law_take", .glo "_law_names"]
def faL1 : List He.Fa := [.glo "_law_rows", .glo "_law_inner", .glo "_law_node", .glo "_law_whole", .glo "_law_value_put", .glo "_law_other", .glo "_law_sames_put", .glo "_law_right", .glo "law", .glo "BeatError", .glo "NoName", .glo "NoArgs", .glo "NoCall", .glo "Term", .glo "Name", .glo "Value", .glo "Two", .glo "Not", .glo "Pick", .glo "Equation", .glo "Plain", .glo "Before", .glo "When", .glo "Hold", .glo "Like", .glo "Same", .glo "Call", .glo "Node", .glo "Program", .free "all"]
def faL2 : List He.Fa := [.free "bool", .free "enumerate", .free "int", .free "isinstance", .free "len", .free "list", .free "max", .free "min", .free "range", .free "repr", .free "sorted", .free "str", .free "tuple", .str "LETTERS" "abcdefghijklmnopqrstuvwxyz", .int "LONGEST" (8), .int "MOST" (1000000000), .int "MOST_LEVELS" (5), .int "MOST_SIGNS" (80), .glo "OPS", .glo "OWN", .int "TOLD_THINGS" (4)]
def faL : List He.Fa := faL0 ++ (faL1 ++ (faL2))
def exs0 (K : PySem.W.Frag) : List Bool := [PySem.W.isFn K (.ref (He.fAd K ("Term", some "parts"))), PySem.W.isFn K (.ref (He.fAd K ("Term", some "names"))), PySem.W.isFn K (.ref (He.fAd K ("Term", some "levels"))), PySem.W.isFn K (.ref (He.fAd K ("Name", some "__init__"))), PySem.W.isFn K (.ref (He.fAd K ("Name", some "names"))), PySem.W.isFn K (.ref (He.fAd K ("Name", some "told"))), PySem.W.isFn K (.ref (He.fAd K ("Value", some "__init__"))), PySem.W.isFn K (.ref (He.fAd K ("Value", some "told"))), PySem.W.isFn K (.ref (He.fAd K ("Two", some "__init__"))), PySem.W.isFn K (.ref (He.fAd K ("Two", some "parts"))), PySem.W.isFn K (.ref (He.fAd K ("Two", some "told"))), PySem.W.isFn K (.ref (He.fAd K ("Not", some "__init__"))), PySem.W.isFn K (.ref (He.fAd K ("Not", some "parts"))), PySem.W.isFn K (.ref (He.fAd K ("Not", some "told"))), PySem.W.isFn K (.ref (He.fAd K ("Pick", some "__init__"))), PySem.W.isFn K (.ref (He.fAd K ("Pick", some "parts"))), PySem.W.isFn K (.ref (He.fAd K ("Pick", some "told"))), PySem.W.isFn K (.ref (He.fAd K ("Equation", some "__init__"))), PySem.W.isFn K (.ref (He.fAd K ("Equation", some "told"))), PySem.W.isFn K (.ref (He.fAd K ("Equation", some "tells")))]
def exs1 (K : PySem.W.Frag) : List Bool := [PySem.W.isFn K (.ref (He.fAd K ("Equation", some "names"))), PySem.W.isFn K (.ref (He.fAd K ("Equation", some "term"))), PySem.W.isFn K (.ref (He.fAd K ("Equation", some "is_call"))), PySem.W.isFn K (.ref (He.fAd K ("Plain", some "__init__"))), PySem.W.isFn K (.ref (He.fAd K ("Plain", some "names"))), PySem.W.isFn K (.ref (He.fAd K ("Plain", some "term"))), PySem.W.isFn K (.ref (He.fAd K ("When", some "names"))), PySem.W.isFn K (.ref (He.fAd K ("Same", some "tells"))), PySem.W.isFn K (.ref (He.fAd K ("Same", some "names"))), PySem.W.isFn K (.ref (He.fAd K ("Call", some "tells"))), PySem.W.isFn K (.ref (He.fAd K ("Call", some "names"))), PySem.W.isFn K (.ref (He.fAd K ("Call", some "is_call"))), PySem.W.isFn K (.ref (He.fAd K ("Node", some "__init__"))), PySem.W.isFn K (.ref (He.fAd K ("Node", some "take_tellers"))), PySem.W.isFn K (.ref (He.fAd K ("Node", some "need_told"))), PySem.W.isFn K (.ref (He.fAd K ("Node", some "inputs"))), PySem.W.isFn K (.ref (He.fAd K ("Node", some "outs"))), PySem.W.isFn K (.ref (He.fAd K ("Node", some "rows"))), PySem.W.isFn K (.ref (He.fAd K ("Node", some "names"))), PySem.W.isFn K (.ref (He.fAd K ("Node", some "told")))]
def exs2 (K : PySem.W.Frag) : List Bool := [PySem.W.isFn K (.ref (He.fAd K ("Program", some "__init__"))), PySem.W.isFn K (.ref (He.fAd K ("Program", some "told"))), baseB K (He.ga K "BeatError"), PySem.W.excIn K (He.ga K "BeatError") [.type "ValueError", .type "Exception", .type "BaseException", .type "object"] "ValueError.__new__", PySem.W.keepIn K (.ref (He.ga K "BeatError")), icB K (He.ga K "BeatError"), exB K (He.ga K "NoName") ["found"], decide (PySem.W.findIn K (.ref (He.ga K "NoName")) "__init__" = some (some (.ref (He.fAd K ("NoName", some "__init__"))))), decide (PySem.W.typeIn K (.ref (He.fAd K ("NoName", some "__init__"))) = some (.type "function")), exB K (He.ga K "NoArgs") ["name", "many"], decide (PySem.W.findIn K (.ref (He.ga K "NoArgs")) "__init__" = some (some (.ref (He.fAd K ("NoArgs", some "__init__"))))), decide (PySem.W.typeIn K (.ref (He.fAd K ("NoArgs", some "__init__"))) = some (.type "function")), exB K (He.ga K "NoCall") ["name"], decide (PySem.W.findIn K (.ref (He.ga K "NoCall")) "__init__" = some (some (.ref (He.fAd K ("NoCall", some "__init__"))))), decide (PySem.W.typeIn K (.ref (He.fAd K ("NoCall", some "__init__"))) = some (.type "function")), tcB K (He.ga K "Name") ["name"], decide (PySem.W.findIn K (.ref (He.ga K "Name")) "__init__" = some (some (.ref (He.fAd K ("Name", some "__init__"))))), decide (PySem.W.findIn K (.ref (He.ga K "Name")) "parts" = some (some (.ref (He.fAd K ("Term", some "parts"))))), decide (PySem.W.findIn K (.ref (He.ga K "Name")) "names" = some (some (.ref (He.fAd K ("Name", some "names"))))), decide (PySem.W.findIn K (.ref (He.ga K "Name")) "levels" = some (some (.ref (He.fAd K ("Term", some "levels")))))]
def exs3 (K : PySem.W.Frag) : List Bool := [decide (PySem.W.findIn K (.ref (He.ga K "Name")) "told" = some (some (.ref (He.fAd K ("Name", some "told"))))), tcB K (He.ga K "Value") ["amount"], decide (PySem.W.findIn K (.ref (He.ga K "Value")) "__init__" = some (some (.ref (He.fAd K ("Value", some "__init__"))))), decide (PySem.W.findIn K (.ref (He.ga K "Value")) "parts" = some (some (.ref (He.fAd K ("Term", some "parts"))))), decide (PySem.W.findIn K (.ref (He.ga K "Value")) "names" = some (some (.ref (He.fAd K ("Term", some "names"))))), decide (PySem.W.findIn K (.ref (He.ga K "Value")) "levels" = some (some (.ref (He.fAd K ("Term", some "levels"))))), decide (PySem.W.findIn K (.ref (He.ga K "Value")) "told" = some (some (.ref (He.fAd K ("Value", some "told"))))), tcB K (He.ga K "Two") ["op", "one", "second"], decide (PySem.W.findIn K (.ref (He.ga K "Two")) "__init__" = some (some (.ref (He.fAd K ("Two", some "__init__"))))), decide (PySem.W.findIn K (.ref (He.ga K "Two")) "parts" = some (some (.ref (He.fAd K ("Two", some "parts"))))), decide (PySem.W.findIn K (.ref (He.ga K "Two")) "names" = some (some (.ref (He.fAd K ("Term", some "names"))))), decide (PySem.W.findIn K (.ref (He.ga K "Two")) "levels" = some (some (.ref (He.fAd K ("Term", some "levels"))))), decide (PySem.W.findIn K (.ref (He.ga K "Two")) "told" = some (some (.ref (He.fAd K ("Two", some "told"))))), tcB K (He.ga K "Not") ["one"], decide (PySem.W.findIn K (.ref (He.ga K "Not")) "__init__" = some (some (.ref (He.fAd K ("Not", some "__init__"))))), decide (PySem.W.findIn K (.ref (He.ga K "Not")) "parts" = some (some (.ref (He.fAd K ("Not", some "parts"))))), decide (PySem.W.findIn K (.ref (He.ga K "Not")) "names" = some (some (.ref (He.fAd K ("Term", some "names"))))), decide (PySem.W.findIn K (.ref (He.ga K "Not")) "levels" = some (some (.ref (He.fAd K ("Term", some "levels"))))), decide (PySem.W.findIn K (.ref (He.ga K "Not")) "told" = some (some (.ref (He.fAd K ("Not", some "told"))))), tcB K (He.ga K "Pick") ["by", "one", "second"]]
def exs4 (K : PySem.W.Frag) : List Bool := [decide (PySem.W.findIn K (.ref (He.ga K "Pick")) "__init__" = some (some (.ref (He.fAd K ("Pick", some "__init__"))))), decide (PySem.W.findIn K (.ref (He.ga K "Pick")) "parts" = some (some (.ref (He.fAd K ("Pick", some "parts"))))), decide (PySem.W.findIn K (.ref (He.ga K "Pick")) "names" = some (some (.ref (He.fAd K ("Term", some "names"))))), decide (PySem.W.findIn K (.ref (He.ga K "Pick")) "levels" = some (some (.ref (He.fAd K ("Term", some "levels"))))), decide (PySem.W.findIn K (.ref (He.ga K "Pick")) "told" = some (some (.ref (He.fAd K ("Pick", some "told"))))), tcB K (He.ga K "Equation") ["told_row"], decide (PySem.W.findIn K (.ref (He.ga K "Equation")) "__init__" = some (some (.ref (He.fAd K ("Equation", some "__init__"))))), decide (PySem.W.findIn K (.ref (He.ga K "Equation")) "names" = some (some (.ref (He.fAd K ("Equation", some "names"))))), decide (PySem.W.findIn K (.ref (He.ga K "Equation")) "told" = some (some (.ref (He.fAd K ("Equation", some "told"))))), decide (PySem.W.findIn K (.ref (He.ga K "Equation")) "tells" = some (some (.ref (He.fAd K ("Equation", some "tells"))))), decide (PySem.W.findIn K (.ref (He.ga K "Equation")) "term" = some (some (.ref (He.fAd K ("Equation", some "term"))))), decide (PySem.W.findIn K (.ref (He.ga K "Equation")) "is_call" = some (some (.ref (He.fAd K ("Equation", some "is_call"))))), tcB K (He.ga K "Plain") ["told_row", "kept_term"], decide (PySem.W.findIn K (.ref (He.ga K "Plain")) "__init__" = some (some (.ref (He.fAd K ("Plain", some "__init__"))))), decide (PySem.W.findIn K (.ref (He.ga K "Plain")) "names" = some (some (.ref (He.fAd K ("Plain", some "names"))))), decide (PySem.W.findIn K (.ref (He.ga K "Plain")) "told" = some (some (.ref (He.fAd K ("Equation", some "told"))))), decide (PySem.W.findIn K (.ref (He.ga K "Plain")) "tells" = some (some (.ref (He.fAd K ("Equation", some "tells"))))), decide (PySem.W.findIn K (.ref (He.ga K "Plain")) "term" = some (some (.ref (He.fAd K ("Plain", some "term"))))), decide (PySem.W.findIn K (.ref (He.ga K "Plain")) "is_call" = some (some (.ref (He.fAd K ("Equation", some "is_call"))))), tcB K (He.ga K "Before") ["told_row"]]
def exs5 (K : PySem.W.Frag) : List Bool := [decide (PySem.W.findIn K (.ref (He.ga K "Before")) "__init__" = some (some (.ref (He.fAd K ("Equation", some "__init__"))))), decide (PySem.W.findIn K (.ref (He.ga K "Before")) "names" = some (some (.ref (He.fAd K ("Equation", some "names"))))), decide (PySem.W.findIn K (.ref (He.ga K "Before")) "told" = some (some (.ref (He.fAd K ("Equation", some "told"))))), decide (PySem.W.findIn K (.ref (He.ga K "Before")) "tells" = some (some (.ref (He.fAd K ("Equation", some "tells"))))), decide (PySem.W.findIn K (.ref (He.ga K "Before")) "term" = some (some (.ref (He.fAd K ("Equation", some "term"))))), decide (PySem.W.findIn K (.ref (He.ga K "Before")) "is_call" = some (some (.ref (He.fAd K ("Equation", some "is_call"))))), tcB K (He.ga K "When") ["told_row"], decide (PySem.W.findIn K (.ref (He.ga K "When")) "__init__" = some (some (.ref (He.fAd K ("Equation", some "__init__"))))), decide (PySem.W.findIn K (.ref (He.ga K "When")) "names" = some (some (.ref (He.fAd K ("When", some "names"))))), decide (PySem.W.findIn K (.ref (He.ga K "When")) "told" = some (some (.ref (He.fAd K ("Equation", some "told"))))), decide (PySem.W.findIn K (.ref (He.ga K "When")) "tells" = some (some (.ref (He.fAd K ("Equation", some "tells"))))), decide (PySem.W.findIn K (.ref (He.ga K "When")) "term" = some (some (.ref (He.fAd K ("Equation", some "term"))))), decide (PySem.W.findIn K (.ref (He.ga K "When")) "is_call" = some (some (.ref (He.fAd K ("Equation", some "is_call"))))), tcB K (He.ga K "Hold") ["told_row"], decide (PySem.W.findIn K (.ref (He.ga K "Hold")) "__init__" = some (some (.ref (He.fAd K ("Equation", some "__init__"))))), decide (PySem.W.findIn K (.ref (He.ga K "Hold")) "names" = some (some (.ref (He.fAd K ("Equation", some "names"))))), decide (PySem.W.findIn K (.ref (He.ga K "Hold")) "told" = some (some (.ref (He.fAd K ("Equation", some "told"))))), decide (PySem.W.findIn K (.ref (He.ga K "Hold")) "tells" = some (some (.ref (He.fAd K ("Equation", some "tells"))))), decide (PySem.W.findIn K (.ref (He.ga K "Hold")) "term" = some (some (.ref (He.fAd K ("Equation", some "term"))))), decide (PySem.W.findIn K (.ref (He.ga K "Hold")) "is_call" = some (some (.ref (He.fAd K ("Equation", some "is_call")))))]
def exs6 (K : PySem.W.Frag) : List Bool := [tcB K (He.ga K "Like") ["told_row"], decide (PySem.W.findIn K (.ref (He.ga K "Like")) "__init__" = some (some (.ref (He.fAd K ("Equation", some "__init__"))))), decide (PySem.W.findIn K (.ref (He.ga K "Like")) "names" = some (some (.ref (He.fAd K ("Equation", some "names"))))), decide (PySem.W.findIn K (.ref (He.ga K "Like")) "told" = some (some (.ref (He.fAd K ("Equation", some "told"))))), decide (PySem.W.findIn K (.ref (He.ga K "Like")) "tells" = some (some (.ref (He.fAd K ("Equation", some "tells"))))), decide (PySem.W.findIn K (.ref (He.ga K "Like")) "term" = some (some (.ref (He.fAd K ("Equation", some "term"))))), decide (PySem.W.findIn K (.ref (He.ga K "Like")) "is_call" = some (some (.ref (He.fAd K ("Equation", some "is_call"))))), tcB K (He.ga K "Same") ["told_row"], decide (PySem.W.findIn K (.ref (He.ga K "Same")) "__init__" = some (some (.ref (He.fAd K ("Equation", some "__init__"))))), decide (PySem.W.findIn K (.ref (He.ga K "Same")) "names" = some (some (.ref (He.fAd K ("Same", some "names"))))), decide (PySem.W.findIn K (.ref (He.ga K "Same")) "told" = some (some (.ref (He.fAd K ("Equation", some "told"))))), decide (PySem.W.findIn K (.ref (He.ga K "Same")) "tells" = some (some (.ref (He.fAd K ("Same", some "tells"))))), decide (PySem.W.findIn K (.ref (He.ga K "Same")) "term" = some (some (.ref (He.fAd K ("Equation", some "term"))))), decide (PySem.W.findIn K (.ref (He.ga K "Same")) "is_call" = some (some (.ref (He.fAd K ("Equation", some "is_call"))))), tcB K (He.ga K "Call") ["told_row"], decide (PySem.W.findIn K (.ref (He.ga K "Call")) "__init__" = some (some (.ref (He.fAd K ("Equation", some "__init__"))))), decide (PySem.W.findIn K (.ref (He.ga K "Call")) "names" = some (some (.ref (He.fAd K ("Call", some "names"))))), decide (PySem.W.findIn K (.ref (He.ga K "Call")) "told" = some (some (.ref (He.fAd K ("Equation", some "told"))))), decide (PySem.W.findIn K (.ref (He.ga K "Call")) "tells" = some (some (.ref (He.fAd K ("Call", some "tells"))))), decide (PySem.W.findIn K (.ref (He.ga K "Call")) "term" = some (some (.ref (He.fAd K ("Equation", some "term")))))]
def exs7 (K : PySem.W.Frag) : List Bool := [decide (PySem.W.findIn K (.ref (He.ga K "Call")) "is_call" = some (some (.ref (He.fAd K ("Call", some "is_call"))))), tcB K (He.ga K "Node") ["name", "kept_inputs", "kept_outs", "kept_rows", "tellers"], decide (PySem.W.findIn K (.ref (He.ga K "Node")) "__init__" = some (some (.ref (He.fAd K ("Node", some "__init__"))))), decide (PySem.W.findIn K (.ref (He.ga K "Node")) "names" = some (some (.ref (He.fAd K ("Node", some "names"))))), decide (PySem.W.findIn K (.ref (He.ga K "Node")) "told" = some (some (.ref (He.fAd K ("Node", some "told"))))), decide (PySem.W.findIn K (.ref (He.ga K "Node")) "take_tellers" = some (some (.ref (He.fAd K ("Node", some "take_tellers"))))), decide (PySem.W.findIn K (.ref (He.ga K "Node")) "need_told" = some (some (.ref (He.fAd K ("Node", some "need_told"))))), decide (PySem.W.findIn K (.ref (He.ga K "Node")) "inputs" = some (some (.ref (He.fAd K ("Node", some "inputs"))))), decide (PySem.W.findIn K (.ref (He.ga K "Node")) "outs" = some (some (.ref (He.fAd K ("Node", some "outs"))))), decide (PySem.W.findIn K (.ref (He.ga K "Node")) "rows" = some (some (.ref (He.fAd K ("Node", some "rows"))))), tcB K (He.ga K "Program") ["by_name"], decide (PySem.W.findIn K (.ref (He.ga K "Program")) "__init__" = some (some (.ref (He.fAd K ("Program", some "__init__"))))), decide (PySem.W.findIn K (.ref (He.ga K "Program")) "told" = some (some (.ref (He.fAd K ("Program", some "told"))))), difB [(He.ga K "Name"), (He.ga K "Value"), (He.ga K "Two"), (He.ga K "Not"), (He.ga K "Pick")], subB K (He.ga K "Name") (He.ga K "Term"), subB K (He.ga K "Value") (He.ga K "Term"), subB K (He.ga K "Two") (He.ga K "Term"), subB K (He.ga K "Not") (He.ga K "Term"), subB K (He.ga K "Pick") (He.ga K "Term"), difB [(He.ga K "Plain"), (He.ga K "Name"), (He.ga K "Value"), (He.ga K "Two"), (He.ga K "Not"), (He.ga K "Pick")]]
def exs8 (K : PySem.W.Frag) : List Bool := [difB [(He.ga K "Plain"), (He.ga K "Before"), (He.ga K "Hold"), (He.ga K "Like"), (He.ga K "When"), (He.ga K "Same"), (He.ga K "Call")], kitTab K [(He.ga K "Plain"), (He.ga K "Before"), (He.ga K "Hold"), (He.ga K "Like"), (He.ga K "When"), (He.ga K "Same"), (He.ga K "Call")] (He.ga K "Equation"), cmB K (He.ga K "Equation") (He.fAd K ("Equation", some "__init__")) "__init__", difB [(He.ga K "Node"), (He.ga K "Name"), (He.ga K "Value"), (He.ga K "Two"), (He.ga K "Not"), (He.ga K "Pick")], difB [(He.ga K "Node"), (He.ga K "Plain"), (He.ga K "Before"), (He.ga K "Hold"), (He.ga K "Like"), (He.ga K "When"), (He.ga K "Same"), (He.ga K "Call")], decide (PySem.W.kitOne K (.ref (He.ga K "Node")) (.ref (He.ga K "Node")) = some true), tupB K (He.ga K "OPS") ["+", "-", "*", "/", "mod", "<", "=", "&", "|"], tupB K (He.ga K "OWN") ["node", "in", "out", "before", "when", "hold", "like", "same", "call", "true", "false", "mod", "beat", "desk"]]
def exs (K : PySem.W.Frag) : List Bool := exs0 K ++ (exs1 K ++ (exs2 K ++ (exs3 K ++ (exs4 K ++ (exs5 K ++ (exs6 K ++ (exs7 K ++ (exs8 K))))))))
abbrev RW : PySem.W.OpenRow := PySem.W.OpenLaw.row PySem.Challenge.rw_beatrows_k48_alike_but_for_one_thing
def csL : List PySem.Str := ["BeatError", "NoValue", "NoName", "NoTerm", "NoEquation", "NoNode", "NoProgram", "Twice", "Unknown", "NoOut", "NoRead", "NoArgs", "NoCall", "Term", "Name", "Value", "Two", "Not", "Pick", "Equation", "Plain", "Before", "When", "Hold", "Like", "Same", "Call", "Node", "Program"]
def tsL : List PySem.Str := ["OPS", "OWN"]
abbrev hk : PySem.W.Hook := hookK csL tsL faL fnL (fun K => (exs K).all id)
def ob (s : PySem.W.SharedT) : He.AlD × Bool := hkObs csL tsL faL fnL (fun K => (exs K).all id) (HandSHeadRun.getT s)
theorem ob_eq (s : PySem.W.SharedT) : ob s = hk.obs s.abs := hkObs_eq (HandSHeadRun.getT_eq s)
def loose0 : List PySem.Str := ["_wall", "BeatError", "NoValue", "NoName", "NoTerm", "NoEquation", "NoNode", "NoProgram", "Twice", "Unknown", "NoOut", "NoRead", "NoArgs", "NoCall", "LETTERS", "LONGEST", "MOST_SIGNS", "MOST", "OWN", "is_whole", "is_within", "is_name", "is_pointed", "is_value", "value_text", "OPS", "ops_told", "MOST_LEVELS", "Term", "need_term"]
def loose1 : List PySem.Str := ["Name", "Value", "Two", "Not", "Pick", "simple_of", "made_of_told", "term_of", "each_once", "Equation", "Plain", "Before", "When", "Hold", "Like", "Same", "Call", "are_pointed", "is_valued", "plain_of", "valued_of", "call_of", "made_of", "equation_of", "TOLD_THINGS", "need_names", "equations_of", "Node", "node_of", "same_node"]
def loose2 : List PySem.Str := ["need_calls", "need_nodes", "Program", "form_of", "same_but_order", "_law_cell_at", "_law_box", "_law_take", "_law_names", "_law_rows", "_law_inner", "_law_node", "_law_whole", "_law_value_put", "_law_other", "_law_sames_put", "_law_right"]
def loose : List PySem.Str := loose0 ++ (loose1 ++ (loose2))
abbrev kf (s : PySem.W.SharedT) : PySem.W.Frag := He.frG (HandSHeadRun.getT s) (adrK (HandSHeadRun.getT s) csL tsL (fnL.map (·.at_)))
open PySem PySem.W PySem.Calls PyProof.Rows in
theorem runA (w : World) (os : OsState) : (HandSHeadRun.endF (HandSHeadRun.stepQ (HandSHeadRun.denQ HandSHeadRun.tabQ) RW.prog w) 20000 RW.prog w os).map (fun s => ((HandSHeadRun.looksF RW.prog (boot_heap w.params) s.abs, HandSHeadRun.seenQ (PySem.W.view RW.prog [86]) loose (importedModules RW.prog.main.body) (fun s => xlAt (PySem.W.view RW.prog [86]) [] s && recOk RW.toRowW.records s) s.abs), (exs (kf s)).all id)) = some ((true, PySem.W.openGood (PySem.W.view RW.prog [86]) loose), true) := by
  kernel_rfl
def fnA : List He.DefD := fnL0 ++ (fnL1)
def fnB : List He.DefD := fnL2
theorem fnAB : fnL = fnA ++ fnB := by kernel_rfl
theorem runFA (w : World) (os : OsState) : (HandSHeadRun.endF (HandSHeadRun.stepQ (HandSHeadRun.denQ HandSHeadRun.tabQ) RW.prog w) 20000 RW.prog w os).map (fun s => ((faL.all fun f => f.ok (kf s)) && fnA.all (fun d => d.ok (kf s)), fnA.map fun d => He.fnW (kf s) d.at_)) = some (true, fnA.map He.DefD.val) := by
  kernel_rfl
theorem runFB (w : World) (os : OsState) : (HandSHeadRun.endF (HandSHeadRun.stepQ (HandSHeadRun.denQ HandSHeadRun.tabQ) RW.prog w) 20000 RW.prog w os).map (fun s => (true && fnB.all (fun d => d.ok (kf s)), fnB.map fun d => He.fnW (kf s) d.at_)) = some (true, fnB.map He.DefD.val) := by
  kernel_rfl
theorem run (w : World) : HandSHeadRun.RunEq RW (PySem.W.view RW.prog [86]) hk ob 20000 loose w := by
  intro os
  obtain ⟨s, es, a⟩ := opt_some (runA w os)
  have b := opt_at es (runFA w os)
  have c := opt_at es (runFB w os)
  rw [es]
  exact obs_join (K := kf s) fnAB a b c
end
end Toy
namespace Toy
open PySem L2
open Evl hiding RetV RetL
theorem facts2 {spl : PySem.W.Frag → Sp} (HL : ∀ {P : Program} {w : World} {K : PySem.W.Frag} {mg : Str → Option Value} {base : Heap} {Z : Adr}, Txt K mg Z → FnG P w K mg base CX0 48 Z.f_law Z.fd_law ["_law_script"] (spl K)) {P : Program} {w : World} {K : PySem.W.Frag} {h : Heap} {mg : Str → Option Value} {fa : Addr} (X : K.In h) (G : h.Ns mainGlobals mg) (hfa : mg "law" = some (.ref fa)) (c : He.SaysD faL fnL K) (hex : (exs K).all id = true) : ∃ fd : FuncData, (∀ (s : Shared) (v : Value), BindsTo s fd ⟨[v], []⟩ [("_law_script", v)]) ∧ ∀ base : Heap, K.In base → base.Ns mainGlobals mg → FnG P w K mg base CX0 48 fa fd ["_law_script"] (spl K) := by
  obtain ⟨fd0, D0⟩ := c.def_ 0 (d := d_NoName_init) rfl
  have F0 : Fun K "__init__" "NoName.__init__" s_NoName_init (He.fAd K ("NoName", some "__init__")) fd0 := fun_ofD D0
  have b0 := F0.binds (ps := ["self", "found"]) fun _ _ _ _ _ _ us hl => match us, hl with | [_, _], _ => rfl
  obtain ⟨fd1, D1⟩ := c.def_ 1 (d := d_NoArgs_init) rfl
  have F1 : Fun K "__init__" "NoArgs.__init__" s_NoArgs_init (He.fAd K ("NoArgs", some "__init__")) fd1 := fun_ofD D1
  have b1 := F1.binds (ps := ["self", "name", "many"]) fun _ _ _ _ _ _ us hl => match us, hl with | [_, _, _], _ => rfl
  obtain ⟨fd2, D2⟩ := c.def_ 2 (d := d_NoCall_init) rfl
  have F2 : Fun K "__init__" "NoCall.__init__" s_NoCall_init (He.fAd K ("NoCall", some "__init__")) fd2 := fun_ofD D2
  have b2 := F2.binds (ps := ["self", "name"]) fun _ _ _ _ _ _ us hl => match us, hl with | [_, _], _ => rfl
  obtain ⟨fd3, D3⟩ := c.def_ 3 (d := d_is_whole) rfl
  have F3 : Fun K "is_whole" "is_whole" s_is_whole (He.fAd K ("is_whole", none)) fd3 := fun_ofD D3
  have b3 := F3.binds (ps := ["thing"]) fun _ _ _ _ _ _ us hl => match us, hl with | [_], _ => rfl
  obtain ⟨fd4, D4⟩ := c.def_ 4 (d := d_is_within) rfl
  have F4 : Fun K "is_within" "is_within" s_is_within (He.fAd K ("is_within", none)) fd4 := fun_ofD D4
  have b4 := F4.binds (ps := ["thing", "low", "high"]) fun _ _ _ _ _ _ us hl => match us, hl with | [_, _, _], _ => rfl
  obtain ⟨fd5, D5⟩ := c.def_ 5 (d := d_is_name) rfl
  have F5 : Fun K "is_name" "is_name" s_is_name (He.fAd K ("is_name", none)) fd5 := fun_ofD D5
  have b5 := F5.binds (ps := ["thing"]) fun _ _ _ _ _ _ us hl => match us, hl with | [_], _ => rfl
  obtain ⟨fd6, D6⟩ := c.def_ 6 (d := d_is_pointed) rfl
  have F6 : Fun K "is_pointed" "is_pointed" s_is_pointed (He.fAd K ("is_pointed", none)) fd6 := fun_ofD D6
  have b6 := F6.binds (ps := ["thing"]) fun _ _ _ _ _ _ us hl => match us, hl with | [_], _ => rfl
  obtain ⟨fd7, D7⟩ := c.def_ 7 (d := d_is_value) rfl
  have F7 : Fun K "is_value" "is_value" s_is_value (He.fAd K ("is_value", none)) fd7 := fun_ofD D7
  have b7 := F7.binds (ps := ["thing"]) fun _ _ _ _ _ _ us hl => match us, hl with | [_], _ => rfl
  obtain ⟨fd8, D8⟩ := c.def_ 8 (d := d_ops_told) rfl
  have F8 : Fun K "ops_told" "ops_told" s_ops_told (He.fAd K ("ops_told", none)) fd8 := fun_ofD D8
  have b8 := F8.binds (ps := []) fun _ _ _ _ _ _ us hl => match us, hl with | [], _ => rfl
  obtain ⟨fd9, D9⟩ := c.def_ 9 (d := d_Term_parts) rfl
  have F9 : Fun K "parts" "Term.parts" s_Term_parts (He.fAd K ("Term", some "parts")) fd9 := fun_ofD D9
  have b9 := F9.binds (ps := ["self"]) fun _ _ _ _ _ _ us hl => match us, hl with | [_], _ => rfl
  obtain ⟨fd10, D10⟩ := c.def_ 10 (d := d_Term_names) rfl
  have F10 : Fun K "names" "Term.names" s_Term_names (He.fAd K ("Term", some "names")) fd10 := fun_ofD D10
  have b10 := F10.binds (ps := ["self"]) fun _ _ _ _ _ _ us hl => match us, hl with | [_], _ => rfl
  obtain ⟨fd11, D11⟩ := c.def_ 11 (d := d_Term_levels) rfl
  have F11 : Fun K "levels" "Term.levels" s_Term_levels (He.fAd K ("Term", some "levels")) fd11 := fun_ofD D11
  have b11 := F11.binds (ps := ["self"]) fun _ _ _ _ _ _ us hl => match us, hl with | [_], _ => rfl
  obtain ⟨fd12, D12⟩ := c.def_ 12 (d := d_need_term) rfl
  have F12 : Fun K "need_term" "need_term" s_need_term (He.fAd K ("need_term", none)) fd12 := fun_ofD D12
  have b12 := F12.binds (ps := ["thing"]) fun _ _ _ _ _ _ us hl => match us, hl with | [_], _ => rfl
  obtain ⟨fd13, D13⟩ := c.def_ 13 (d := d_Name_init) rfl
  have F13 : Fun K "__init__" "Name.__init__" s_Name_init (He.fAd K ("Name", some "__init__")) fd13 := fun_ofD D13
  have b13 := F13.binds (ps := ["self", "name"]) fun _ _ _ _ _ _ us hl => match us, hl with | [_, _], _ => rfl
  obtain ⟨fd14, D14⟩ := c.def_ 14 (d := d_Name_names) rfl
  have F14 : Fun K "names" "Name.names" s_Name_names (He.fAd K ("Name", some "names")) fd14 := fun_ofD D14
  have b14 := F14.binds (ps := ["self"]) fun _ _ _ _ _ _ us hl => match us, hl with | [_], _ => rfl
  obtain ⟨fd15, D15⟩ := c.def_ 15 (d := d_Name_told) rfl
  have F15 : Fun K "told" "Name.told" s_Name_told (He.fAd K ("Name", some "told")) fd15 := fun_ofD D15
  have b15 := F15.binds (ps := ["self"]) fun _ _ _ _ _ _ us hl => match us, hl with | [_], _ => rfl
  obtain ⟨fd16, D16⟩ := c.def_ 16 (d := d_Value_init) rfl
  have F16 : Fun K "__init__" "Value.__init__" s_Value_init (He.fAd K ("Value", some "__init__")) fd16 := fun_ofD D16
  have b16 := F16.binds (ps := ["self", "value"]) fun _ _ _ _ _ _ us hl => match us, hl with | [_, _], _ => rfl
  obtain ⟨fd17, D17⟩ := c.def_ 17 (d := d_Value_told) rfl
  have F17 : Fun K "told" "Value.told" s_Value_told (He.fAd K ("Value", some "told")) fd17 := fun_ofD D17
  have b17 := F17.binds (ps := ["self"]) fun _ _ _ _ _ _ us hl => match us, hl with | [_], _ => rfl
  obtain ⟨fd18, D18⟩ := c.def_ 18 (d := d_Two_init) rfl
  have F18 : Fun K "__init__" "Two.__init__" s_Two_init (He.fAd K ("Two", some "__init__")) fd18 := fun_ofD D18
  have b18 := F18.binds (ps := ["self", "op", "one", "other"]) fun _ _ _ _ _ _ us hl => match us, hl with | [_, _, _, _], _ => rfl
  obtain ⟨fd19, D19⟩ := c.def_ 19 (d := d_Two_parts) rfl
  have F19 : Fun K "parts" "Two.parts" s_Two_parts (He.fAd K ("Two", some "parts")) fd19 := fun_ofD D19
  have b19 := F19.binds (ps := ["self"]) fun _ _ _ _ _ _ us hl => match us, hl with | [_], _ => rfl
  obtain ⟨fd20, D20⟩ := c.def_ 20 (d := d_Two_told) rfl
  have F20 : Fun K "told" "Two.told" s_Two_told (He.fAd K ("Two", some "told")) fd20 := fun_ofD D20
  have b20 := F20.binds (ps := ["self"]) fun _ _ _ _ _ _ us hl => match us, hl with | [_], _ => rfl
  obtain ⟨fd21, D21⟩ := c.def_ 21 (d := d_Not_init) rfl
  have F21 : Fun K "__init__" "Not.__init__" s_Not_init (He.fAd K ("Not", some "__init__")) fd21 := fun_ofD D21
  have b21 := F21.binds (ps := ["self", "one"]) fun _ _ _ _ _ _ us hl => match us, hl with | [_, _], _ => rfl
  obtain ⟨fd22, D22⟩ := c.def_ 22 (d := d_Not_parts) rfl
  have F22 : Fun K "parts" "Not.parts" s_Not_parts (He.fAd K ("Not", some "parts")) fd22 := fun_ofD D22
  have b22 := F22.binds (ps := ["self"]) fun _ _ _ _ _ _ us hl => match us, hl with | [_], _ => rfl
  obtain ⟨fd23, D23⟩ := c.def_ 23 (d := d_Not_told) rfl
  have F23 : Fun K "told" "Not.told" s_Not_told (He.fAd K ("Not", some "told")) fd23 := fun_ofD D23
  have b23 := F23.binds (ps := ["self"]) fun _ _ _ _ _ _ us hl => match us, hl with | [_], _ => rfl
  obtain ⟨fd24, D24⟩ := c.def_ 24 (d := d_Pick_init) rfl
  have F24 : Fun K "__init__" "Pick.__init__" s_Pick_init (He.fAd K ("Pick", some "__init__")) fd24 := fun_ofD D24
  have b24 := F24.binds (ps := ["self", "by", "one", "other"]) fun _ _ _ _ _ _ us hl => match us, hl with | [_, _, _, _], _ => rfl
  obtain ⟨fd25, D25⟩ := c.def_ 25 (d := d_Pick_parts) rfl
  have F25 : Fun K "parts" "Pick.parts" s_Pick_parts (He.fAd K ("Pick", some "parts")) fd25 := fun_ofD D25
  have b25 := F25.binds (ps := ["self"]) fun _ _ _ _ _ _ us hl => match us, hl with | [_], _ => rfl
  obtain ⟨fd26, D26⟩ := c.def_ 26 (d := d_Pick_told) rfl
  have F26 : Fun K "told" "Pick.told" s_Pick_told (He.fAd K ("Pick", some "told")) fd26 := fun_ofD D26
  have b26 := F26.binds (ps := ["self"]) fun _ _ _ _ _ _ us hl => match us, hl with | [_], _ => rfl
  obtain ⟨fd27, D27⟩ := c.def_ 27 (d := d_simple_of) rfl
  have F27 : Fun K "simple_of" "simple_of" s_simple_of (He.fAd K ("simple_of", none)) fd27 := fun_ofD D27
  have b27 := F27.binds (ps := ["word", "thing"]) fun _ _ _ _ _ _ us hl => match us, hl with | [_, _], _ => rfl
  obtain ⟨fd28, D28⟩ := c.def_ 28 (d := d_made_of_told) rfl
  have F28 : Fun K "made_of_told" "made_of_told" s_made_of_told (He.fAd K ("made_of_told", none)) fd28 := fun_ofD D28
  have b28 := F28.binds (ps := ["told", "left"]) fun _ _ _ _ _ _ us hl => match us, hl with | [_, _], _ => rfl
  obtain ⟨fd29, D29⟩ := c.def_ 29 (d := d_term_of) rfl
  have F29 : Fun K "term_of" "term_of" s_term_of (He.fAd K ("term_of", none)) fd29 := fun_ofD D29
  have b29 := F29.binds (ps := ["told"]) fun _ _ _ _ _ _ us hl => match us, hl with | [_], _ => rfl
  obtain ⟨fd30, D30⟩ := c.def_ 30 (d := d_each_once) rfl
  have F30 : Fun K "each_once" "each_once" s_each_once (He.fAd K ("each_once", none)) fd30 := fun_ofD D30
  have b30 := F30.binds (ps := ["names"]) fun _ _ _ _ _ _ us hl => match us, hl with | [_], _ => rfl
  obtain ⟨fd31, D31⟩ := c.def_ 31 (d := d_Equation_init) rfl
  have F31 : Fun K "__init__" "Equation.__init__" s_Equation_init (He.fAd K ("Equation", some "__init__")) fd31 := fun_ofD D31
  have b31 := F31.binds (ps := ["self", "row"]) fun _ _ _ _ _ _ us hl => match us, hl with | [_, _], _ => rfl
  obtain ⟨fd32, D32⟩ := c.def_ 32 (d := d_Equation_told) rfl
  have F32 : Fun K "told" "Equation.told" s_Equation_told (He.fAd K ("Equation", some "told")) fd32 := fun_ofD D32
  have b32 := F32.binds (ps := ["self"]) fun _ _ _ _ _ _ us hl => match us, hl with | [_], _ => rfl
  obtain ⟨fd33, D33⟩ := c.def_ 33 (d := d_Equation_tells) rfl
  have F33 : Fun K "tells" "Equation.tells" s_Equation_tells (He.fAd K ("Equation", some "tells")) fd33 := fun_ofD D33
  have b33 := F33.binds (ps := ["self"]) fun _ _ _ _ _ _ us hl => match us, hl with | [_], _ => rfl
  obtain ⟨fd34, D34⟩ := c.def_ 34 (d := d_Equation_names) rfl
  have F34 : Fun K "names" "Equation.names" s_Equation_names (He.fAd K ("Equation", some "names")) fd34 := fun_ofD D34
  have b34 := F34.binds (ps := ["self"]) fun _ _ _ _ _ _ us hl => match us, hl with | [_], _ => rfl
  obtain ⟨fd35, D35⟩ := c.def_ 35 (d := d_Equation_term) rfl
  have F35 : Fun K "term" "Equation.term" s_Equation_term (He.fAd K ("Equation", some "term")) fd35 := fun_ofD D35
  have b35 := F35.binds (ps := ["self"]) fun _ _ _ _ _ _ us hl => match us, hl with | [_], _ => rfl
  obtain ⟨fd36, D36⟩ := c.def_ 36 (d := d_Equation_is_call) rfl
  have F36 : Fun K "is_call" "Equation.is_call" s_Equation_is_call (He.fAd K ("Equation", some "is_call")) fd36 := fun_ofD D36
  have b36 := F36.binds (ps := ["self"]) fun _ _ _ _ _ _ us hl => match us, hl with | [_], _ => rfl
  obtain ⟨fd37, D37⟩ := c.def_ 37 (d := d_Plain_init) rfl
  have F37 : Fun K "__init__" "Plain.__init__" s_Plain_init (He.fAd K ("Plain", some "__init__")) fd37 := fun_ofD D37
  have b37 := F37.binds (ps := ["self", "row"]) fun _ _ _ _ _ _ us hl => match us, hl with | [_, _], _ => rfl
  obtain ⟨fd38, D38⟩ := c.def_ 38 (d := d_Plain_names) rfl
  have F38 : Fun K "names" "Plain.names" s_Plain_names (He.fAd K ("Plain", some "names")) fd38 := fun_ofD D38
  have b38 := F38.binds (ps := ["self"]) fun _ _ _ _ _ _ us hl => match us, hl with | [_], _ => rfl
  obtain ⟨fd39, D39⟩ := c.def_ 39 (d := d_Plain_term) rfl
  have F39 : Fun K "term" "Plain.term" s_Plain_term (He.fAd K ("Plain", some "term")) fd39 := fun_ofD D39
  have b39 := F39.binds (ps := ["self"]) fun _ _ _ _ _ _ us hl => match us, hl with | [_], _ => rfl
  obtain ⟨fd40, D40⟩ := c.def_ 40 (d := d_When_names) rfl
  have F40 : Fun K "names" "When.names" s_When_names (He.fAd K ("When", some "names")) fd40 := fun_ofD D40
  have b40 := F40.binds (ps := ["self"]) fun _ _ _ _ _ _ us hl => match us, hl with | [_], _ => rfl
  obtain ⟨fd41, D41⟩ := c.def_ 41 (d := d_Same_tells) rfl
  have F41 : Fun K "tells" "Same.tells" s_Same_tells (He.fAd K ("Same", some "tells")) fd41 := fun_ofD D41
  have b41 := F41.binds (ps := ["self"]) fun _ _ _ _ _ _ us hl => match us, hl with | [_], _ => rfl
  obtain ⟨fd42, D42⟩ := c.def_ 42 (d := d_Same_names) rfl
  have F42 : Fun K "names" "Same.names" s_Same_names (He.fAd K ("Same", some "names")) fd42 := fun_ofD D42
  have b42 := F42.binds (ps := ["self"]) fun _ _ _ _ _ _ us hl => match us, hl with | [_], _ => rfl
  obtain ⟨fd43, D43⟩ := c.def_ 43 (d := d_Call_tells) rfl
  have F43 : Fun K "tells" "Call.tells" s_Call_tells (He.fAd K ("Call", some "tells")) fd43 := fun_ofD D43
  have b43 := F43.binds (ps := ["self"]) fun _ _ _ _ _ _ us hl => match us, hl with | [_], _ => rfl
  obtain ⟨fd44, D44⟩ := c.def_ 44 (d := d_Call_names) rfl
  have F44 : Fun K "names" "Call.names" s_Call_names (He.fAd K ("Call", some "names")) fd44 := fun_ofD D44
  have b44 := F44.binds (ps := ["self"]) fun _ _ _ _ _ _ us hl => match us, hl with | [_], _ => rfl
  obtain ⟨fd45, D45⟩ := c.def_ 45 (d := d_Call_is_call) rfl
  have F45 : Fun K "is_call" "Call.is_call" s_Call_is_call (He.fAd K ("Call", some "is_call")) fd45 := fun_ofD D45
  have b45 := F45.binds (ps := ["self"]) fun _ _ _ _ _ _ us hl => match us, hl with | [_], _ => rfl
  obtain ⟨fd46, D46⟩ := c.def_ 46 (d := d_are_pointed) rfl
  have F46 : Fun K "are_pointed" "are_pointed" s_are_pointed (He.fAd K ("are_pointed", none)) fd46 := fun_ofD D46
  have b46 := F46.binds (ps := ["thing", "least"]) fun _ _ _ _ _ _ us hl => match us, hl with | [_, _], _ => rfl
  obtain ⟨fd47, D47⟩ := c.def_ 47 (d := d_is_valued) rfl
  have F47 : Fun K "is_valued" "is_valued" s_is_valued (He.fAd K ("is_valued", none)) fd47 := fun_ofD D47
  have b47 := F47.binds (ps := ["row"]) fun _ _ _ _ _ _ us hl => match us, hl with | [_], _ => rfl
  obtain ⟨fd48, D48⟩ := c.def_ 48 (d := d_plain_of) rfl
  have F48 : Fun K "plain_of" "plain_of" s_plain_of (He.fAd K ("plain_of", none)) fd48 := fun_ofD D48
  have b48 := F48.binds (ps := ["row"]) fun _ _ _ _ _ _ us hl => match us, hl with | [_], _ => rfl
  obtain ⟨fd49, D49⟩ := c.def_ 49 (d := d_valued_of) rfl
  have F49 : Fun K "valued_of" "valued_of" s_valued_of (He.fAd K ("valued_of", none)) fd49 := fun_ofD D49
  have b49 := F49.binds (ps := ["row"]) fun _ _ _ _ _ _ us hl => match us, hl with | [_], _ => rfl
  obtain ⟨fd50, D50⟩ := c.def_ 50 (d := d_call_of) rfl
  have F50 : Fun K "call_of" "call_of" s_call_of (He.fAd K ("call_of", none)) fd50 := fun_ofD D50
  have b50 := F50.binds (ps := ["row"]) fun _ _ _ _ _ _ us hl => match us, hl with | [_], _ => rfl
  obtain ⟨fd51, D51⟩ := c.def_ 51 (d := d_made_of) rfl
  have F51 : Fun K "made_of" "made_of" s_made_of (He.fAd K ("made_of", none)) fd51 := fun_ofD D51
  have b51 := F51.binds (ps := ["row"]) fun _ _ _ _ _ _ us hl => match us, hl with | [_], _ => rfl
  obtain ⟨fd52, D52⟩ := c.def_ 52 (d := d_equation_of) rfl
  have F52 : Fun K "equation_of" "equation_of" s_equation_of (He.fAd K ("equation_of", none)) fd52 := fun_ofD D52
  have b52 := F52.binds (ps := ["told"]) fun _ _ _ _ _ _ us hl => match us, hl with | [_], _ => rfl
  obtain ⟨fd53, D53⟩ := c.def_ 53 (d := d_need_names) rfl
  have F53 : Fun K "need_names" "need_names" s_need_names (He.fAd K ("need_names", none)) fd53 := fun_ofD D53
  have b53 := F53.binds (ps := ["things"]) fun _ _ _ _ _ _ us hl => match us, hl with | [_], _ => rfl
  obtain ⟨fd54, D54⟩ := c.def_ 54 (d := d_equations_of) rfl
  have F54 : Fun K "equations_of" "equations_of" s_equations_of (He.fAd K ("equations_of", none)) fd54 := fun_ofD D54
  have b54 := F54.binds (ps := ["rows"]) fun _ _ _ _ _ _ us hl => match us, hl with | [_], _ => rfl
  obtain ⟨fd55, D55⟩ := c.def_ 55 (d := d_Node_init) rfl
  have F55 : Fun K "__init__" "Node.__init__" s_Node_init (He.fAd K ("Node", some "__init__")) fd55 := fun_ofD D55
  have b55 := F55.binds (ps := ["self", "name", "inputs", "outs", "rows"]) fun _ _ _ _ _ _ us hl => match us, hl with | [_, _, _, _, _], _ => rfl
  obtain ⟨fd56, D56⟩ := c.def_ 56 (d := d_Node_take_tellers) rfl
  have F56 : Fun K "take_tellers" "Node.take_tellers" s_Node_take_tellers (He.fAd K ("Node", some "take_tellers")) fd56 := fun_ofD D56
  have b56 := F56.binds (ps := ["self"]) fun _ _ _ _ _ _ us hl => match us, hl with | [_], _ => rfl
  obtain ⟨fd57, D57⟩ := c.def_ 57 (d := d_Node_need_told) rfl
  have F57 : Fun K "need_told" "Node.need_told" s_Node_need_told (He.fAd K ("Node", some "need_told")) fd57 := fun_ofD D57
  have b57 := F57.binds (ps := ["self"]) fun _ _ _ _ _ _ us hl => match us, hl with | [_], _ => rfl
  obtain ⟨fd58, D58⟩ := c.def_ 58 (d := d_Node_inputs) rfl
  have F58 : Fun K "inputs" "Node.inputs" s_Node_inputs (He.fAd K ("Node", some "inputs")) fd58 := fun_ofD D58
  have b58 := F58.binds (ps := ["self"]) fun _ _ _ _ _ _ us hl => match us, hl with | [_], _ => rfl
  obtain ⟨fd59, D59⟩ := c.def_ 59 (d := d_Node_outs) rfl
  have F59 : Fun K "outs" "Node.outs" s_Node_outs (He.fAd K ("Node", some "outs")) fd59 := fun_ofD D59
  have b59 := F59.binds (ps := ["self"]) fun _ _ _ _ _ _ us hl => match us, hl with | [_], _ => rfl
  obtain ⟨fd60, D60⟩ := c.def_ 60 (d := d_Node_rows) rfl
  have F60 : Fun K "rows" "Node.rows" s_Node_rows (He.fAd K ("Node", some "rows")) fd60 := fun_ofD D60
  have b60 := F60.binds (ps := ["self"]) fun _ _ _ _ _ _ us hl => match us, hl with | [_], _ => rfl
  obtain ⟨fd61, D61⟩ := c.def_ 61 (d := d_Node_names) rfl
  have F61 : Fun K "names" "Node.names" s_Node_names (He.fAd K ("Node", some "names")) fd61 := fun_ofD D61
  have b61 := F61.binds (ps := ["self"]) fun _ _ _ _ _ _ us hl => match us, hl with | [_], _ => rfl
  obtain ⟨fd62, D62⟩ := c.def_ 62 (d := d_Node_told) rfl
  have F62 : Fun K "told" "Node.told" s_Node_told (He.fAd K ("Node", some "told")) fd62 := fun_ofD D62
  have b62 := F62.binds (ps := ["self"]) fun _ _ _ _ _ _ us hl => match us, hl with | [_], _ => rfl
  obtain ⟨fd63, D63⟩ := c.def_ 63 (d := d_node_of) rfl
  have F63 : Fun K "node_of" "node_of" s_node_of (He.fAd K ("node_of", none)) fd63 := fun_ofD D63
  have b63 := F63.binds (ps := ["told"]) fun _ _ _ _ _ _ us hl => match us, hl with | [_], _ => rfl
  obtain ⟨fd64, D64⟩ := c.def_ 64 (d := d_same_node) rfl
  have F64 : Fun K "same_node" "same_node" s_same_node (He.fAd K ("same_node", none)) fd64 := fun_ofD D64
  have b64 := F64.binds (ps := ["one", "other"]) fun _ _ _ _ _ _ us hl => match us, hl with | [_, _], _ => rfl
  obtain ⟨fd65, D65⟩ := c.def_ 65 (d := d_need_calls) rfl
  have F65 : Fun K "need_calls" "need_calls" s_need_calls (He.fAd K ("need_calls", none)) fd65 := fun_ofD D65
  have b65 := F65.binds (ps := ["known", "node"]) fun _ _ _ _ _ _ us hl => match us, hl with | [_, _], _ => rfl
  obtain ⟨fd66, D66⟩ := c.def_ 66 (d := d_need_nodes) rfl
  have F66 : Fun K "need_nodes" "need_nodes" s_need_nodes (He.fAd K ("need_nodes", none)) fd66 := fun_ofD D66
  have b66 := F66.binds (ps := ["thing"]) fun _ _ _ _ _ _ us hl => match us, hl with | [_], _ => rfl
  obtain ⟨fd67, D67⟩ := c.def_ 67 (d := d_Program_init) rfl
  have F67 : Fun K "__init__" "Program.__init__" s_Program_init (He.fAd K ("Program", some "__init__")) fd67 := fun_ofD D67
  have b67 := F67.binds (ps := ["self", "nodes"]) fun _ _ _ _ _ _ us hl => match us, hl with | [_, _], _ => rfl
  obtain ⟨fd68, D68⟩ := c.def_ 68 (d := d_Program_told) rfl
  have F68 : Fun K "told" "Program.told" s_Program_told (He.fAd K ("Program", some "told")) fd68 := fun_ofD D68
  have b68 := F68.binds (ps := ["self"]) fun _ _ _ _ _ _ us hl => match us, hl with | [_], _ => rfl
  obtain ⟨fd69, D69⟩ := c.def_ 69 (d := d_form_of) rfl
  have F69 : Fun K "form_of" "form_of" s_form_of (He.fAd K ("form_of", none)) fd69 := fun_ofD D69
  have b69 := F69.binds (ps := ["program"]) fun _ _ _ _ _ _ us hl => match us, hl with | [_], _ => rfl
  obtain ⟨fd70, D70⟩ := c.def_ 70 (d := d_same_but_order) rfl
  have F70 : Fun K "same_but_order" "same_but_order" s_same_but_order (He.fAd K ("same_but_order", none)) fd70 := fun_ofD D70
  have b70 := F70.binds (ps := ["one", "other"]) fun _ _ _ _ _ _ us hl => match us, hl with | [_, _], _ => rfl
  obtain ⟨fd71, D71⟩ := c.def_ 71 (d := d_cell_at_l) rfl
  have F71 : Fun K "_law_cell_at" "_law_cell_at" s_cell_at_l (He.fAd K ("_law_cell_at", none)) fd71 := fun_ofD D71
  have b71 := F71.binds (ps := ["_law_script", "_law_k"]) fun _ _ _ _ _ _ us hl => match us, hl with | [_, _], _ => rfl
  obtain ⟨fd72, D72⟩ := c.def_ 72 (d := d_box_l) rfl
  have F72 : Fun K "_law_box" "_law_box" s_box_l (He.fAd K ("_law_box", none)) fd72 := fun_ofD D72
  have b72 := F72.binds (ps := ["_law_cell"]) fun _ _ _ _ _ _ us hl => match us, hl with | [_], _ => rfl
  obtain ⟨fd73, D73⟩ := c.def_ 73 (d := d_take_l) rfl
  have F73 : Fun K "_law_take" "_law_take" s_take_l (He.fAd K ("_law_take", none)) fd73 := fun_ofD D73
  have b73 := F73.binds (ps := ["_law_box_here", "_law_many"]) fun _ _ _ _ _ _ us hl => match us, hl with | [_, _], _ => rfl
  obtain ⟨fd74, D74⟩ := c.def_ 74 (d := d_names_l) rfl
  have F74 : Fun K "_law_names" "_law_names" s_names_l (He.fAd K ("_law_names", none)) fd74 := fun_ofD D74
  have b74 := F74.binds (ps := ["_law_box_here"]) fun _ _ _ _ _ _ us hl => match us, hl with | [_], _ => rfl
  obtain ⟨fd75, D75⟩ := c.def_ 75 (d := d_rows_l) rfl
  have F75 : Fun K "_law_rows" "_law_rows" s_rows_l (He.fAd K ("_law_rows", none)) fd75 := fun_ofD D75
  have b75 := F75.binds (ps := ["_law_box_here", "_law_names_here"]) fun _ _ _ _ _ _ us hl => match us, hl with | [_, _], _ => rfl
  obtain ⟨fd76, D76⟩ := c.def_ 76 (d := d_inner_l) rfl
  have F76 : Fun K "_law_inner" "_law_inner" s_inner_l (He.fAd K ("_law_inner", none)) fd76 := fun_ofD D76
  have b76 := F76.binds (ps := ["_law_names_here"]) fun _ _ _ _ _ _ us hl => match us, hl with | [_], _ => rfl
  obtain ⟨fd77, D77⟩ := c.def_ 77 (d := d_node_l) rfl
  have F77 : Fun K "_law_node" "_law_node" s_node_l (He.fAd K ("_law_node", none)) fd77 := fun_ofD D77
  have b77 := F77.binds (ps := ["_law_names_here", "_law_rows_here"]) fun _ _ _ _ _ _ us hl => match us, hl with | [_, _], _ => rfl
  obtain ⟨fd78, D78⟩ := c.def_ 78 (d := d_whole_l) rfl
  have F78 : Fun K "_law_whole" "_law_whole" s_whole_l (He.fAd K ("_law_whole", none)) fd78 := fun_ofD D78
  have b78 := F78.binds (ps := ["_law_box_here", "_law_names_here"]) fun _ _ _ _ _ _ us hl => match us, hl with | [_, _], _ => rfl
  obtain ⟨fd79, D79⟩ := c.def_ 79 (d := d_value_put_l) rfl
  have F79 : Fun K "_law_value_put" "_law_value_put" s_value_put_l (He.fAd K ("_law_value_put", none)) fd79 := fun_ofD D79
  have b79 := F79.binds (ps := ["_law_rows_here"]) fun _ _ _ _ _ _ us hl => match us, hl with | [_], _ => rfl
  obtain ⟨fd80, D80⟩ := c.def_ 80 (d := d_other_l) rfl
  have F80 : Fun K "_law_other" "_law_other" s_other_l (He.fAd K ("_law_other", none)) fd80 := fun_ofD D80
  have b80 := F80.binds (ps := ["_law_box_here", "_law_names_here", "_law_node_here"]) fun _ _ _ _ _ _ us hl => match us, hl with | [_, _, _], _ => rfl
  obtain ⟨fd81, D81⟩ := c.def_ 81 (d := d_sames_put_l) rfl
  have F81 : Fun K "_law_sames_put" "_law_sames_put" s_sames_put_l (He.fAd K ("_law_sames_put", none)) fd81 := fun_ofD D81
  have b81 := F81.binds (ps := ["_law_names_here", "_law_node_here"]) fun _ _ _ _ _ _ us hl => match us, hl with | [_, _], _ => rfl
  obtain ⟨fd82, D82⟩ := c.def_ 82 (d := d_right_l) rfl
  have F82 : Fun K "_law_right" "_law_right" s_right_l (He.fAd K ("_law_right", none)) fd82 := fun_ofD D82
  have b82 := F82.binds (ps := ["_law_names_here", "_law_one", "_law_other_here", "_law_order"]) fun _ _ _ _ _ _ us hl => match us, hl with | [_, _, _, _], _ => rfl
  obtain ⟨fd83, D83⟩ := c.def_ 83 (d := d_law) rfl
  have F83 : Fun K "law" "law" s_law (He.fAd K ("law", none)) fd83 := fun_ofD D83
  have b83 := F83.binds (ps := ["_law_script"]) fun _ _ _ _ _ _ us hl => match us, hl with | [_], _ => rfl
  obtain ⟨t_LETTERS, k_LETTERS⟩ := He.str_ok X G (c.fact 73 (f := .str "LETTERS" "abcdefghijklmnopqrstuvwxyz") rfl)
  obtain ⟨t_LONGEST, k_LONGEST⟩ := He.int_ok X G (c.fact 74 (f := .int "LONGEST" (8)) rfl)
  obtain ⟨t_MOST, k_MOST⟩ := He.int_ok X G (c.fact 75 (f := .int "MOST" (1000000000)) rfl)
  obtain ⟨t_MOST_LEVELS, k_MOST_LEVELS⟩ := He.int_ok X G (c.fact 76 (f := .int "MOST_LEVELS" (5)) rfl)
  obtain ⟨t_MOST_SIGNS, k_MOST_SIGNS⟩ := He.int_ok X G (c.fact 77 (f := .int "MOST_SIGNS" (80)) rfl)
  obtain ⟨t_TOLD_THINGS, k_TOLD_THINGS⟩ := He.int_ok X G (c.fact 80 (f := .int "TOLD_THINGS" (4)) rfl)
  have e := hfa.symm.trans (He.glo_ok X G (c.fact 38 (f := .glo "law") rfl))
  cases e
  have T : Txt K mg ⟨(He.fAd K ("NoName", some "__init__")), fd0, (He.fAd K ("NoArgs", some "__init__")), fd1, (He.fAd K ("NoCall", some "__init__")), fd2, (He.fAd K ("is_whole", none)), fd3, (He.fAd K ("is_within", none)), fd4, (He.fAd K ("is_name", none)), fd5, (He.fAd K ("is_pointed", none)), fd6, (He.fAd K ("is_value", none)), fd7, (He.fAd K ("ops_told", none)), fd8, (He.fAd K ("Term", some "parts")), fd9, (He.fAd K ("Term", some "names")), fd10, (He.fAd K ("Term", some "levels")), fd11, (He.fAd K ("need_term", none)), fd12, (He.fAd K ("Name", some "__init__")), fd13, (He.fAd K ("Name", some "names")), fd14, (He.fAd K ("Name", some "told")), fd15, (He.fAd K ("Value", some "__init__")), fd16, (He.fAd K ("Value", some "told")), fd17, (He.fAd K ("Two", some "__init__")), fd18, (He.fAd K ("Two", some "parts")), fd19, (He.fAd K ("Two", some "told")), fd20, (He.fAd K ("Not", some "__init__")), fd21, (He.fAd K ("Not", some "parts")), fd22, (He.fAd K ("Not", some "told")), fd23, (He.fAd K ("Pick", some "__init__")), fd24, (He.fAd K ("Pick", some "parts")), fd25, (He.fAd K ("Pick", some "told")), fd26, (He.fAd K ("simple_of", none)), fd27, (He.fAd K ("made_of_told", none)), fd28, (He.fAd K ("term_of", none)), fd29, (He.fAd K ("each_once", none)), fd30, (He.fAd K ("Equation", some "__init__")), fd31, (He.fAd K ("Equation", some "told")), fd32, (He.fAd K ("Equation", some "tells")), fd33, (He.fAd K ("Equation", some "names")), fd34, (He.fAd K ("Equation", some "term")), fd35, (He.fAd K ("Equation", some "is_call")), fd36, (He.fAd K ("Plain", some "__init__")), fd37, (He.fAd K ("Plain", some "names")), fd38, (He.fAd K ("Plain", some "term")), fd39, (He.fAd K ("When", some "names")), fd40, (He.fAd K ("Same", some "tells")), fd41, (He.fAd K ("Same", some "names")), fd42, (He.fAd K ("Call", some "tells")), fd43, (He.fAd K ("Call", some "names")), fd44, (He.fAd K ("Call", some "is_call")), fd45, (He.fAd K ("are_pointed", none)), fd46, (He.fAd K ("is_valued", none)), fd47, (He.fAd K ("plain_of", none)), fd48, (He.fAd K ("valued_of", none)), fd49, (He.fAd K ("call_of", none)), fd50, (He.fAd K ("made_of", none)), fd51, (He.fAd K ("equation_of", none)), fd52, (He.fAd K ("need_names", none)), fd53, (He.fAd K ("equations_of", none)), fd54, (He.fAd K ("Node", some "__init__")), fd55, (He.fAd K ("Node", some "take_tellers")), fd56, (He.fAd K ("Node", some "need_told")), fd57, (He.fAd K ("Node", some "inputs")), fd58, (He.fAd K ("Node", some "outs")), fd59, (He.fAd K ("Node", some "rows")), fd60, (He.fAd K ("Node", some "names")), fd61, (He.fAd K ("Node", some "told")), fd62, (He.fAd K ("node_of", none)), fd63, (He.fAd K ("same_node", none)), fd64, (He.fAd K ("need_calls", none)), fd65, (He.fAd K ("need_nodes", none)), fd66, (He.fAd K ("Program", some "__init__")), fd67, (He.fAd K ("Program", some "told")), fd68, (He.fAd K ("form_of", none)), fd69, (He.fAd K ("same_but_order", none)), fd70, (He.fAd K ("_law_cell_at", none)), fd71, (He.fAd K ("_law_box", none)), fd72, (He.fAd K ("_law_take", none)), fd73, (He.fAd K ("_law_names", none)), fd74, (He.fAd K ("_law_rows", none)), fd75, (He.fAd K ("_law_inner", none)), fd76, (He.fAd K ("_law_node", none)), fd77, (He.fAd K ("_law_whole", none)), fd78, (He.fAd K ("_law_value_put", none)), fd79, (He.fAd K ("_law_other", none)), fd80, (He.fAd K ("_law_sames_put", none)), fd81, (He.fAd K ("_law_right", none)), fd82, (He.fAd K ("law", none)), fd83, (He.ga K "OPS"), (He.ga K "OWN"), (He.ga K "BeatError"), (He.ga K "NoName"), (He.ga K "NoArgs"), (He.ga K "NoCall"), (He.ga K "Term"), (He.ga K "Name"), (He.ga K "Value"), (He.ga K "Two"), (He.ga K "Not"), (He.ga K "Pick"), (He.ga K "Equation"), (He.ga K "Plain"), (He.ga K "Before"), (He.ga K "When"), (He.ga K "Hold"), (He.ga K "Like"), (He.ga K "Same"), (He.ga K "Call"), (He.ga K "Node"), (He.ga K "Program")⟩ := ⟨F0,
    b0,
    F1,
    b1,
    F2,
    b2,
    F3,
    b3,
    (He.glo_ok X G (c.fact 0 (f := .glo "is_whole") rfl)),
    F4,
    b4,
    (He.glo_ok X G (c.fact 1 (f := .glo "is_within") rfl)),
    F5,
    b5,
    (He.glo_ok X G (c.fact 2 (f := .glo "is_name") rfl)),
    F6,
    b6,
    (He.glo_ok X G (c.fact 3 (f := .glo "is_pointed") rfl)),
    F7,
    b7,
    (He.glo_ok X G (c.fact 4 (f := .glo "is_value") rfl)),
    F8,
    b8,
    (He.glo_ok X G (c.fact 5 (f := .glo "ops_told") rfl)),
    F9,
    b9,
    (allAt hex 0 (b := PySem.W.isFn K (.ref (He.fAd K ("Term", some "parts")))) rfl),
    F10,
    b10,
    (allAt hex 1 (b := PySem.W.isFn K (.ref (He.fAd K ("Term", some "names")))) rfl),
    F11,
    b11,
    (allAt hex 2 (b := PySem.W.isFn K (.ref (He.fAd K ("Term", some "levels")))) rfl),
    F12,
    b12,
    (He.glo_ok X G (c.fact 6 (f := .glo "need_term") rfl)),
    F13,
    b13,
    (allAt hex 3 (b := PySem.W.isFn K (.ref (He.fAd K ("Name", some "__init__")))) rfl),
    F14,
    b14,
    (allAt hex 4 (b := PySem.W.isFn K (.ref (He.fAd K ("Name", some "names")))) rfl),
    F15,
    b15,
    (allAt hex 5 (b := PySem.W.isFn K (.ref (He.fAd K ("Name", some "told")))) rfl),
    F16,
    b16,
    (allAt hex 6 (b := PySem.W.isFn K (.ref (He.fAd K ("Value", some "__init__")))) rfl),
    F17,
    b17,
    (allAt hex 7 (b := PySem.W.isFn K (.ref (He.fAd K ("Value", some "told")))) rfl),
    F18,
    b18,
    (allAt hex 8 (b := PySem.W.isFn K (.ref (He.fAd K ("Two", some "__init__")))) rfl),
    F19,
    b19,
    (allAt hex 9 (b := PySem.W.isFn K (.ref (He.fAd K ("Two", some "parts")))) rfl),
    F20,
    b20,
    (allAt hex 10 (b := PySem.W.isFn K (.ref (He.fAd K ("Two", some "told")))) rfl),
    F21,
    b21,
    (allAt hex 11 (b := PySem.W.isFn K (.ref (He.fAd K ("Not", some "__init__")))) rfl),
    F22,
    b22,
    (allAt hex 12 (b := PySem.W.isFn K (.ref (He.fAd K ("Not", some "parts")))) rfl),
    F23,
    b23,
    (allAt hex 13 (b := PySem.W.isFn K (.ref (He.fAd K ("Not", some "told")))) rfl),
    F24,
    b24,
    (allAt hex 14 (b := PySem.W.isFn K (.ref (He.fAd K ("Pick", some "__init__")))) rfl),
    F25,
    b25,
    (allAt hex 15 (b := PySem.W.isFn K (.ref (He.fAd K ("Pick", some "parts")))) rfl),
    F26,
    b26,
    (allAt hex 16 (b := PySem.W.isFn K (.ref (He.fAd K ("Pick", some "told")))) rfl),
    F27,
    b27,
    (He.glo_ok X G (c.fact 7 (f := .glo "simple_of") rfl)),
    F28,
    b28,
    (He.glo_ok X G (c.fact 8 (f := .glo "made_of_told") rfl)),
    F29,
    b29,
    (He.glo_ok X G (c.fact 9 (f := .glo "term_of") rfl)),
    F30,
    b30,
    (He.glo_ok X G (c.fact 10 (f := .glo "each_once") rfl)),
    F31,
    b31,
    (allAt hex 17 (b := PySem.W.isFn K (.ref (He.fAd K ("Equation", some "__init__")))) rfl),
    F32,
    b32,
    (allAt hex 18 (b := PySem.W.isFn K (.ref (He.fAd K ("Equation", some "told")))) rfl),
    F33,
    b33,
    (allAt hex 19 (b := PySem.W.isFn K (.ref (He.fAd K ("Equation", some "tells")))) rfl),
    F34,
    b34,
    (allAt hex 20 (b := PySem.W.isFn K (.ref (He.fAd K ("Equation", some "names")))) rfl),
    F35,
    b35,
    (allAt hex 21 (b := PySem.W.isFn K (.ref (He.fAd K ("Equation", some "term")))) rfl),
    F36,
    b36,
    (allAt hex 22 (b := PySem.W.isFn K (.ref (He.fAd K ("Equation", some "is_call")))) rfl),
    F37,
    b37,
    (allAt hex 23 (b := PySem.W.isFn K (.ref (He.fAd K ("Plain", some "__init__")))) rfl),
    F38,
    b38,
    (allAt hex 24 (b := PySem.W.isFn K (.ref (He.fAd K ("Plain", some "names")))) rfl),
    F39,
    b39,
    (allAt hex 25 (b := PySem.W.isFn K (.ref (He.fAd K ("Plain", some "term")))) rfl),
    F40,
    b40,
    (allAt hex 26 (b := PySem.W.isFn K (.ref (He.fAd K ("When", some "names")))) rfl),
    F41,
    b41,
    (allAt hex 27 (b := PySem.W.isFn K (.ref (He.fAd K ("Same", some "tells")))) rfl),
    F42,
    b42,
    (allAt hex 28 (b := PySem.W.isFn K (.ref (He.fAd K ("Same", some "names")))) rfl),
    F43,
    b43,
    (allAt hex 29 (b := PySem.W.isFn K (.ref (He.fAd K ("Call", some "tells")))) rfl),
    F44,
    b44,
    (allAt hex 30 (b := PySem.W.isFn K (.ref (He.fAd K ("Call", some "names")))) rfl),
    F45,
    b45,
    (allAt hex 31 (b := PySem.W.isFn K (.ref (He.fAd K ("Call", some "is_call")))) rfl),
    F46,
    b46,
    (He.glo_ok X G (c.fact 11 (f := .glo "are_pointed") rfl)),
    F47,
    b47,
    (He.glo_ok X G (c.fact 12 (f := .glo "is_valued") rfl)),
    F48,
    b48,
    (He.glo_ok X G (c.fact 13 (f := .glo "plain_of") rfl)),
    F49,
    b49,
    (He.glo_ok X G (c.fact 14 (f := .glo "valued_of") rfl)),
    F50,
    b50,
    (He.glo_ok X G (c.fact 15 (f := .glo "call_of") rfl)),
    F51,
    b51,
    (He.glo_ok X G (c.fact 16 (f := .glo "made_of") rfl)),
    F52,
    b52,
    (He.glo_ok X G (c.fact 17 (f := .glo "equation_of") rfl)),
    F53,
    b53,
    (He.glo_ok X G (c.fact 18 (f := .glo "need_names") rfl)),
    F54,
    b54,
    (He.glo_ok X G (c.fact 19 (f := .glo "equations_of") rfl)),
    F55,
    b55,
    (allAt hex 32 (b := PySem.W.isFn K (.ref (He.fAd K ("Node", some "__init__")))) rfl),
    F56,
    b56,
    (allAt hex 33 (b := PySem.W.isFn K (.ref (He.fAd K ("Node", some "take_tellers")))) rfl),
    F57,
    b57,
    (allAt hex 34 (b := PySem.W.isFn K (.ref (He.fAd K ("Node", some "need_told")))) rfl),
    F58,
    b58,
    (allAt hex 35 (b := PySem.W.isFn K (.ref (He.fAd K ("Node", some "inputs")))) rfl),
    F59,
    b59,
    (allAt hex 36 (b := PySem.W.isFn K (.ref (He.fAd K ("Node", some "outs")))) rfl),
    F60,
    b60,
    (allAt hex 37 (b := PySem.W.isFn K (.ref (He.fAd K ("Node", some "rows")))) rfl),
    F61,
    b61,
    (allAt hex 38 (b := PySem.W.isFn K (.ref (He.fAd K ("Node", some "names")))) rfl),
    F62,
    b62,
    (allAt hex 39 (b := PySem.W.isFn K (.ref (He.fAd K ("Node", some "told")))) rfl),
    F63,
    b63,
    (He.glo_ok X G (c.fact 20 (f := .glo "node_of") rfl)),
    F64,
    b64,
    (He.glo_ok X G (c.fact 21 (f := .glo "same_node") rfl)),
    F65,
    b65,
    (He.glo_ok X G (c.fact 22 (f := .glo "need_calls") rfl)),
    F66,
    b66,
    (He.glo_ok X G (c.fact 23 (f := .glo "need_nodes") rfl)),
    F67,
    b67,
    (allAt hex 40 (b := PySem.W.isFn K (.ref (He.fAd K ("Program", some "__init__")))) rfl),
    F68,
    b68,
    (allAt hex 41 (b := PySem.W.isFn K (.ref (He.fAd K ("Program", some "told")))) rfl),
    F69,
    b69,
    (He.glo_ok X G (c.fact 24 (f := .glo "form_of") rfl)),
    F70,
    b70,
    (He.glo_ok X G (c.fact 25 (f := .glo "same_but_order") rfl)),
    F71,
    b71,
    (He.glo_ok X G (c.fact 26 (f := .glo "_law_cell_at") rfl)),
    F72,
    b72,
    (He.glo_ok X G (c.fact 27 (f := .glo "_law_box") rfl)),
    F73,
    b73,
    (He.glo_ok X G (c.fact 28 (f := .glo "_law_take") rfl)),
    F74,
    b74,
    (He.glo_ok X G (c.fact 29 (f := .glo "_law_names") rfl)),
    F75,
    b75,
    (He.glo_ok X G (c.fact 30 (f := .glo "_law_rows") rfl)),
    F76,
    b76,
    (He.glo_ok X G (c.fact 31 (f := .glo "_law_inner") rfl)),
    F77,
    b77,
    (He.glo_ok X G (c.fact 32 (f := .glo "_law_node") rfl)),
    F78,
    b78,
    (He.glo_ok X G (c.fact 33 (f := .glo "_law_whole") rfl)),
    F79,
    b79,
    (He.glo_ok X G (c.fact 34 (f := .glo "_law_value_put") rfl)),
    F80,
    b80,
    (He.glo_ok X G (c.fact 35 (f := .glo "_law_other") rfl)),
    F81,
    b81,
    (He.glo_ok X G (c.fact 36 (f := .glo "_law_sames_put") rfl)),
    F82,
    b82,
    (He.glo_ok X G (c.fact 37 (f := .glo "_law_right") rfl)),
    F83,
    b83,
    (He.glo_ok X G (c.fact 38 (f := .glo "law") rfl)),
    (He.glo_ok X G (c.fact 39 (f := .glo "BeatError") rfl)),
    (allAt hex 42 (b := baseB K (He.ga K "BeatError")) rfl),
    (allAt hex 43 (b := PySem.W.excIn K (He.ga K "BeatError") [.type "ValueError", .type "Exception", .type "BaseException", .type "object"] "ValueError.__new__") rfl),
    (allAt hex 44 (b := PySem.W.keepIn K (.ref (He.ga K "BeatError"))) rfl),
    (allAt hex 45 (b := icB K (He.ga K "BeatError")) rfl),
    (He.glo_ok X G (c.fact 40 (f := .glo "NoName") rfl)),
    (allAt hex 46 (b := exB K (He.ga K "NoName") ["found"]) rfl),
    (of_decide_eq_true (allAt hex 47 (b := decide (PySem.W.findIn K (.ref (He.ga K "NoName")) "__init__" = some (some (.ref (He.fAd K ("NoName", some "__init__")))))) rfl)),
    (of_decide_eq_true (allAt hex 48 (b := decide (PySem.W.typeIn K (.ref (He.fAd K ("NoName", some "__init__"))) = some (.type "function"))) rfl)),
    (He.glo_ok X G (c.fact 41 (f := .glo "NoArgs") rfl)),
    (allAt hex 49 (b := exB K (He.ga K "NoArgs") ["name", "many"]) rfl),
    (of_decide_eq_true (allAt hex 50 (b := decide (PySem.W.findIn K (.ref (He.ga K "NoArgs")) "__init__" = some (some (.ref (He.fAd K ("NoArgs", some "__init__")))))) rfl)),
    (of_decide_eq_true (allAt hex 51 (b := decide (PySem.W.typeIn K (.ref (He.fAd K ("NoArgs", some "__init__"))) = some (.type "function"))) rfl)),
    (He.glo_ok X G (c.fact 42 (f := .glo "NoCall") rfl)),
    (allAt hex 52 (b := exB K (He.ga K "NoCall") ["name"]) rfl),
    (of_decide_eq_true (allAt hex 53 (b := decide (PySem.W.findIn K (.ref (He.ga K "NoCall")) "__init__" = some (some (.ref (He.fAd K ("NoCall", some "__init__")))))) rfl)),
    (of_decide_eq_true (allAt hex 54 (b := decide (PySem.W.typeIn K (.ref (He.fAd K ("NoCall", some "__init__"))) = some (.type "function"))) rfl)),
    (He.glo_ok X G (c.fact 43 (f := .glo "Term") rfl)),
    (He.glo_ok X G (c.fact 44 (f := .glo "Name") rfl)),
    (allAt hex 55 (b := tcB K (He.ga K "Name") ["name"]) rfl),
    (of_decide_eq_true (allAt hex 56 (b := decide (PySem.W.findIn K (.ref (He.ga K "Name")) "__init__" = some (some (.ref (He.fAd K ("Name", some "__init__")))))) rfl)),
    (of_decide_eq_true (allAt hex 57 (b := decide (PySem.W.findIn K (.ref (He.ga K "Name")) "parts" = some (some (.ref (He.fAd K ("Term", some "parts")))))) rfl)),
    (of_decide_eq_true (allAt hex 58 (b := decide (PySem.W.findIn K (.ref (He.ga K "Name")) "names" = some (some (.ref (He.fAd K ("Name", some "names")))))) rfl)),
    (of_decide_eq_true (allAt hex 59 (b := decide (PySem.W.findIn K (.ref (He.ga K "Name")) "levels" = some (some (.ref (He.fAd K ("Term", some "levels")))))) rfl)),
    (of_decide_eq_true (allAt hex 60 (b := decide (PySem.W.findIn K (.ref (He.ga K "Name")) "told" = some (some (.ref (He.fAd K ("Name", some "told")))))) rfl)),
    (He.glo_ok X G (c.fact 45 (f := .glo "Value") rfl)),
    (allAt hex 61 (b := tcB K (He.ga K "Value") ["amount"]) rfl),
    (of_decide_eq_true (allAt hex 62 (b := decide (PySem.W.findIn K (.ref (He.ga K "Value")) "__init__" = some (some (.ref (He.fAd K ("Value", some "__init__")))))) rfl)),
    (of_decide_eq_true (allAt hex 63 (b := decide (PySem.W.findIn K (.ref (He.ga K "Value")) "parts" = some (some (.ref (He.fAd K ("Term", some "parts")))))) rfl)),
    (of_decide_eq_true (allAt hex 64 (b := decide (PySem.W.findIn K (.ref (He.ga K "Value")) "names" = some (some (.ref (He.fAd K ("Term", some "names")))))) rfl)),
    (of_decide_eq_true (allAt hex 65 (b := decide (PySem.W.findIn K (.ref (He.ga K "Value")) "levels" = some (some (.ref (He.fAd K ("Term", some "levels")))))) rfl)),
    (of_decide_eq_true (allAt hex 66 (b := decide (PySem.W.findIn K (.ref (He.ga K "Value")) "told" = some (some (.ref (He.fAd K ("Value", some "told")))))) rfl)),
    (He.glo_ok X G (c.fact 46 (f := .glo "Two") rfl)),
    (allAt hex 67 (b := tcB K (He.ga K "Two") ["op", "one", "second"]) rfl),
    (of_decide_eq_true (allAt hex 68 (b := decide (PySem.W.findIn K (.ref (He.ga K "Two")) "__init__" = some (some (.ref (He.fAd K ("Two", some "__init__")))))) rfl)),
    (of_decide_eq_true (allAt hex 69 (b := decide (PySem.W.findIn K (.ref (He.ga K "Two")) "parts" = some (some (.ref (He.fAd K ("Two", some "parts")))))) rfl)),
    (of_decide_eq_true (allAt hex 70 (b := decide (PySem.W.findIn K (.ref (He.ga K "Two")) "names" = some (some (.ref (He.fAd K ("Term", some "names")))))) rfl)),
    (of_decide_eq_true (allAt hex 71 (b := decide (PySem.W.findIn K (.ref (He.ga K "Two")) "levels" = some (some (.ref (He.fAd K ("Term", some "levels")))))) rfl)),
    (of_decide_eq_true (allAt hex 72 (b := decide (PySem.W.findIn K (.ref (He.ga K "Two")) "told" = some (some (.ref (He.fAd K ("Two", some "told")))))) rfl)),
    (He.glo_ok X G (c.fact 47 (f := .glo "Not") rfl)),
    (allAt hex 73 (b := tcB K (He.ga K "Not") ["one"]) rfl),
    (of_decide_eq_true (allAt hex 74 (b := decide (PySem.W.findIn K (.ref (He.ga K "Not")) "__init__" = some (some (.ref (He.fAd K ("Not", some "__init__")))))) rfl)),
    (of_decide_eq_true (allAt hex 75 (b := decide (PySem.W.findIn K (.ref (He.ga K "Not")) "parts" = some (some (.ref (He.fAd K ("Not", some "parts")))))) rfl)),
    (of_decide_eq_true (allAt hex 76 (b := decide (PySem.W.findIn K (.ref (He.ga K "Not")) "names" = some (some (.ref (He.fAd K ("Term", some "names")))))) rfl)),
    (of_decide_eq_true (allAt hex 77 (b := decide (PySem.W.findIn K (.ref (He.ga K "Not")) "levels" = some (some (.ref (He.fAd K ("Term", some "levels")))))) rfl)),
    (of_decide_eq_true (allAt hex 78 (b := decide (PySem.W.findIn K (.ref (He.ga K "Not")) "told" = some (some (.ref (He.fAd K ("Not", some "told")))))) rfl)),
    (He.glo_ok X G (c.fact 48 (f := .glo "Pick") rfl)),
    (allAt hex 79 (b := tcB K (He.ga K "Pick") ["by", "one", "second"]) rfl),
    (of_decide_eq_true (allAt hex 80 (b := decide (PySem.W.findIn K (.ref (He.ga K "Pick")) "__init__" = some (some (.ref (He.fAd K ("Pick", some "__init__")))))) rfl)),
    (of_decide_eq_true (allAt hex 81 (b := decide (PySem.W.findIn K (.ref (He.ga K "Pick")) "parts" = some (some (.ref (He.fAd K ("Pick", some "parts")))))) rfl)),
    (of_decide_eq_true (allAt hex 82 (b := decide (PySem.W.findIn K (.ref (He.ga K "Pick")) "names" = some (some (.ref (He.fAd K ("Term", some "names")))))) rfl)),
    (of_decide_eq_true (allAt hex 83 (b := decide (PySem.W.findIn K (.ref (He.ga K "Pick")) "levels" = some (some (.ref (He.fAd K ("Term", some "levels")))))) rfl)),
    (of_decide_eq_true (allAt hex 84 (b := decide (PySem.W.findIn K (.ref (He.ga K "Pick")) "told" = some (some (.ref (He.fAd K ("Pick", some "told")))))) rfl)),
    (He.glo_ok X G (c.fact 49 (f := .glo "Equation") rfl)),
    (allAt hex 85 (b := tcB K (He.ga K "Equation") ["told_row"]) rfl),
    (of_decide_eq_true (allAt hex 86 (b := decide (PySem.W.findIn K (.ref (He.ga K "Equation")) "__init__" = some (some (.ref (He.fAd K ("Equation", some "__init__")))))) rfl)),
    (of_decide_eq_true (allAt hex 87 (b := decide (PySem.W.findIn K (.ref (He.ga K "Equation")) "names" = some (some (.ref (He.fAd K ("Equation", some "names")))))) rfl)),
    (of_decide_eq_true (allAt hex 88 (b := decide (PySem.W.findIn K (.ref (He.ga K "Equation")) "told" = some (some (.ref (He.fAd K ("Equation", some "told")))))) rfl)),
    (of_decide_eq_true (allAt hex 89 (b := decide (PySem.W.findIn K (.ref (He.ga K "Equation")) "tells" = some (some (.ref (He.fAd K ("Equation", some "tells")))))) rfl)),
    (of_decide_eq_true (allAt hex 90 (b := decide (PySem.W.findIn K (.ref (He.ga K "Equation")) "term" = some (some (.ref (He.fAd K ("Equation", some "term")))))) rfl)),
    (of_decide_eq_true (allAt hex 91 (b := decide (PySem.W.findIn K (.ref (He.ga K "Equation")) "is_call" = some (some (.ref (He.fAd K ("Equation", some "is_call")))))) rfl)),
    (He.glo_ok X G (c.fact 50 (f := .glo "Plain") rfl)),
    (allAt hex 92 (b := tcB K (He.ga K "Plain") ["told_row", "kept_term"]) rfl),
    (of_decide_eq_true (allAt hex 93 (b := decide (PySem.W.findIn K (.ref (He.ga K "Plain")) "__init__" = some (some (.ref (He.fAd K ("Plain", some "__init__")))))) rfl)),
    (of_decide_eq_true (allAt hex 94 (b := decide (PySem.W.findIn K (.ref (He.ga K "Plain")) "names" = some (some (.ref (He.fAd K ("Plain", some "names")))))) rfl)),
    (of_decide_eq_true (allAt hex 95 (b := decide (PySem.W.findIn K (.ref (He.ga K "Plain")) "told" = some (some (.ref (He.fAd K ("Equation", some "told")))))) rfl)),
    (of_decide_eq_true (allAt hex 96 (b := decide (PySem.W.findIn K (.ref (He.ga K "Plain")) "tells" = some (some (.ref (He.fAd K ("Equation", some "tells")))))) rfl)),
    (of_decide_eq_true (allAt hex 97 (b := decide (PySem.W.findIn K (.ref (He.ga K "Plain")) "term" = some (some (.ref (He.fAd K ("Plain", some "term")))))) rfl)),
    (of_decide_eq_true (allAt hex 98 (b := decide (PySem.W.findIn K (.ref (He.ga K "Plain")) "is_call" = some (some (.ref (He.fAd K ("Equation", some "is_call")))))) rfl)),
    (He.glo_ok X G (c.fact 51 (f := .glo "Before") rfl)),
    (allAt hex 99 (b := tcB K (He.ga K "Before") ["told_row"]) rfl),
    (of_decide_eq_true (allAt hex 100 (b := decide (PySem.W.findIn K (.ref (He.ga K "Before")) "__init__" = some (some (.ref (He.fAd K ("Equation", some "__init__")))))) rfl)),
    (of_decide_eq_true (allAt hex 101 (b := decide (PySem.W.findIn K (.ref (He.ga K "Before")) "names" = some (some (.ref (He.fAd K ("Equation", some "names")))))) rfl)),
    (of_decide_eq_true (allAt hex 102 (b := decide (PySem.W.findIn K (.ref (He.ga K "Before")) "told" = some (some (.ref (He.fAd K ("Equation", some "told")))))) rfl)),
    (of_decide_eq_true (allAt hex 103 (b := decide (PySem.W.findIn K (.ref (He.ga K "Before")) "tells" = some (some (.ref (He.fAd K ("Equation", some "tells")))))) rfl)),
    (of_decide_eq_true (allAt hex 104 (b := decide (PySem.W.findIn K (.ref (He.ga K "Before")) "term" = some (some (.ref (He.fAd K ("Equation", some "term")))))) rfl)),
    (of_decide_eq_true (allAt hex 105 (b := decide (PySem.W.findIn K (.ref (He.ga K "Before")) "is_call" = some (some (.ref (He.fAd K ("Equation", some "is_call")))))) rfl)),
    (He.glo_ok X G (c.fact 52 (f := .glo "When") rfl)),
    (allAt hex 106 (b := tcB K (He.ga K "When") ["told_row"]) rfl),
    (of_decide_eq_true (allAt hex 107 (b := decide (PySem.W.findIn K (.ref (He.ga K "When")) "__init__" = some (some (.ref (He.fAd K ("Equation", some "__init__")))))) rfl)),
    (of_decide_eq_true (allAt hex 108 (b := decide (PySem.W.findIn K (.ref (He.ga K "When")) "names" = some (some (.ref (He.fAd K ("When", some "names")))))) rfl)),
    (of_decide_eq_true (allAt hex 109 (b := decide (PySem.W.findIn K (.ref (He.ga K "When")) "told" = some (some (.ref (He.fAd K ("Equation", some "told")))))) rfl)),
    (of_decide_eq_true (allAt hex 110 (b := decide (PySem.W.findIn K (.ref (He.ga K "When")) "tells" = some (some (.ref (He.fAd K ("Equation", some "tells")))))) rfl)),
    (of_decide_eq_true (allAt hex 111 (b := decide (PySem.W.findIn K (.ref (He.ga K "When")) "term" = some (some (.ref (He.fAd K ("Equation", some "term")))))) rfl)),
    (of_decide_eq_true (allAt hex 112 (b := decide (PySem.W.findIn K (.ref (He.ga K "When")) "is_call" = some (some (.ref (He.fAd K ("Equation", some "is_call")))))) rfl)),
    (He.glo_ok X G (c.fact 53 (f := .glo "Hold") rfl)),
    (allAt hex 113 (b := tcB K (He.ga K "Hold") ["told_row"]) rfl),
    (of_decide_eq_true (allAt hex 114 (b := decide (PySem.W.findIn K (.ref (He.ga K "Hold")) "__init__" = some (some (.ref (He.fAd K ("Equation", some "__init__")))))) rfl)),
    (of_decide_eq_true (allAt hex 115 (b := decide (PySem.W.findIn K (.ref (He.ga K "Hold")) "names" = some (some (.ref (He.fAd K ("Equation", some "names")))))) rfl)),
    (of_decide_eq_true (allAt hex 116 (b := decide (PySem.W.findIn K (.ref (He.ga K "Hold")) "told" = some (some (.ref (He.fAd K ("Equation", some "told")))))) rfl)),
    (of_decide_eq_true (allAt hex 117 (b := decide (PySem.W.findIn K (.ref (He.ga K "Hold")) "tells" = some (some (.ref (He.fAd K ("Equation", some "tells")))))) rfl)),
    (of_decide_eq_true (allAt hex 118 (b := decide (PySem.W.findIn K (.ref (He.ga K "Hold")) "term" = some (some (.ref (He.fAd K ("Equation", some "term")))))) rfl)),
    (of_decide_eq_true (allAt hex 119 (b := decide (PySem.W.findIn K (.ref (He.ga K "Hold")) "is_call" = some (some (.ref (He.fAd K ("Equation", some "is_call")))))) rfl)),
    (He.glo_ok X G (c.fact 54 (f := .glo "Like") rfl)),
    (allAt hex 120 (b := tcB K (He.ga K "Like") ["told_row"]) rfl),
    (of_decide_eq_true (allAt hex 121 (b := decide (PySem.W.findIn K (.ref (He.ga K "Like")) "__init__" = some (some (.ref (He.fAd K ("Equation", some "__init__")))))) rfl)),
    (of_decide_eq_true (allAt hex 122 (b := decide (PySem.W.findIn K (.ref (He.ga K "Like")) "names" = some (some (.ref (He.fAd K ("Equation", some "names")))))) rfl)),
    (of_decide_eq_true (allAt hex 123 (b := decide (PySem.W.findIn K (.ref (He.ga K "Like")) "told" = some (some (.ref (He.fAd K ("Equation", some "told")))))) rfl)),
    (of_decide_eq_true (allAt hex 124 (b := decide (PySem.W.findIn K (.ref (He.ga K "Like")) "tells" = some (some (.ref (He.fAd K ("Equation", some "tells")))))) rfl)),
    (of_decide_eq_true (allAt hex 125 (b := decide (PySem.W.findIn K (.ref (He.ga K "Like")) "term" = some (some (.ref (He.fAd K ("Equation", some "term")))))) rfl)),
    (of_decide_eq_true (allAt hex 126 (b := decide (PySem.W.findIn K (.ref (He.ga K "Like")) "is_call" = some (some (.ref (He.fAd K ("Equation", some "is_call")))))) rfl)),
    (He.glo_ok X G (c.fact 55 (f := .glo "Same") rfl)),
    (allAt hex 127 (b := tcB K (He.ga K "Same") ["told_row"]) rfl),
    (of_decide_eq_true (allAt hex 128 (b := decide (PySem.W.findIn K (.ref (He.ga K "Same")) "__init__" = some (some (.ref (He.fAd K ("Equation", some "__init__")))))) rfl)),
    (of_decide_eq_true (allAt hex 129 (b := decide (PySem.W.findIn K (.ref (He.ga K "Same")) "names" = some (some (.ref (He.fAd K ("Same", some "names")))))) rfl)),
    (of_decide_eq_true (allAt hex 130 (b := decide (PySem.W.findIn K (.ref (He.ga K "Same")) "told" = some (some (.ref (He.fAd K ("Equation", some "told")))))) rfl)),
    (of_decide_eq_true (allAt hex 131 (b := decide (PySem.W.findIn K (.ref (He.ga K "Same")) "tells" = some (some (.ref (He.fAd K ("Same", some "tells")))))) rfl)),
    (of_decide_eq_true (allAt hex 132 (b := decide (PySem.W.findIn K (.ref (He.ga K "Same")) "term" = some (some (.ref (He.fAd K ("Equation", some "term")))))) rfl)),
    (of_decide_eq_true (allAt hex 133 (b := decide (PySem.W.findIn K (.ref (He.ga K "Same")) "is_call" = some (some (.ref (He.fAd K ("Equation", some "is_call")))))) rfl)),
    (He.glo_ok X G (c.fact 56 (f := .glo "Call") rfl)),
    (allAt hex 134 (b := tcB K (He.ga K "Call") ["told_row"]) rfl),
    (of_decide_eq_true (allAt hex 135 (b := decide (PySem.W.findIn K (.ref (He.ga K "Call")) "__init__" = some (some (.ref (He.fAd K ("Equation", some "__init__")))))) rfl)),
    (of_decide_eq_true (allAt hex 136 (b := decide (PySem.W.findIn K (.ref (He.ga K "Call")) "names" = some (some (.ref (He.fAd K ("Call", some "names")))))) rfl)),
    (of_decide_eq_true (allAt hex 137 (b := decide (PySem.W.findIn K (.ref (He.ga K "Call")) "told" = some (some (.ref (He.fAd K ("Equation", some "told")))))) rfl)),
    (of_decide_eq_true (allAt hex 138 (b := decide (PySem.W.findIn K (.ref (He.ga K "Call")) "tells" = some (some (.ref (He.fAd K ("Call", some "tells")))))) rfl)),
    (of_decide_eq_true (allAt hex 139 (b := decide (PySem.W.findIn K (.ref (He.ga K "Call")) "term" = some (some (.ref (He.fAd K ("Equation", some "term")))))) rfl)),
    (of_decide_eq_true (allAt hex 140 (b := decide (PySem.W.findIn K (.ref (He.ga K "Call")) "is_call" = some (some (.ref (He.fAd K ("Call", some "is_call")))))) rfl)),
    (He.glo_ok X G (c.fact 57 (f := .glo "Node") rfl)),
    (allAt hex 141 (b := tcB K (He.ga K "Node") ["name", "kept_inputs", "kept_outs", "kept_rows", "tellers"]) rfl),
    (of_decide_eq_true (allAt hex 142 (b := decide (PySem.W.findIn K (.ref (He.ga K "Node")) "__init__" = some (some (.ref (He.fAd K ("Node", some "__init__")))))) rfl)),
    (of_decide_eq_true (allAt hex 143 (b := decide (PySem.W.findIn K (.ref (He.ga K "Node")) "names" = some (some (.ref (He.fAd K ("Node", some "names")))))) rfl)),
    (of_decide_eq_true (allAt hex 144 (b := decide (PySem.W.findIn K (.ref (He.ga K "Node")) "told" = some (some (.ref (He.fAd K ("Node", some "told")))))) rfl)),
    (of_decide_eq_true (allAt hex 145 (b := decide (PySem.W.findIn K (.ref (He.ga K "Node")) "take_tellers" = some (some (.ref (He.fAd K ("Node", some "take_tellers")))))) rfl)),
    (of_decide_eq_true (allAt hex 146 (b := decide (PySem.W.findIn K (.ref (He.ga K "Node")) "need_told" = some (some (.ref (He.fAd K ("Node", some "need_told")))))) rfl)),
    (of_decide_eq_true (allAt hex 147 (b := decide (PySem.W.findIn K (.ref (He.ga K "Node")) "inputs" = some (some (.ref (He.fAd K ("Node", some "inputs")))))) rfl)),
    (of_decide_eq_true (allAt hex 148 (b := decide (PySem.W.findIn K (.ref (He.ga K "Node")) "outs" = some (some (.ref (He.fAd K ("Node", some "outs")))))) rfl)),
    (of_decide_eq_true (allAt hex 149 (b := decide (PySem.W.findIn K (.ref (He.ga K "Node")) "rows" = some (some (.ref (He.fAd K ("Node", some "rows")))))) rfl)),
    (He.glo_ok X G (c.fact 58 (f := .glo "Program") rfl)),
    (allAt hex 150 (b := tcB K (He.ga K "Program") ["by_name"]) rfl),
    (of_decide_eq_true (allAt hex 151 (b := decide (PySem.W.findIn K (.ref (He.ga K "Program")) "__init__" = some (some (.ref (He.fAd K ("Program", some "__init__")))))) rfl)),
    (of_decide_eq_true (allAt hex 152 (b := decide (PySem.W.findIn K (.ref (He.ga K "Program")) "told" = some (some (.ref (He.fAd K ("Program", some "told")))))) rfl)),
    (allAt hex 153 (b := difB [(He.ga K "Name"), (He.ga K "Value"), (He.ga K "Two"), (He.ga K "Not"), (He.ga K "Pick")]) rfl),
    (allAt hex 154 (b := subB K (He.ga K "Name") (He.ga K "Term")) rfl),
    (allAt hex 155 (b := subB K (He.ga K "Value") (He.ga K "Term")) rfl),
    (allAt hex 156 (b := subB K (He.ga K "Two") (He.ga K "Term")) rfl),
    (allAt hex 157 (b := subB K (He.ga K "Not") (He.ga K "Term")) rfl),
    (allAt hex 158 (b := subB K (He.ga K "Pick") (He.ga K "Term")) rfl),
    (allAt hex 159 (b := difB [(He.ga K "Plain"), (He.ga K "Name"), (He.ga K "Value"), (He.ga K "Two"), (He.ga K "Not"), (He.ga K "Pick")]) rfl),
    (allAt hex 160 (b := difB [(He.ga K "Plain"), (He.ga K "Before"), (He.ga K "Hold"), (He.ga K "Like"), (He.ga K "When"), (He.ga K "Same"), (He.ga K "Call")]) rfl),
    (allAt hex 161 (b := kitTab K [(He.ga K "Plain"), (He.ga K "Before"), (He.ga K "Hold"), (He.ga K "Like"), (He.ga K "When"), (He.ga K "Same"), (He.ga K "Call")] (He.ga K "Equation")) rfl),
    (allAt hex 162 (b := cmB K (He.ga K "Equation") (He.fAd K ("Equation", some "__init__")) "__init__") rfl),
    (allAt hex 163 (b := difB [(He.ga K "Node"), (He.ga K "Name"), (He.ga K "Value"), (He.ga K "Two"), (He.ga K "Not"), (He.ga K "Pick")]) rfl),
    (allAt hex 164 (b := difB [(He.ga K "Node"), (He.ga K "Plain"), (He.ga K "Before"), (He.ga K "Hold"), (He.ga K "Like"), (He.ga K "When"), (He.ga K "Same"), (He.ga K "Call")]) rfl),
    (of_decide_eq_true (allAt hex 165 (b := decide (PySem.W.kitOne K (.ref (He.ga K "Node")) (.ref (He.ga K "Node")) = some true)) rfl)),
    (He.free_ok X G (c.fact 59 (f := .free "all") rfl)),
    (He.free_ok X G (c.fact 60 (f := .free "bool") rfl)),
    (He.free_ok X G (c.fact 61 (f := .free "enumerate") rfl)),
    (He.free_ok X G (c.fact 62 (f := .free "int") rfl)),
    (He.free_ok X G (c.fact 63 (f := .free "isinstance") rfl)),
    (He.free_ok X G (c.fact 64 (f := .free "len") rfl)),
    (He.free_ok X G (c.fact 65 (f := .free "list") rfl)),
    (He.free_ok X G (c.fact 66 (f := .free "max") rfl)),
    (He.free_ok X G (c.fact 67 (f := .free "min") rfl)),
    (He.free_ok X G (c.fact 68 (f := .free "range") rfl)),
    (He.free_ok X G (c.fact 69 (f := .free "repr") rfl)),
    (He.free_ok X G (c.fact 70 (f := .free "sorted") rfl)),
    (He.free_ok X G (c.fact 71 (f := .free "str") rfl)),
    (He.free_ok X G (c.fact 72 (f := .free "tuple") rfl)),
    ⟨_, k_LETTERS, ⟨_, rfl⟩⟩,
    ⟨_, k_LONGEST, ⟨_, rfl⟩⟩,
    ⟨_, k_MOST, ⟨_, rfl⟩⟩,
    ⟨_, k_MOST_LEVELS, ⟨_, rfl⟩⟩,
    ⟨_, k_MOST_SIGNS, ⟨_, rfl⟩⟩,
    ⟨_, He.glo_ok X G (c.fact 78 (f := .glo "OPS") rfl), rfl⟩,
    (tupB_ok (allAt hex 166 (b := tupB K (He.ga K "OPS") ["+", "-", "*", "/", "mod", "<", "=", "&", "|"]) rfl)),
    ⟨_, He.glo_ok X G (c.fact 79 (f := .glo "OWN") rfl), rfl⟩,
    (tupB_ok (allAt hex 167 (b := tupB K (He.ga K "OWN") ["node", "in", "out", "before", "when", "hold", "like", "same", "call", "true", "false", "mod", "beat", "desk"]) rfl)),
    ⟨_, k_TOLD_THINGS, ⟨_, rfl⟩⟩⟩
  have bb := FunD.bindsA (ps := ["_law_script"]) D83 fun _ _ _ _ _ _ us hl => match us, hl with | [_], _ => rfl
  exact ⟨_, fun s v => bb s [v] rfl, fun base _ _ => HL T⟩
end Toy
open PySem PySem.W PySem.Calls PyProof.Rows in
set_option maxHeartbeats 0 in
theorem Toy.holds_of {spl : PySem.W.Frag → L2.Sp} (HL : ∀ {P : PySem.Program} {w : PySem.World} {K : PySem.W.Frag} {mg : PySem.Str → Option PySem.Value} {base : PySem.Heap} {Z : Toy.Adr}, Toy.Txt K mg Z → L2.FnG P w K mg base L2.CX0 48 Z.f_law Z.fd_law ["_law_script"] (spl K)) (hspl : ∀ (K : PySem.W.Frag) (H : L2.Hp) (a : PySem.Addr) (ns : List Int), L2.SqL K H a (ns.map L2.V.int) → ns.length ≤ 63 → spl K [.ref a] H (fun v _ => v = .bl true) fun _ _ _ => False) : PySem.Challenge.rw_beatrows_k48_alike_but_for_one_thing.Holds := by
  w_on; o_law
  refine HandSHeadRun.head_any (r := Toy.RW) (q := view Toy.RW.prog [86]) (H := Toy.hk) (ob := Toy.ob) (M := 20000) (loose := Toy.loose) (d := HandSHeadRun.topDef Toy.RW.prog 86) (kwd := []) Toy.ob_eq
    (by kernel_rfl) (fun s => by kernel_rfl) Toy.run (by kernel_rfl) (by kernel_rfl) (by kernel_rfl) (by rfl)
    (by first | assumption | decide +kernel) (by decide +kernel) ⟨rfl, rfl, rfl, rfl, rfl, by decide +kernel⟩ ?hw ?hc
  case hw => w_witness2
  case hc =>
    refine L2.walk_ofEG (l := PySem.Challenge.rw_beatrows_k48_alike_but_for_one_thing) (n := 63) (k := 48) (x := "_law_script") (CX := L2.CX0) rfl (by decide) (by kernel_rfl) ⟨rfl, by decide, by decide⟩ ?F (fun _ _ _ _ z => z)
    intro w mg fa h Y G hmg0
    obtain ⟨K, KX, c⟩ := Y
    have hmg : mg ("law" : PySem.Str) = some (.ref fa) := by
      have e : (HandSHeadRun.topDef Toy.RW.prog 86).name = ("law" : PySem.Str) := by kernel_rfl
      rw [← e]
      exact hmg0
    obtain ⟨fd, hb, hF⟩ := Toy.facts2 HL (P := PySem.Challenge.rw_beatrows_k48_alike_but_for_one_thing.prog) (w := w) KX G hmg c.1 c.2
    exact ⟨K, fd, spl K, KX, hb, fun H a ns hl _ hS => hspl K H a ns hS hl, hF⟩
namespace Toy
open PySem L2
open Evl hiding RetV RetL
section
variable {P : Program} {w : World} {K : PySem.W.Frag} {mg : Str → Option Value} {base : Heap} {Z : Adr}
theorem ok_NoName_init (T : Txt K mg Z) : FnOk P w K mg base CX0 1 Z.f_NoName_init Z.fd_NoName_init ["self", "found"] (sp_err1 Z.c_NoName "found") := by
  refine T.F_NoName_init.ok sc_NoName_init (fun vs H Q E h => ?_) (fun cdv AA outer s H vs Q E hr h => ?_)
  · obtain ⟨a, v0, rfl, _⟩ := h
    rfl
  · obtain ⟨a, v0, rfl, ha, k⟩ := h
    have TX := exB_ok T.x_NoName
    refine ⟨_, (pss_cons (ps_expr (pe_binit rfl T.m_BeatError (baseB_ok T.q_BeatError) (pa_cons (pv 0) (pa_cons pe_str pa_nil))))
      (pss_one (ps_ost (pv 0) (pv 1)))), ?_⟩
    exact err1_run TX.ox (TX.no _ (by decide +kernel)) ha k
theorem ok_NoArgs_init (T : Txt K mg Z) : FnOk P w K mg base CX0 1 Z.f_NoArgs_init Z.fd_NoArgs_init ["self", "name", "many"] (sp_err2 Z.c_NoArgs "name" "many") := by
  refine T.F_NoArgs_init.ok sc_NoArgs_init (fun vs H Q E h => ?_) (fun cdv AA outer s H vs Q E hr h => ?_)
  · obtain ⟨a, v0, v1, rfl, _⟩ := h
    rfl
  · obtain ⟨a, v0, v1, rfl, ha, k⟩ := h
    have TX := exB_ok T.x_NoArgs
    refine ⟨_, (pss_cons (ps_expr (pe_binit rfl T.m_BeatError (baseB_ok T.q_BeatError) (pa_cons (pv 0) (pa_cons pe_str pa_nil))))
      (pss_cons (ps_ost (pv 0) (pv 1))
      (pss_one (ps_ost (pv 0) (pv 2))))), ?_⟩
    exact err2_run TX.ox (TX.no _ (by decide +kernel)) (TX.no _ (by decide +kernel)) ha k
theorem ok_NoCall_init (T : Txt K mg Z) : FnOk P w K mg base CX0 1 Z.f_NoCall_init Z.fd_NoCall_init ["self", "name"] (sp_err1 Z.c_NoCall "name") := by
  refine T.F_NoCall_init.ok sc_NoCall_init (fun vs H Q E h => ?_) (fun cdv AA outer s H vs Q E hr h => ?_)
  · obtain ⟨a, v0, rfl, _⟩ := h
    rfl
  · obtain ⟨a, v0, rfl, ha, k⟩ := h
    have TX := exB_ok T.x_NoCall
    refine ⟨_, (pss_cons (ps_expr (pe_binit rfl T.m_BeatError (baseB_ok T.q_BeatError) (pa_cons (pv 0) (pa_cons pe_str pa_nil))))
      (pss_one (ps_ost (pv 0) (pv 1)))), ?_⟩
    exact err1_run TX.ox (TX.no _ (by decide +kernel)) ha k
/-! ### words: whole numbers, values -/
def sp_is_whole (K : PySem.W.Frag) : Sp := fun vs H Q _ => ∃ (v : V) (n : String) (b1 b2 : Bool), vs = [v] ∧ TyX K H v (.type n) ∧ kitB n "int" = some b1 ∧ kitB n "bool" = some b2 ∧ Q (.bl (b1 && !b2)) H
theorem u_whole_int {K : PySem.W.Frag} {H : Hp} {Q : VK} {E : XK} {i : Int} (q : Q (.bl true) H) : sp_is_whole K [.int i] H Q E := ⟨_, _, _, _, rfl, ty_int i, kb_ii, kb_ib, q⟩
theorem u_whole_bl {K : PySem.W.Frag} {H : Hp} {Q : VK} {E : XK} {i : Bool} (q : Q (.bl false) H) : sp_is_whole K [.bl i] H Q E := ⟨_, _, _, _, rfl, ty_bl i, kb_bi, kb_bb, q⟩
def sp_is_within (K : PySem.W.Frag) : Sp := fun vs H Q _ => ∃ (v : V) (lo hi : Int), vs = [v, .int lo, .int hi] ∧
  ((∃ i, v = .int i ∧ Q (.bl (decide (lo ≤ i) && decide (i ≤ hi))) H) ∨ ∃ (n : String) (b1 b2 : Bool), TyX K H v (.type n) ∧ kitB n "int" = some b1 ∧ kitB n "bool" = some b2 ∧ (b1 && !b2) = false ∧ Q (.bl false) H)
def sp_is_value (K : PySem.W.Frag) : Sp := fun vs H Q _ => ∃ (v : V), vs = [v] ∧
  ((∃ i, v = .int i ∧ Q (.bl (decide (-1000000000 ≤ i) && decide (i ≤ 1000000000))) H) ∨ (∃ b, v = .bl b ∧ Q (.bl true) H) ∨ ∃ (n : String), TyX K H v (.type n) ∧ kitB n "int" = some false ∧ kitB n "bool" = some false ∧ Q (.bl false) H)
theorem ok_is_whole (T : Txt K mg Z) : FnOk P w K mg base CX0 1 Z.f_is_whole Z.fd_is_whole ["thing"] (sp_is_whole K) := by
  refine T.F_is_whole.ok sc_is_whole (fun vs H Q E h => ?_) (fun cdv AA outer s H vs Q E hr h => ?_)
  · obtain ⟨v, n, b1, b2, rfl, _⟩ := h
    rfl
  · obtain ⟨v, n, b1, b2, rfl, ty, h1, h2, k⟩ := h
    refine ⟨_, (pss_one (ps_ret (pe_and (pe_callB call_isi (by rfl) T.n_isinstance (by decide +kernel) (pa_cons (pv 0) (pa_cons (pe_bltn (v := .ty "int") (by rfl) T.n_int (by decide +kernel) rfl) pa_nil))) (pe_one (pe_not (pe_callB call_isi (by rfl) T.n_isinstance (by decide +kernel) (pa_cons (pv 0) (pa_cons (pe_bltn (v := .ty "bool") (by rfl) T.n_bool (by decide +kernel) rfl) pa_nil)))))))), ?_⟩
    walk_at "ss"
    refine isi ty h1 ?_
    walk_at "ss"
    refine if_cs (fun hb => ?_) (fun hb => ?_)
    · walk_at "ss"
      refine isi ty h2 ?_
      walk_at "ss"
      subst hb
      exact k
    · walk_at "ss"
      subst hb
      exact k
theorem ok_is_within (T : Txt K mg Z) : FnOk P w K mg base CX0 2 Z.f_is_within Z.fd_is_within ["thing", "low", "high"] (sp_is_within K) := by
  have G_is_whole := ok_is_whole (P := P) (w := w) (base := base) T
  refine T.F_is_within.ok sc_is_within (fun vs H Q E h => ?_) (fun cdv AA outer s H vs Q E hr h => ?_)
  · obtain ⟨v, lo, hi, rfl, _⟩ := h
    rfl
  · obtain ⟨v, lo, hi, rfl, k⟩ := h
    refine ⟨_, (pss_one (ps_ret (pe_and (pe_call G_is_whole (hr.mono (by omega)) rfl T.g_is_whole T.F_is_whole.kp T.b_is_whole .nil pass0 (pa_cons (pv 0) pa_nil)) (pe_one (pe_chain op_le op_le (pv 1) (pv 0) (pv 2)))))), ?_⟩
    rcases k with ⟨i, rfl, k⟩ | ⟨n, b1, b2, ty, h1, h2, hb, k⟩
    · walk_at "ss"
      refine u_whole_int ?_
      walk_at "ss"
      refine if_cs (fun hb => ?_) (fun hb => ?_)
      · walk_at "ss"
        rw [hb] at k
        exact k
      · walk_at "ss"
        rw [hb] at k
        exact k
    · walk_at "ss"
      refine ⟨_, _, _, _, rfl, ty, h1, h2, ?_⟩
      walk_at "ss"
      exact if_ff hb k
theorem ok_is_value (T : Txt K mg Z) : FnOk P w K mg base CX0 3 Z.f_is_value Z.fd_is_value ["thing"] (sp_is_value K) := by
  have G_is_within := ok_is_within (P := P) (w := w) (base := base) T
  refine T.F_is_value.ok sc_is_value (fun vs H Q E h => ?_) (fun cdv AA outer s H vs Q E hr h => ?_)
  · obtain ⟨v, rfl, _⟩ := h
    rfl
  · obtain ⟨v, rfl, k⟩ := h
    refine ⟨_, (pss_one (ps_ret (pe_or (pe_callB call_isi (by rfl) T.n_isinstance (by decide +kernel) (pa_cons (pv 0) (pa_cons (pe_bltn (v := .ty "bool") (by rfl) T.n_bool (by decide +kernel) rfl) pa_nil))) (pe_one (pe_call G_is_within (hr.mono (by omega)) rfl T.g_is_within T.F_is_within.kp T.b_is_within .nil pass0 (pa_cons (pv 0) (pa_cons (pe_un un_neg (pe_gcst rfl T.c_MOST)) (pa_cons (pe_gcst rfl T.c_MOST) pa_nil)))))))), ?_⟩
    rcases k with ⟨i, rfl, k⟩ | ⟨b, rfl, k⟩ | ⟨n, ty, h1, h2, k⟩
    · walk_at "ss"
      refine isi (ty_int i) kb_ib ?_
      walk_at "ss"
      refine ⟨_, _, _, rfl, .inl ⟨_, rfl, ?_⟩⟩
      exact k
    · walk_at "ss"
      refine isi (ty_bl b) kb_bb ?_
      walk_at "ss"
      exact k
    · walk_at "ss"
      refine isi ty h2 ?_
      walk_at "ss"
      refine ⟨_, _, _, rfl, .inr ⟨_, _, _, ty, h1, h2, rfl, ?_⟩⟩
      exact k

/-! ### the law's cells and draws -/
def sp_cell_at_l (K : PySem.W.Frag) : Sp := fun vs H Q _ => ∃ (a : Addr) (ns : List Int) (k : Int), vs = [.ref a, .int k] ∧ SqL K H a (ns.map V.int) ∧ 0 ≤ k ∧ ∀ n, Q (.int n) H
def sp_box_l : Sp := fun vs H Q _ => ∃ (c : Int), vs = [.int c] ∧ ∀ p H2, H p = none → Ex H H2 → BoxAt H2 p → Q (.ref p) H2
def sp_take_l : Sp := fun vs H Q _ => ∃ (b : Addr) (m : Int), vs = [.ref b, .int m] ∧ BoxAt H b ∧ 0 < m ∧ m < 1099511627776 ∧ ∀ d H2, 0 ≤ d → d < m → ExB b H H2 → BoxAt H2 b → Q (.int d) H2
theorem ok_cell_at_l (T : Txt K mg Z) : FnOk P w K mg base CX0 1 Z.f_cell_at_l Z.fd_cell_at_l ["_law_script", "_law_k"] (sp_cell_at_l K) := by
  refine T.F_cell_at_l.ok sc_cell_at_l (fun vs H Q E h => ?_) (fun cdv AA outer s H vs Q E hr h => ?_)
  · obtain ⟨a, ns, k, rfl, _⟩ := h
    rfl
  · obtain ⟨a, ns, k, rfl, hS, h0, q⟩ := h
    refine ⟨_, (pss_cons (ps_if (pt_cmpR op_lt (pv 1) (pe_callB call_len_seq (by rfl) T.n_len (by decide +kernel) (pa_cons (pv 0) pa_nil)) (nomark _)) (pss_one (ps_ret (pe_ix ix_list (pv 0) (pv 1) (fun _ _ => rfl)))) pss_nil)
      (pss_one (ps_ret (pe_op op_add (pe_op op_mul pe_int (pv 1)) pe_int)))), ?_⟩
    walk_at "ss"
    refine ⟨_, _, rfl, .inl hS, ?_⟩
    walk_at "ss"
    refine if_cs (fun hb => ?_) (fun hb => ?_)
    · walk_at "ss"
      obtain ⟨j, rfl⟩ := Int.eq_ofNat_of_zero_le h0
      have hl := of_decide_eq_true hb
      rw [List.length_map] at hl
      have hj : j < ns.length := by omega
      refine c_ixL hS (atI_nat (v := .int (ns[j]'hj)) ?_) (q _)
      rw [List.getElem?_map, List.getElem?_eq_getElem hj] <;> rfl
    · walk_at "ss"
      refine c_I (.inl ⟨by decide, by decide⟩) ?_
      walk_at "ss"
      exact q _
theorem int_mul01 {a : Int} {b : Bool} : CMul a (if b = true then 1 else 0) := by
  refine .inr ?_
  cases b
  · exact ⟨by decide, by decide⟩
  · exact ⟨by decide, by decide⟩
theorem ok_box_l (T : Txt K mg Z) : FnOk P w K mg base CX0 1 Z.f_box_l Z.fd_box_l ["_law_cell"] sp_box_l := by
  refine T.F_box_l.ok sc_box_l (fun vs H Q E h => ?_) (fun cdv AA outer s H vs Q E hr h => ?_)
  · obtain ⟨c, rfl, _⟩ := h
    rfl
  · obtain ⟨c, rfl, k⟩ := h
    refine ⟨_, (pss_one (ps_ret (pe_lst (pa_cons (pe_op op_mul (pe_callB (call_max2 rfl) (by rfl) T.n_max (by decide +kernel) (pa_cons pe_int (pa_cons (pv 0) pa_nil))) (pe_callTy call_int1 (by rfl) T.n_int (by decide +kernel) (pa_cons (pe_cmpR op_ge (pv 0) (pe_op op_pow pe_int pe_int) (nomark _)) pa_nil))) (pa_cons (pe_op op_mod (pv 0) pe_int) (pa_cons pe_int pa_nil)))))), ?_⟩
    walk_at "ss"
    refine ⟨_, _, rfl, ?_⟩
    walk_at "ss"
    refine c_I ⟨by decide, by decide, by decide⟩ ?_
    walk_at "ss"
    refine .inr ⟨_, rfl, ?_⟩
    walk_at "ss"
    refine c_I int_mul01 ?_
    walk_at "ss"
    refine c_I (by decide) ?_
    walk_at "ss"
    refine newL fun p H2 hp e2 h2 => k p H2 hp e2 ⟨_, _, _, ⟨?_, Int.emod_nonneg _ (by decide), Int.lt_trans (Int.emod_lt_of_pos _ (by decide)) (by decide)⟩, h2⟩
    refine Int.mul_nonneg ?_ ?_
    · split <;> omega
    · split <;> omega
theorem ix3_0 {a b c : V} : atI [a, b, c] 0 = some a := rfl
theorem ix3_1 {a b c : V} : atI [a, b, c] 1 = some b := rfl
theorem ix3_2 {a b c : V} : atI [a, b, c] 2 = some c := rfl
theorem emod_mul {a m : Int} (h : 0 < m) (hm : m < 1073741824 * 1073741824) {b : Int} : CMul (a % m) b := by
  have h1 := Int.emod_nonneg a (by omega : m ≠ 0)
  have h2 := Int.emod_lt_of_pos a h
  exact .inl ⟨by omega, by omega⟩
theorem emod_mulR {a m : Int} (h : 0 < m) (hm : m < 1073741824 * 1073741824) {b : Int} : CMul b (a % m) := by
  have h1 := Int.emod_nonneg a (by omega : m ≠ 0)
  have h2 := Int.emod_lt_of_pos a h
  exact .inr ⟨by omega, by omega⟩
theorem divW {i m : Int} (h : 0 < m) (hm : m < 1099511627776) : CDivW i m := by
  refine ⟨h, ?_⟩
  have h0 : m.natAbs ≠ 0 := by omega
  have : m.natAbs.log2 < 40 := (Nat.log2_lt h0).mpr (by omega)
  omega
theorem pow5 {a m : Int} (h : 0 < m) (hm : m < 1073741824 * 1073741824) : CPow (a % m) 5 := by
  have h1 := Int.emod_nonneg a (by omega : m ≠ 0)
  have h2 := Int.emod_lt_of_pos a h
  exact ⟨by decide, by decide, by omega⟩
theorem ok_take_l (T : Txt K mg Z) : FnOk P w K mg base CX0 1 Z.f_take_l Z.fd_take_l ["_law_box_here", "_law_many"] sp_take_l := by
  refine T.F_take_l.ok sc_take_l (fun vs H Q E h => ?_) (fun cdv AA outer s H vs Q E hr h => ?_)
  · obtain ⟨b, m, rfl, _⟩ := h
    rfl
  · obtain ⟨b, m, rfl, ⟨x, y, z, ⟨hx, hy0, hy1⟩, hB⟩, m0, m1, k⟩ := h
    refine ⟨_, (pss_cons (ps_if (pt_cmpR op_gt (pe_ix ix_list (pv 0) pe_int (fun _ _ => rfl)) pe_int (nomark _)) (pss_cons (ps_set (i := 2) sc_take_l.nd rfl (Or.inl rfl) (pe_op op_mod (pe_ix ix_list (pv 0) pe_int (fun _ _ => rfl)) (pv 1)))
      (pss_cons (ps_asg (pe_op op_fdivW (pe_ix ix_list (pv 0) pe_int (fun _ _ => rfl)) (pv 1)) (pg_sub (pv 0) pe_int set_list))
      (pss_one (ps_ret (pv 2))))) pss_nil)
      (pss_cons (ps_asg (pe_op op_add (pe_ix ix_list (pv 0) pe_int (fun _ _ => rfl)) pe_int) (pg_sub (pv 0) pe_int set_list))
      (pss_cons (ps_set (i := 3) sc_take_l.nd rfl (Or.inl rfl) (pe_op op_mod (pe_op op_add (pe_op op_add (pe_op op_mul (pe_ix ix_list (pv 0) pe_int (fun _ _ => rfl)) (pe_op op_add (pe_ix ix_list (pv 0) pe_int (fun _ _ => rfl)) pe_int)) (pe_op op_mul pe_int (pe_ix ix_list (pv 0) pe_int (fun _ _ => rfl)))) pe_int) pe_int))
      (pss_cons (ps_set (i := 3) sc_take_l.nd rfl (Or.inl rfl) (pe_op op_mod (pe_op op_add (pe_op op_pow (pv 3) pe_int) (pe_op op_mul pe_int (pe_ix ix_list (pv 0) pe_int (fun _ _ => rfl)))) pe_int))
      (pss_one (ps_ret (pe_op op_mod (pe_op op_fdiv (pe_op op_mod (pe_op op_add (pe_op op_pow (pv 3) pe_int) pe_int) pe_int) pe_int) (pv 1)))))))), ?_⟩
    walk_at "ss"
    refine c_ixL (SqL.of hB) ix3_0 ?_
    walk_at "ss"
    refine if_cs (fun hb => ?_) (fun hb => ?_)
    · walk_at "ss"
      refine c_ixL (SqL.of hB) ix3_0 ?_
      walk_at "ss"
      refine c_I m0 ?_
      walk_at "ss"
      refine c_ixL (SqL.of hB) ix3_0 ?_
      walk_at "ss"
      refine c_I (divW m0 m1) ?_
      walk_at "ss"
      refine c_setL hB rfl ?_
      walk_at "ss"
      refine k _ _ (Int.emod_nonneg _ (by omega)) (Int.emod_lt_of_pos _ m0) ExB.upd ⟨_, _, _, ⟨Int.ediv_nonneg hx (by omega), hy0, hy1⟩, upd_same⟩
    · walk_at "ss"
      refine c_ixL (SqL.of hB) ix3_2 ?_
      walk_at "ss"
      refine c_setL hB rfl ?_
      have hB2 : (upd H b (.lst [.int x, .int y, .int (z + 1)])) b = some (.lst [.int x, .int y, .int (z + 1)]) := upd_same
      walk_at "ss"
      refine c_ixL (SqL.of hB2) ix3_1 ?_
      walk_at "ss"
      refine c_ixL (SqL.of hB2) ix3_2 ?_
      walk_at "ss"
      refine c_I (.inl ⟨by omega, by omega⟩) ?_
      walk_at "ss"
      refine c_ixL (SqL.of hB2) ix3_2 ?_
      walk_at "ss"
      refine c_I (.inl ⟨by decide, by decide⟩) ?_
      walk_at "ss"
      refine c_I (by decide) ?_
      walk_at "ss"
      refine c_I (pow5 (by decide) (by decide)) ?_
      walk_at "ss"
      refine c_ixL (SqL.of hB2) ix3_2 ?_
      walk_at "ss"
      refine c_I (.inl ⟨by decide, by decide⟩) ?_
      walk_at "ss"
      refine c_I (by decide) ?_
      walk_at "ss"
      refine c_I (pow5 (by decide) (by decide)) ?_
      walk_at "ss"
      refine c_I (by decide) ?_
      walk_at "ss"
      refine c_I ⟨by decide, by decide⟩ ?_
      walk_at "ss"
      refine c_I m0 ?_
      exact k _ _ (Int.emod_nonneg _ (by omega)) (Int.emod_lt_of_pos _ m0) ExB.upd ⟨_, _, _, ⟨hx, hy0, hy1⟩, upd_same⟩

theorem box_ne {H : Hp} {b a : Addr} {o : HO} (h : BoxAt H b) (ha : H a = some o) (n : ∀ x y z : Int, o ≠ .lst [.int x, .int y, .int z]) : a ≠ b := by
  obtain ⟨x, y, z, _, q⟩ := h
  exact ne_of ha q (n x y z)
theorem at4 {v0 v1 v2 v3 : V} {d : Int} (h0 : 0 ≤ d) (h1 : d < 4) : ∃ v, atI [v0, v1, v2, v3] d = some v ∧ (d = 0 ∧ v = v0 ∨ d = 1 ∧ v = v1 ∨ d = 2 ∧ v = v2 ∨ d = 3 ∧ v = v3) := by
  have : d = 0 ∨ d = 1 ∨ d = 2 ∨ d = 3 := by omega
  rcases this with rfl | rfl | rfl | rfl
  · exact ⟨v0, rfl, .inl ⟨rfl, rfl⟩⟩
  · exact ⟨v1, rfl, .inr (.inl ⟨rfl, rfl⟩)⟩
  · exact ⟨v2, rfl, .inr (.inr (.inl ⟨rfl, rfl⟩))⟩
  · exact ⟨v3, rfl, .inr (.inr (.inr ⟨rfl, rfl⟩))⟩
/-- an item of a list that is asked by a draw: it is one of them -/
theorem at_in {xs : List V} {d : Int} (h0 : 0 ≤ d) (h1 : d < (xs.length : Int)) : ∃ v, atI xs d = some v ∧ v ∈ xs := by
  obtain ⟨j, rfl⟩ := Int.eq_ofNat_of_zero_le h0
  have hj : j < xs.length := by omega
  exact ⟨xs[j], atI_nat (List.getElem?_eq_getElem hj), List.getElem_mem hj⟩

/-! ### names -/
open TL (tl)
def ownW : List Str := ["node", "in", "out", "before", "when", "hold", "like", "same", "call", "true", "false", "mod", "beat", "desk"]
def ownV : List V := ownW.map V.str
def letC (c : Nat) : Bool := decide (97 ≤ c) && decide (c ≤ 122)
theorem tl_let : ∀ c : Nat, decide (c ∈ tl "abcdefghijklmnopqrstuvwxyz") = letC c := by
  intro c
  have e : tl "abcdefghijklmnopqrstuvwxyz" = [97, 98, 99, 100, 101, 102, 103, 104, 105, 106, 107, 108, 109, 110, 111, 112, 113, 114, 115, 116, 117, 118, 119, 120, 121, 122] := by decide +kernel
  rw [e]
  unfold letC
  rw [Bool.eq_iff_iff, decide_eq_true_eq, Bool.and_eq_true, decide_eq_true_eq, decide_eq_true_eq]
  simp only [List.mem_cons, List.not_mem_nil, or_false]
  omega
def isName (t : Str) : Bool := (decide (1 ≤ (t.length : Int)) && decide ((t.length : Int) ≤ 8)) && !inV (.str t) ownV && (tl t).all letC
def isPointed (t : Str) : Bool := decide ((t.length : Int) ≤ 80) && (Txt.split t ".").all isName
theorem kb_ss : kitB "str" "str" = some true := by decide +kernel
def sp_is_name (K : PySem.W.Frag) : Sp := fun vs H Q _ => ∃ (v : V), vs = [v] ∧ ((∃ t : Str, v = .str t ∧ t.length ≤ 50000 ∧ RetV (.bl (isName t)) H Q) ∨ ∃ n : String, TyX K H v (.type n) ∧ kitB n "str" = some false ∧ Q (.bl false) H)
theorem own_flat : ownV.all flatV = true := rfl
theorem ok_is_name (T : Txt K mg Z) : FnOk P w K mg base CX0 1 Z.f_is_name Z.fd_is_name ["thing"] (sp_is_name K) := by
  refine T.F_is_name.ok sc_is_name (fun vs H Q E h => ?_) (fun cdv AA outer s H vs Q E hr h => ?_)
  · obtain ⟨v, rfl, _⟩ := h
    rfl
  · obtain ⟨v, rfl, h⟩ := h
    refine ⟨_, (pss_cons (ps_if (PW.pt (pw_or (pt_not (pt_val (pe_callB call_isi (by rfl) T.n_isinstance (by decide +kernel) (pa_cons (pv 0) (pa_cons (pe_bltn (v := .ty "str") (by rfl) T.n_str (by decide +kernel) rfl) pa_nil))))) (pw_or (pt_not (pt_chain op_le op_le pe_int (pe_callB call_len_str (by rfl) T.n_len (by decide +kernel) (pa_cons (pv 0) pa_nil)) (pe_gcst rfl T.c_LONGEST))) (pw_or1 (pt_cmpR op_in_seq (pv 0) (pe_gcst rfl T.c_OWN) (by rfl)))))) (pss_one (ps_ret pe_bl)) pss_nil)
      (pss_one (ps_ret (pe_callB (cr_all rfl) (by rfl) T.n_all (by decide +kernel) (pa_cons (pe_lc (own := [("sign", 1)]) (g := (gName 1)) (tt := tYes) (te := (tOp (fun x y H Q => ∃ (c : Nat) (z : Str), x = .str ⟨#[c]⟩ ∧ y = .str z ∧ Q (.bl (decide (c ∈ z.cps.toList))) H) (tVar 1) (tC (.str "abcdefghijklmnopqrstuvwxyz")))) rfl sc_is_name.nd (pi_str (pv 0)) (blkOk_by (own := [("sign", 1)]) (N := N_is_name) (sc := defScope s_is_name) (by decide +kernel)) (fun _ _ _ _ _ => (pg_name (i := 1) sc_is_name.nd rfl (Or.inl rfl))) (fun _ _ _ _ _ => pts_nil) (fun _ _ _ _ _ => (pe_cmpR op_in_sign (pv 1) (pe_gcst rfl T.c_LETTERS) (by rfl)))) pa_nil))))), ?_⟩
    rcases h with ⟨t, rfl, hl, k⟩ | ⟨n, ty, kb, k⟩
    · unfold isName at k
      walk_at "ss"
      refine isi (ty_str t) kb_ss ?_
      walk_at "ss"
      refine ⟨Evl.sz_of (by omega), ?_⟩
      walk_at "ss"
      cases hlen : (decide (1 ≤ (t.length : Int)) && decide ((t.length : Int) ≤ 8)) with
      | false =>
        rw [hlen] at k
        refine if_cs (fun h1 => ?_) (fun h1 => ?_)
        · walk_at "ss"
          rw [h1, Bool.true_and] at hlen
          rw [hlen]
          walk_at "ss"
          exact k _ (Ex.refl _)
        · walk_at "ss"
          exact k _ (Ex.refl _)
      | true =>
        rw [hlen, Bool.true_and] at k
        rw [Bool.and_eq_true] at hlen
        rw [hlen.1]
        walk_at "ss"
        rw [hlen.2]
        walk_at "ss"
        refine c_in (.inr (T.t_OWN _)) rfl own_flat ?_
        refine ⟨_, rfl, if_cs (fun ho => ?_) (fun ho => ?_)⟩
        · have ho' : inV (.str t) ownV = true := ho
          rw [ho'] at k
          walk_at "ss"
          exact k _ (Ex.refl _)
        have ho' : inV (.str t) ownV = false := ho
        rw [ho', Bool.not_false, Bool.true_and] at k
        walk_at "ss"
        refine lcS (fun c => some (.bl (letC c))) hl (fun c hc => ?_) ?_
        · intro H2 e2 R hR
          walk_at "ss"
          rw [show decide (c ∈ (Str.ofString "abcdefghijklmnopqrstuvwxyz").cps.toList) = letC c from tl_let c]
          exact hR _ (Ex.refl _)
        rw [fm_some]
        intro p H2 hp e2 h2
        walk_at "ss"
        refine ⟨p, (tl t).map letC, rfl, SqL.of (by rw [h2, List.map_map]; rfl), ?_⟩
        have ea : ((tl t).map letC).all id = (tl t).all letC := by rw [List.all_map]; rfl
        rw [ea]
        exact k _ e2
    · walk_at "ss"
      refine isi ty kb ?_
      walk_at "ss"
      exact k
/-! parts of a split text -/
theorem spl_parts (S : List Nat) : ∀ (k : Nat) (acc l : List Nat) (p : List Nat), p ∈ TL.spl S k acc l → p.length ≤ acc.length + l.length ∧ ∀ c ∈ p, c ∈ acc ∨ c ∈ l := by
  intro k acc l
  induction l generalizing k acc with
  | nil =>
    intro p hp
    rw [TL.spl_nil] at hp
    have : p = acc := by simpa using hp
    subst this
    exact ⟨by simp, fun c hc => .inl hc⟩
  | cons a l ih =>
    intro p hp
    cases k with
    | succ k =>
      have hp' : p ∈ TL.spl S k acc l := hp
      obtain ⟨h1, h2⟩ := ih k acc p hp'
      exact ⟨by rw [List.length_cons]; omega, fun c hc => (h2 c hc).imp id (List.mem_cons_of_mem _)⟩
    | zero =>
      cases hh : TL.pre S (a :: l) with
      | true =>
        rw [TL.spl_hit hh] at hp
        rcases List.mem_cons.mp hp with rfl | hp
        · exact ⟨by omega, fun c hc => .inl hc⟩
        · obtain ⟨h1, h2⟩ := ih _ [] p hp
          exact ⟨by rw [List.length_nil] at h1; rw [List.length_cons]; omega, fun c hc => .inr (List.mem_cons_of_mem _ ((h2 c hc).resolve_left (by simp)))⟩
      | false =>
        rw [TL.spl_miss hh] at hp
        obtain ⟨h1, h2⟩ := ih 0 (acc ++ [a]) p hp
        refine ⟨by rw [List.length_append, List.length_singleton] at h1; rw [List.length_cons]; omega, fun c hc => ?_⟩
        rcases h2 c hc with h | h
        · rcases List.mem_append.mp h with h | h
          · exact .inl h
          · exact .inr (by have : c = a := by simpa using h
                           rw [this]; exact List.mem_cons_self)
        · exact .inr (List.mem_cons_of_mem _ h)
theorem split_pt {t p : Str} (h : p ∈ Txt.split t ".") : p.length ≤ t.length ∧ ∀ c ∈ tl p, c ∈ tl t := by
  have e := TL.split_spl t "." (by decide +kernel) (TL.kind_ok (by decide +kernel))
  have hm : tl p ∈ TL.spl (tl ".") 0 [] (tl t) := by
    rw [← e]
    exact List.mem_map_of_mem h
  obtain ⟨h1, h2⟩ := spl_parts _ _ _ _ _ hm
  rw [tl_len, tl_len, List.length_nil, Nat.zero_add] at h1
  exact ⟨h1, fun c hc => (h2 c hc).resolve_left (by simp)⟩
def sp_is_pointed (K : PySem.W.Frag) : Sp := fun vs H Q _ => ∃ (v : V), vs = [v] ∧ ((∃ t : Str, v = .str t ∧ t.length ≤ 40000 ∧ RetV (.bl (isPointed t)) H Q) ∨ ∃ n : String, TyX K H v (.type n) ∧ kitB n "str" = some false ∧ Q (.bl false) H)
theorem spl_count (S : List Nat) : ∀ (k : Nat) (acc l : List Nat), (TL.spl S k acc l).length ≤ l.length + 1 := by
  intro k acc l
  induction l generalizing k acc with
  | nil => rw [TL.spl_nil]; simp
  | cons a l ih =>
    cases k with
    | succ k => exact Nat.le_trans (ih k acc) (by rw [List.length_cons]; omega)
    | zero =>
      cases hh : TL.pre S (a :: l) with
      | true =>
        rw [TL.spl_hit hh, List.length_cons, List.length_cons]
        exact Nat.succ_le_succ (ih _ [])
      | false =>
        rw [TL.spl_miss hh, List.length_cons]
        exact Nat.le_trans (ih 0 _) (by omega)
theorem split_count {t : Str} : (Txt.split t ".").length ≤ t.length + 1 := by
  have e := TL.split_spl t "." (by decide +kernel) (TL.kind_ok (by decide +kernel))
  have h := spl_count (tl ".") 0 [] (tl t)
  rw [← e, List.length_map, tl_len] at h
  exact h
theorem ok_is_pointed (T : Txt K mg Z) : FnOk P w K mg base CX0 2 Z.f_is_pointed Z.fd_is_pointed ["thing"] (sp_is_pointed K) := by
  have G_is_name := ok_is_name (P := P) (w := w) (base := base) T
  refine T.F_is_pointed.ok sc_is_pointed (fun vs H Q E h => ?_) (fun cdv AA outer s H vs Q E hr h => ?_)
  · obtain ⟨v, rfl, _⟩ := h
    rfl
  · obtain ⟨v, rfl, h⟩ := h
    refine ⟨_, (pss_cons (ps_if (PW.pt (pw_or (pt_not (pt_val (pe_callB call_isi (by rfl) T.n_isinstance (by decide +kernel) (pa_cons (pv 0) (pa_cons (pe_bltn (v := .ty "str") (by rfl) T.n_str (by decide +kernel) rfl) pa_nil))))) (pw_or1 (pt_cmpR op_gt (pe_callB call_len_str (by rfl) T.n_len (by decide +kernel) (pa_cons (pv 0) pa_nil)) (pe_gcst rfl T.c_MOST_SIGNS) (nomark _))))) (pss_one (ps_ret pe_bl)) pss_nil)
      (pss_one (ps_ret (pe_callB (cr_all rfl) (by rfl) T.n_all (by decide +kernel) (pa_cons (pe_lc (own := [("part", 1)]) (g := (gName 1)) (tt := tYes) (te := (tCall (sp_is_name K) [] E0 (tCons (tVar 1) tNil))) rfl sc_is_pointed.nd (pi_list (pe_split (pv 0) pe_str)) (blkOk_by (own := [("part", 1)]) (N := N_is_pointed) (sc := defScope s_is_pointed) (by decide +kernel)) (fun _ _ _ _ _ => (pg_name (i := 1) sc_is_pointed.nd rfl (Or.inl rfl))) (fun _ _ _ _ _ => pts_nil) (fun _ _ _ _ _ => (pe_call G_is_name (hr.mono (by omega)) rfl T.g_is_name T.F_is_name.kp T.b_is_name .nil pass0 (pa_cons (pv 1) pa_nil)))) pa_nil))))), ?_⟩
    rcases h with ⟨t, rfl, hl, k⟩ | ⟨n, ty, kb, k⟩
    · unfold isPointed at k
      walk_at "ss"
      refine isi (ty_str t) kb_ss ?_
      walk_at "ss"
      refine ⟨Evl.sz_of (by omega), ?_⟩
      walk_at "ss"
      refine if_cs (fun h80 => ?_) (fun h80 => ?_)
      · have : ¬ (t.length : Int) ≤ 80 := by have := of_decide_eq_true h80; omega
        rw [decide_eq_false this] at k
        walk_at "ss"
        exact k _ (Ex.refl _)
      have : (t.length : Int) ≤ 80 := by have := of_decide_eq_false h80; omega
      rw [decide_eq_true this, Bool.true_and] at k
      walk_at "ss"
      refine ⟨⟨_, rfl⟩, ?_⟩
      walk_at "ss"
      refine ⟨Evl.sz_of (by omega), fun q hq => ?_⟩
      have f1 : Ex H (upd H q (.lst ((Txt.split t ".").map V.str))) := Ex.new hq
      generalize hH1 : upd H q (.lst ((Txt.split t ".").map V.str)) = H1 at f1
      have g1 : H1 q = some (.lst ((Txt.split t ".").map V.str)) := by rw [← hH1, upd_same]
      walk_at "ss"
      refine ⟨⟨_, SqL.of g1⟩, lcLv (fun v => match v with | .str p => some (.bl (isName p)) | _ => none) (SqL.of g1) (by have := split_count (t := t); rw [List.length_map]; omega) (fun v hv => ?_) ?_⟩
      · obtain ⟨p, hp, rfl⟩ := List.mem_map.mp hv
        have hpl := (split_pt hp).1
        intro H2 e2 R hR
        walk_at "ss"
        refine ⟨_, rfl, .inl ⟨_, rfl, by omega, fun H3 e3 => ?_⟩⟩
        exact hR _ e3
      have em : ((Txt.split t ".").map V.str).filterMap (fun v => match v with | .str p => some (V.bl (isName p)) | _ => none) = ((Txt.split t ".").map isName).map V.bl := by
        rw [List.filterMap_map, List.map_map]
        exact fm_some (F := fun p => V.bl (isName p)) _
      rw [em]
      intro p2 H2 hp2 e2 g2
      walk_at "ss"
      refine ⟨p2, (Txt.split t ".").map isName, rfl, SqL.of g2, ?_⟩
      have ea : ((Txt.split t ".").map isName).all id = (Txt.split t ".").all isName := by rw [List.all_map]; rfl
      rw [ea]
      exact k _ (f1.trans e2)
    · walk_at "ss"
      refine isi ty kb ?_
      walk_at "ss"
      exact k

/-! ### terms: the plain side -/
inductive Tm where
  | nm (s : Str)
  | vl (v : V)
  | two (op : Str) (a b : Tm)
  | nt (a : Tm)
  | pk (c a b : Tm)
def Tm.parts : Tm → List Tm
  | .two _ a b => [a, b]
  | .nt a => [a]
  | .pk c a b => [c, a, b]
  | _ => []
def Tm.dep : Tm → Nat
  | .nm _ => 1
  | .vl _ => 1
  | .two _ a b => 1 + max a.dep b.dep
  | .nt a => 1 + a.dep
  | .pk c a b => 1 + max (max c.dep a.dep) b.dep
def addN (found more : List Str) : List Str := found ++ more.filter fun n => !found.contains n
def Tm.names : Tm → List Str
  | .nm s => [s]
  | .vl _ => []
  | .two _ a b => addN (addN [] a.names) b.names
  | .nt a => addN [] a.names
  | .pk c a b => addN (addN (addN [] c.names) a.names) b.names
theorem Tm.names_parts (t : Tm) (h : ∀ s, t ≠ .nm s) : t.names = t.parts.foldl (fun acc p => addN acc p.names) [] := by
  cases t with
  | nm s => exact absurd rfl (h s)
  | vl v => rfl
  | two op a b => rfl
  | nt a => rfl
  | pk c a b => rfl
theorem Tm.dep_parts (t : Tm) : (t.dep : Int) = 1 + maxL (t.parts.map fun p => (p.dep : Int)) := by
  have m2 : ∀ a b : Nat, PySem.W.maxOf (a : Int) [(b : Int)] = ((max a b : Nat) : Int) := by
    intro a b
    show (if decide ((a : Int) < (b : Int)) = true then (b : Int) else (a : Int)) = _
    by_cases h : (a : Int) < (b : Int)
    · rw [if_pos (decide_eq_true h)]; omega
    · rw [if_neg (by rw [decide_eq_false h]; decide)]; omega
  have m3 : ∀ a b c : Nat, PySem.W.maxOf (a : Int) [(b : Int), (c : Int)] = ((max (max a b) c : Nat) : Int) := by
    intro a b c
    have h1 := m2 a b
    have h2 := m2 (max a b) c
    show PySem.W.maxOf (PySem.W.maxOf (a : Int) [(b : Int)]) [(c : Int)] = _
    rw [h1, h2]
  cases t with
  | nm s => rfl
  | vl v => rfl
  | two op a b =>
    show ((1 + max a.dep b.dep : Nat) : Int) = 1 + PySem.W.maxOf (a.dep : Int) [(b.dep : Int)]
    rw [m2]; omega
  | nt a =>
    show ((1 + a.dep : Nat) : Int) = 1 + (a.dep : Int)
    omega
  | pk c a b =>
    show ((1 + max (max c.dep a.dep) b.dep : Nat) : Int) = 1 + PySem.W.maxOf (c.dep : Int) [(a.dep : Int), (b.dep : Int)]
    rw [m3]; omega
theorem Tm.dep_pos (t : Tm) : 1 ≤ t.dep := by cases t <;> simp [Tm.dep] <;> omega
theorem Tm.dep_part {t p : Tm} (h : p ∈ t.parts) : p.dep + 1 ≤ t.dep := by
  cases t with
  | nm s => cases h
  | vl v => cases h
  | two op a b =>
    simp only [Tm.parts, List.mem_cons, List.not_mem_nil, or_false] at h
    rcases h with rfl | rfl <;> simp only [Tm.dep] <;> omega
  | nt a =>
    simp only [Tm.parts, List.mem_cons, List.not_mem_nil, or_false] at h
    subst h; simp only [Tm.dep]; omega
  | pk c a b =>
    simp only [Tm.parts, List.mem_cons, List.not_mem_nil, or_false] at h
    rcases h with rfl | rfl | rfl <;> simp only [Tm.dep] <;> omega
theorem Tm.parts_len (t : Tm) : t.parts.length ≤ 3 := by cases t <;> simp [Tm.parts]
/-! ### terms in the heap -/
def TermAt (Z : Adr) (H : Hp) : Tm → V → Prop
  | .nm s, v => ∃ a dx, v = .ref a ∧ H a = some (.ins Z.c_Name dx [("name", .str s)])
  | .vl x, v => ∃ a dx, v = .ref a ∧ H a = some (.ins Z.c_Value dx [("amount", x)])
  | .two op p q, v => ∃ a dx v1 v2, v = .ref a ∧ H a = some (.ins Z.c_Two dx [("op", .str op), ("one", v1), ("second", v2)]) ∧ TermAt Z H p v1 ∧ TermAt Z H q v2
  | .nt p, v => ∃ a dx v1, v = .ref a ∧ H a = some (.ins Z.c_Not dx [("one", v1)]) ∧ TermAt Z H p v1
  | .pk c p q, v => ∃ a dx v0 v1 v2, v = .ref a ∧ H a = some (.ins Z.c_Pick dx [("by", v0), ("one", v1), ("second", v2)]) ∧ TermAt Z H c v0 ∧ TermAt Z H p v1 ∧ TermAt Z H q v2
def InsK (H H2 : Hp) : Prop := ∀ a C dx fs, H a = some (.ins C dx fs) → H2 a = some (.ins C dx fs)
theorem TermAt.keep {Z : Adr} {H H2 : Hp} (e : InsK H H2) : ∀ {t : Tm} {v : V}, TermAt Z H t v → TermAt Z H2 t v := by
  intro t
  induction t with
  | nm s => rintro v ⟨a, dx, h1, h2⟩; exact ⟨a, dx, h1, e _ _ _ _ h2⟩
  | vl x => rintro v ⟨a, dx, h1, h2⟩; exact ⟨a, dx, h1, e _ _ _ _ h2⟩
  | two op p q ihp ihq => rintro v ⟨a, dx, v1, v2, h1, h2, h3, h4⟩; exact ⟨a, dx, v1, v2, h1, e _ _ _ _ h2, ihp h3, ihq h4⟩
  | nt p ihp => rintro v ⟨a, dx, v1, h1, h2, h3⟩; exact ⟨a, dx, v1, h1, e _ _ _ _ h2, ihp h3⟩
  | pk c p q ihc ihp ihq => rintro v ⟨a, dx, v0, v1, v2, h1, h2, h3, h4, h5⟩; exact ⟨a, dx, v0, v1, v2, h1, e _ _ _ _ h2, ihc h3, ihp h4, ihq h5⟩
theorem TermAt.up {Z : Adr} {H H2 : Hp} {t : Tm} {v : V} (h : TermAt Z H t v) (e : Ex H H2) : TermAt Z H2 t v := h.keep fun a C dx fs q => e _ _ q
theorem TermAt.upB {Z : Adr} {H H2 : Hp} {t : Tm} {v : V} {b : Addr} (h : TermAt Z H t v) (e : ExB b H H2) (hB : BoxAt H b) : TermAt Z H2 t v := h.keep fun a C dx fs q => e _ _ (box_ne hB q (fun _ _ _ z => by cases z)) q
def MC (Z : Adr) (C : Addr) : Prop := C = Z.c_Name ∨ C = Z.c_Value ∨ C = Z.c_Two ∨ C = Z.c_Not ∨ C = Z.c_Pick
/-- the class that a term is made of -/
def clsT (Z : Adr) : Tm → Addr
  | .nm _ => Z.c_Name
  | .vl _ => Z.c_Value
  | .two .. => Z.c_Two
  | .nt _ => Z.c_Not
  | .pk .. => Z.c_Pick
theorem clsT_MC (Z : Adr) (t : Tm) : MC Z (clsT Z t) := by
  cases t
  · exact .inl rfl
  · exact .inr (.inl rfl)
  · exact .inr (.inr (.inl rfl))
  · exact .inr (.inr (.inr (.inl rfl)))
  · exact .inr (.inr (.inr (.inr rfl)))
def fieldsOff (fs : List (Str × V)) : Prop := fs.lookup ("parts" : Str) = none ∧ fs.lookup ("names" : Str) = none ∧ fs.lookup ("levels" : Str) = none ∧ fs.lookup ("told" : Str) = none
theorem TermAt.cls {Z : Adr} {H : Hp} {t : Tm} {v : V} (h : TermAt Z H t v) : ∃ a dx fs, v = .ref a ∧ H a = some (.ins (clsT Z t) dx fs) ∧ fieldsOff fs := by
  have n1 : ∀ m f : Str, m ≠ f → (m == f) = false := fun m f h => by simpa using h
  cases t with
  | nm s =>
    obtain ⟨a, dx, h1, h2⟩ := h
    refine ⟨a, dx, _, h1, h2, ?_, ?_, ?_, ?_⟩ <;> (simp only [List.lookup]; rw [n1 _ _ (by decide +kernel)])
  | vl x =>
    obtain ⟨a, dx, h1, h2⟩ := h
    refine ⟨a, dx, _, h1, h2, ?_, ?_, ?_, ?_⟩ <;> (simp only [List.lookup]; rw [n1 _ _ (by decide +kernel)])
  | two op p q =>
    obtain ⟨a, dx, v1, v2, h1, h2, _⟩ := h
    refine ⟨a, dx, _, h1, h2, ?_, ?_, ?_, ?_⟩ <;> (simp only [List.lookup]; rw [n1 _ _ (by decide +kernel)]; simp only []; rw [n1 _ _ (by decide +kernel)]; simp only []; rw [n1 _ _ (by decide +kernel)])
  | nt p =>
    obtain ⟨a, dx, v1, h1, h2, _⟩ := h
    refine ⟨a, dx, _, h1, h2, ?_, ?_, ?_, ?_⟩ <;> (simp only [List.lookup]; rw [n1 _ _ (by decide +kernel)])
  | pk c p q =>
    obtain ⟨a, dx, v0, v1, v2, h1, h2, _⟩ := h
    refine ⟨a, dx, _, h1, h2, ?_, ?_, ?_, ?_⟩ <;> (simp only [List.lookup]; rw [n1 _ _ (by decide +kernel)]; simp only []; rw [n1 _ _ (by decide +kernel)]; simp only []; rw [n1 _ _ (by decide +kernel)])

/-! ### methods of terms: parts, levels, names -/
theorem lk_hd {f : Str} {v : V} {fs : List (Str × V)} : List.lookup f ((f, v) :: fs) = some v := by simp [List.lookup]
theorem lk_tl {f g : Str} {v : V} {fs : List (Str × V)} {r : Option V} (h : (f == g) = false) (k : List.lookup f fs = r) : List.lookup f ((g, v) :: fs) = r := by
  simp only [List.lookup, h]
  exact k
theorem put_tl {f g : Str} {v w : V} {fs : List (Str × V)} (h : decide (g = f) = false) : putF f v ((g, w) :: fs) = (g, w) :: putF f v fs := by rw [putF, if_neg (of_decide_eq_false h)]
theorem cls_two (T : Txt K mg Z) {t : Tm} (h : clsT Z t = Z.c_Two) : ∃ op a b, t = .two op a b := by
  cases t with
  | nm s => exact absurd h (difB_ne (i := 0) (j := 2) T.fact_dif rfl rfl (by decide))
  | vl s => exact absurd h (difB_ne (i := 1) (j := 2) T.fact_dif rfl rfl (by decide))
  | two op a b => exact ⟨_, _, _, rfl⟩
  | nt a => exact absurd h.symm (difB_ne (i := 2) (j := 3) T.fact_dif rfl rfl (by decide))
  | pk c a b => exact absurd h.symm (difB_ne (i := 2) (j := 4) T.fact_dif rfl rfl (by decide))
theorem cls_nt (T : Txt K mg Z) {t : Tm} (h : clsT Z t = Z.c_Not) : ∃ a, t = .nt a := by
  cases t with
  | nm s => exact absurd h (difB_ne (i := 0) (j := 3) T.fact_dif rfl rfl (by decide))
  | vl s => exact absurd h (difB_ne (i := 1) (j := 3) T.fact_dif rfl rfl (by decide))
  | two op a b => exact absurd h (difB_ne (i := 2) (j := 3) T.fact_dif rfl rfl (by decide))
  | nt a => exact ⟨_, rfl⟩
  | pk c a b => exact absurd h.symm (difB_ne (i := 3) (j := 4) T.fact_dif rfl rfl (by decide))
theorem cls_pk (T : Txt K mg Z) {t : Tm} (h : clsT Z t = Z.c_Pick) : ∃ c a b, t = .pk c a b := by
  cases t with
  | nm s => exact absurd h (difB_ne (i := 0) (j := 4) T.fact_dif rfl rfl (by decide))
  | vl s => exact absurd h (difB_ne (i := 1) (j := 4) T.fact_dif rfl rfl (by decide))
  | two op a b => exact absurd h (difB_ne (i := 2) (j := 4) T.fact_dif rfl rfl (by decide))
  | nt a => exact absurd h (difB_ne (i := 3) (j := 4) T.fact_dif rfl rfl (by decide))
  | pk c a b => exact ⟨_, _, _, rfl⟩
theorem cls_nm (T : Txt K mg Z) {t : Tm} (h : clsT Z t = Z.c_Name) : ∃ s, t = .nm s := by
  cases t with
  | nm s => exact ⟨_, rfl⟩
  | vl s => exact absurd h.symm (difB_ne (i := 0) (j := 1) T.fact_dif rfl rfl (by decide))
  | two op a b => exact absurd h.symm (difB_ne (i := 0) (j := 2) T.fact_dif rfl rfl (by decide))
  | nt a => exact absurd h.symm (difB_ne (i := 0) (j := 3) T.fact_dif rfl rfl (by decide))
  | pk c a b => exact absurd h.symm (difB_ne (i := 0) (j := 4) T.fact_dif rfl rfl (by decide))
theorem cls_vl (T : Txt K mg Z) {t : Tm} (h : clsT Z t = Z.c_Value) : ∃ s, t = .vl s := by
  cases t with
  | nm s => exact absurd h (difB_ne (i := 0) (j := 1) T.fact_dif rfl rfl (by decide))
  | vl s => exact ⟨_, rfl⟩
  | two op a b => exact absurd h.symm (difB_ne (i := 1) (j := 2) T.fact_dif rfl rfl (by decide))
  | nt a => exact absurd h.symm (difB_ne (i := 1) (j := 3) T.fact_dif rfl rfl (by decide))
  | pk c a b => exact absurd h.symm (difB_ne (i := 1) (j := 4) T.fact_dif rfl rfl (by decide))
def PartsAt (Z : Adr) (H : Hp) : List Tm → List V → Prop
  | [], [] => True
  | t :: ts, v :: vs => TermAt Z H t v ∧ PartsAt Z H ts vs
  | _, _ => False
theorem PartsAt.len {Z : Adr} {H : Hp} : ∀ {ts : List Tm} {vs : List V}, PartsAt Z H ts vs → vs.length = ts.length
  | [], [], _ => rfl
  | t :: ts, v :: vs, h => by rw [List.length_cons, List.length_cons, PartsAt.len h.2]
theorem PartsAt.at {Z : Adr} {H : Hp} : ∀ {ts : List Tm} {vs : List V} {i : Nat} {v : V}, PartsAt Z H ts vs → vs[i]? = some v → ∃ t, ts[i]? = some t ∧ TermAt Z H t v
  | [], [], i, v, _, h => by simp at h
  | t :: ts, w :: vs, 0, v, h, e => by
    have : w = v := by simpa using e
    subst this
    exact ⟨t, rfl, h.1⟩
  | t :: ts, w :: vs, i + 1, v, h, e => by
    rw [List.getElem?_cons_succ] at e
    obtain ⟨t2, h2, h3⟩ := PartsAt.at h.2 e
    exact ⟨t2, by rw [List.getElem?_cons_succ]; exact h2, h3⟩
theorem PartsAt.up {Z : Adr} {H H2 : Hp} (e : Ex H H2) : ∀ {ts : List Tm} {vs : List V}, PartsAt Z H ts vs → PartsAt Z H2 ts vs
  | [], [], _ => True.intro
  | t :: ts, v :: vs, h => ⟨h.1.up e, PartsAt.up e h.2⟩
def spk_parts (Z : Adr) (S : Tm → Prop) : Sp := fun vs H Q _ => ∃ t v, vs = [v] ∧ TermAt Z H t v ∧ S t ∧ ∀ ws p H2, H p = none → Ex H H2 → H2 p = some (.lst ws) → PartsAt Z H2 t.parts ws → Q (.ref p) H2
def spm_parts (Z : Adr) (C : Addr) : Sp := spk_parts Z fun t => clsT Z t = C
theorem ok_Term_parts (T : Txt K mg Z) : FnOk P w K mg base CX0 1 Z.f_Term_parts Z.fd_Term_parts ["self"] (spk_parts Z fun t => t.parts = []) := by
  refine T.F_Term_parts.ok sc_Term_parts (fun vs H Q E h => ?_) (fun cdv AA outer s H vs Q E hr h => ?_)
  · obtain ⟨t, v, rfl, _⟩ := h
    rfl
  · obtain ⟨t, v, rfl, ht, hp, k⟩ := h
    refine ⟨_, (pss_one (ps_ret (pe_lst pa_nil))), ?_⟩
    walk_at "ss"
    refine newL fun p H2 h0 e2 g2 => k _ p H2 h0 e2 g2 ?_
    rw [hp]
    exact True.intro
theorem ok_Two_parts (T : Txt K mg Z) : FnOk P w K mg base CX0 1 Z.f_Two_parts Z.fd_Two_parts ["self"] (spk_parts Z fun t => ∃ op a b, t = .two op a b) := by
  refine T.F_Two_parts.ok sc_Two_parts (fun vs H Q E h => ?_) (fun cdv AA outer s H vs Q E hr h => ?_)
  · obtain ⟨t, v, rfl, _⟩ := h
    rfl
  · obtain ⟨t, v, rfl, ht, ⟨op, x, y, rfl⟩, k⟩ := h
    have TX := tcB_ok T.x_Two
    obtain ⟨a, dx, v1, v2, rfl, ha, h1, h2⟩ := ht
    refine ⟨_, (pss_one (ps_ret (pe_lst (pa_cons (pe_fld (pv 0) (by rfl)) (pa_cons (pe_fld (pv 0) (by rfl)) pa_nil))))), ?_⟩
    walk_at "ss"
    refine ⟨_, _, _, _, _, rfl, ha, TX.cl, TX.no _ (by decide +kernel), lk_tl (by decide +kernel) lk_hd, ?_⟩
    walk_at "ss"
    refine ⟨_, _, _, _, _, rfl, ha, TX.cl, TX.no _ (by decide +kernel), lk_tl (by decide +kernel) (lk_tl (by decide +kernel) lk_hd), ?_⟩
    walk_at "ss"
    exact newL fun p H2 h0 e2 g2 => k _ p H2 h0 e2 g2 ⟨h1.up e2, h2.up e2, True.intro⟩
theorem ok_Not_parts (T : Txt K mg Z) : FnOk P w K mg base CX0 1 Z.f_Not_parts Z.fd_Not_parts ["self"] (spk_parts Z fun t => ∃ a, t = .nt a) := by
  refine T.F_Not_parts.ok sc_Not_parts (fun vs H Q E h => ?_) (fun cdv AA outer s H vs Q E hr h => ?_)
  · obtain ⟨t, v, rfl, _⟩ := h
    rfl
  · obtain ⟨t, v, rfl, ht, ⟨x, rfl⟩, k⟩ := h
    have TX := tcB_ok T.x_Not
    obtain ⟨a, dx, v1, rfl, ha, h1⟩ := ht
    refine ⟨_, (pss_one (ps_ret (pe_lst (pa_cons (pe_fld (pv 0) (by rfl)) pa_nil)))), ?_⟩
    walk_at "ss"
    refine ⟨_, _, _, _, _, rfl, ha, TX.cl, TX.no _ (by decide +kernel), lk_hd, ?_⟩
    walk_at "ss"
    exact newL fun p H2 h0 e2 g2 => k _ p H2 h0 e2 g2 ⟨h1.up e2, True.intro⟩
theorem ok_Pick_parts (T : Txt K mg Z) : FnOk P w K mg base CX0 1 Z.f_Pick_parts Z.fd_Pick_parts ["self"] (spk_parts Z fun t => ∃ c a b, t = .pk c a b) := by
  refine T.F_Pick_parts.ok sc_Pick_parts (fun vs H Q E h => ?_) (fun cdv AA outer s H vs Q E hr h => ?_)
  · obtain ⟨t, v, rfl, _⟩ := h
    rfl
  · obtain ⟨t, v, rfl, ht, ⟨c, x, y, rfl⟩, k⟩ := h
    have TX := tcB_ok T.x_Pick
    obtain ⟨a, dx, v0, v1, v2, rfl, ha, h0, h1, h2⟩ := ht
    refine ⟨_, (pss_one (ps_ret (pe_lst (pa_cons (pe_fld (pv 0) (by rfl)) (pa_cons (pe_fld (pv 0) (by rfl)) (pa_cons (pe_fld (pv 0) (by rfl)) pa_nil)))))), ?_⟩
    walk_at "ss"
    refine ⟨_, _, _, _, _, rfl, ha, TX.cl, TX.no _ (by decide +kernel), lk_hd, ?_⟩
    walk_at "ss"
    refine ⟨_, _, _, _, _, rfl, ha, TX.cl, TX.no _ (by decide +kernel), lk_tl (by decide +kernel) lk_hd, ?_⟩
    walk_at "ss"
    refine ⟨_, _, _, _, _, rfl, ha, TX.cl, TX.no _ (by decide +kernel), lk_tl (by decide +kernel) (lk_tl (by decide +kernel) lk_hd), ?_⟩
    walk_at "ss"
    exact newL fun p H2 hp e2 g2 => k _ p H2 hp e2 g2 ⟨h0.up e2, h1.up e2, h2.up e2, True.intro⟩
theorem gm_parts (T : Txt K mg Z) : ∀ C, MC Z C → MOk P w K mg base CX0 1 C "parts" (spm_parts Z C) := by
  rintro C (rfl | rfl | rfl | rfl | rfl)
  · exact ⟨(tcB_ok T.x_Name).cl, _, _, _, ⟨T.h_parts_Name, T.y_Term_parts, T.F_Term_parts.kp⟩, (ok_Term_parts T).imp fun vs H Q E ⟨t, v, e, h, hc, k⟩ => ⟨t, v, e, h, (by obtain ⟨s, rfl⟩ := cls_nm T hc; rfl), k⟩, T.b_Term_parts⟩
  · exact ⟨(tcB_ok T.x_Value).cl, _, _, _, ⟨T.h_parts_Value, T.y_Term_parts, T.F_Term_parts.kp⟩, (ok_Term_parts T).imp fun vs H Q E ⟨t, v, e, h, hc, k⟩ => ⟨t, v, e, h, (by obtain ⟨s, rfl⟩ := cls_vl T hc; rfl), k⟩, T.b_Term_parts⟩
  · exact ⟨(tcB_ok T.x_Two).cl, _, _, _, ⟨T.h_parts_Two, T.y_Two_parts, T.F_Two_parts.kp⟩, (ok_Two_parts T).imp fun vs H Q E ⟨t, v, e, h, hc, k⟩ => ⟨t, v, e, h, cls_two T hc, k⟩, T.b_Two_parts⟩
  · exact ⟨(tcB_ok T.x_Not).cl, _, _, _, ⟨T.h_parts_Not, T.y_Not_parts, T.F_Not_parts.kp⟩, (ok_Not_parts T).imp fun vs H Q E ⟨t, v, e, h, hc, k⟩ => ⟨t, v, e, h, cls_nt T hc, k⟩, T.b_Not_parts⟩
  · exact ⟨(tcB_ok T.x_Pick).cl, _, _, _, ⟨T.h_parts_Pick, T.y_Pick_parts, T.F_Pick_parts.kp⟩, (ok_Pick_parts T).imp fun vs H Q E ⟨t, v, e, h, hc, k⟩ => ⟨t, v, e, h, cls_pk T hc, k⟩, T.b_Pick_parts⟩
/-! levels -/
def spt_levels (Z : Adr) (n : Nat) : Sp := fun vs H Q _ => ∃ t v, vs = [v] ∧ TermAt Z H t v ∧ t.dep ≤ n ∧ RetV (.int (t.dep : Nat)) H Q
def spm_levels (Z : Adr) (n : Nat) (C : Addr) : Sp := spt_levels Z n
theorem ok_Term_levels (T : Txt K mg Z) {n : Nat} (GM_parts : ∀ C, MC Z C → MOk P w K mg base CX0 1 C "parts" (spm_parts Z C)) (GM_levels : ∀ C, MC Z C → MOk P w K mg base CX0 (n + 2) C "levels" (spm_levels Z n C)) : FnOk P w K mg base CX0 (n + 3) Z.f_Term_levels Z.fd_Term_levels ["self"] (spt_levels Z (n + 1)) := by
  refine T.F_Term_levels.ok sc_Term_levels (fun vs H Q E h => ?_) (fun cdv AA outer s H vs Q E hr h => ?_)
  · obtain ⟨t, v, rfl, _⟩ := h
    rfl
  · obtain ⟨t, v, rfl, ht, hd, k⟩ := h
    obtain ⟨a, dx, fs, rfl, ha, l1, l2, l3, l4⟩ := ht.cls
    refine ⟨_, (pss_one (ps_ret (pe_op op_add pe_int (pe_callBK (call_maxD hr) (by rfl) T.n_max (by decide +kernel) (pa_cons (pe_lc (own := [("part", 1)]) (g := (gName 1)) (tt := tYes) (te := (tMP (MC Z) "levels" (spm_levels Z n) E0 (tVar 1) tNil)) rfl sc_Term_levels.nd (pi_list (pe_methP0 (pv 0) GM_parts (hr.mono (by omega)) pass0)) (blkOk_by (own := [("part", 1)]) (N := N_Term_levels) (sc := defScope s_Term_levels) (by decide +kernel)) (fun _ _ _ _ _ => (pg_name (i := 1) sc_Term_levels.nd rfl (Or.inl rfl))) (fun _ _ _ _ _ => pts_nil) (fun _ _ _ _ _ => (pe_methP0 (pv 1) GM_levels (hr.mono (by omega)) pass0))) pa_nil) (pk_cons pe_int pk_nil))))), ?_⟩
    walk_at "ss"
    refine ⟨a, _, dx, fs, rfl, ha, clsT_MC Z t, l1, ?_⟩
    walk_at "ss"
    refine ⟨t, _, rfl, ht, rfl, fun ws p H2 hp e2 g2 hw => ?_⟩
    have hl := hw.len
    have hl3 := t.parts_len
    refine ⟨p, rfl, ⟨_, SqL.of g2⟩, lcL (fun i => (t.parts[i]?).bind fun q => some (.int (q.dep : Nat))) (SqL.of g2) (by omega) (fun i x hx => ?_) ?_⟩
    · obtain ⟨q, hq, hqx⟩ := hw.at hx
      intro H3 e3 R hR
      have hqx3 := hqx.up e3
      obtain ⟨a4, dx4, fs4, rfl, ha4, m1, m2, m3, m4⟩ := hqx3.cls
      walk_at "ss"
      refine ⟨a4, _, dx4, fs4, rfl, ha4, clsT_MC Z q, m3, ?_⟩
      walk_at "ss"
      have := Tm.dep_part (List.mem_of_getElem? hq)
      refine ⟨q, _, rfl, hqx3, by omega, fun H4 e4 => ?_⟩
      rw [hq] at hR
      exact hR _ e4
    rw [hl, fm_range, fm_some]
    intro p3 H3 hp3 e3 g3
    walk_at "ss"
    have em : t.parts.map (fun q => V.int (q.dep : Nat)) = (t.parts.map fun q => ((q.dep : Nat) : Int)).map V.int := by rw [List.map_map]; rfl
    rw [em] at g3
    have ed := t.dep_parts
    refine ⟨p3, _, _, rfl, rfl, SqL.of g3, fun e0 => ?_, fun y ys e0 => ?_⟩
    · walk_at "ss"
      rw [e0] at ed
      have e1 : (1 : Int) + 0 = (t.dep : Nat) := by rw [ed]; rfl
      rw [e1]
      exact k _ (e2.trans e3)
    · walk_at "ss"
      rw [e0] at ed
      have e1 : (1 : Int) + PySem.W.maxOf y ys = (t.dep : Nat) := by rw [ed]; rfl
      rw [e1]
      exact k _ (e2.trans e3)
theorem mok_none {n k : Nat} {C : Addr} {m : Str} {f : Addr} {fd : FuncData} {ps : List Str} {sp : Sp} (cl : Cls K C) (hm : Meth K C m f) (hb : Binds K fd ps []) (h : ∀ vs H Q E, ¬ sp vs H Q E) : MOk P w K mg base CX0 k C m sp :=
  ⟨cl, f, fd, ps, hm, ⟨fun vs H Q E q => (h _ _ _ _ q).elim, fun _ _ _ _ _ _ _ _ _ _ _ _ _ q => (h _ _ _ _ q).elim⟩, hb⟩
theorem gm_levels (T : Txt K mg Z) : ∀ n, ∀ C, MC Z C → MOk P w K mg base CX0 (n + 2) C "levels" (spm_levels Z n C) := by
  intro n
  induction n with
  | zero =>
    have hN : ∀ vs H Q E, ¬ spt_levels Z 0 vs H Q E := fun vs H Q E ⟨t, v, _, _, hd, _⟩ => by have := t.dep_pos; omega
    rintro C (rfl | rfl | rfl | rfl | rfl)
    · exact mok_none (n := 0) (tcB_ok T.x_Name).cl ⟨T.h_levels_Name, T.y_Term_levels, T.F_Term_levels.kp⟩ T.b_Term_levels hN
    · exact mok_none (n := 0) (tcB_ok T.x_Value).cl ⟨T.h_levels_Value, T.y_Term_levels, T.F_Term_levels.kp⟩ T.b_Term_levels hN
    · exact mok_none (n := 0) (tcB_ok T.x_Two).cl ⟨T.h_levels_Two, T.y_Term_levels, T.F_Term_levels.kp⟩ T.b_Term_levels hN
    · exact mok_none (n := 0) (tcB_ok T.x_Not).cl ⟨T.h_levels_Not, T.y_Term_levels, T.F_Term_levels.kp⟩ T.b_Term_levels hN
    · exact mok_none (n := 0) (tcB_ok T.x_Pick).cl ⟨T.h_levels_Pick, T.y_Term_levels, T.F_Term_levels.kp⟩ T.b_Term_levels hN
  | succ n ih =>
    have F := ok_Term_levels (P := P) (w := w) (base := base) T (gm_parts T) ih
    rintro C (rfl | rfl | rfl | rfl | rfl)
    · exact ⟨(tcB_ok T.x_Name).cl, _, _, _, ⟨T.h_levels_Name, T.y_Term_levels, T.F_Term_levels.kp⟩, F, T.b_Term_levels⟩
    · exact ⟨(tcB_ok T.x_Value).cl, _, _, _, ⟨T.h_levels_Value, T.y_Term_levels, T.F_Term_levels.kp⟩, F, T.b_Term_levels⟩
    · exact ⟨(tcB_ok T.x_Two).cl, _, _, _, ⟨T.h_levels_Two, T.y_Term_levels, T.F_Term_levels.kp⟩, F, T.b_Term_levels⟩
    · exact ⟨(tcB_ok T.x_Not).cl, _, _, _, ⟨T.h_levels_Not, T.y_Term_levels, T.F_Term_levels.kp⟩, F, T.b_Term_levels⟩
    · exact ⟨(tcB_ok T.x_Pick).cl, _, _, _, ⟨T.h_levels_Pick, T.y_Term_levels, T.F_Term_levels.kp⟩, F, T.b_Term_levels⟩

/-! names -/
theorem PartsAt.keep {Z : Adr} {H H2 : Hp} (e : InsK H H2) : ∀ {ts : List Tm} {vs : List V}, PartsAt Z H ts vs → PartsAt Z H2 ts vs
  | [], [], _ => True.intro
  | t :: ts, v :: vs, h => ⟨h.1.keep e, PartsAt.keep e h.2⟩
theorem InsK.lst {H : Hp} {f : Addr} {xs : List V} {o : HO} (h : H f = some (.lst xs)) : InsK H (upd H f o) := fun a C dx fs ha => by
  rw [upd_ne (ne_of ha h (fun z => by cases z))]
  exact ha
theorem addN_len (a b : List Str) : (addN a b).length ≤ a.length + b.length := by
  unfold addN
  rw [List.length_append]
  have := List.length_filter_le (fun n => !a.contains n) b
  omega
theorem Tm.names_len (t : Tm) : t.names.length ≤ 3 ^ t.dep := by
  induction t with
  | nm s => simp [Tm.names, Tm.dep]
  | vl v => simp [Tm.names, Tm.dep]
  | two op a b iha ihb =>
    have h1 := addN_len [] a.names
    have h2 := addN_len (addN [] a.names) b.names
    have p1 : 3 ^ a.dep ≤ 3 ^ max a.dep b.dep := Nat.pow_le_pow_right (by decide) (by omega)
    have p2 : 3 ^ b.dep ≤ 3 ^ max a.dep b.dep := Nat.pow_le_pow_right (by decide) (by omega)
    have e : 3 ^ (1 + max a.dep b.dep) = 3 * 3 ^ max a.dep b.dep := by rw [Nat.pow_add]
    show (addN (addN [] a.names) b.names).length ≤ 3 ^ (1 + max a.dep b.dep)
    rw [e]
    simp only [List.length_nil] at h1
    omega
  | nt a iha =>
    have h1 := addN_len [] a.names
    have e : 3 ^ (1 + a.dep) = 3 * 3 ^ a.dep := by rw [Nat.pow_add]
    show (addN [] a.names).length ≤ 3 ^ (1 + a.dep)
    rw [e]
    simp only [List.length_nil] at h1
    omega
  | pk c a b ihc iha ihb =>
    have h0 := addN_len [] c.names
    have h1 := addN_len (addN [] c.names) a.names
    have h2 := addN_len (addN (addN [] c.names) a.names) b.names
    have p0 : 3 ^ c.dep ≤ 3 ^ max (max c.dep a.dep) b.dep := Nat.pow_le_pow_right (by decide) (by omega)
    have p1 : 3 ^ a.dep ≤ 3 ^ max (max c.dep a.dep) b.dep := Nat.pow_le_pow_right (by decide) (by omega)
    have p2 : 3 ^ b.dep ≤ 3 ^ max (max c.dep a.dep) b.dep := Nat.pow_le_pow_right (by decide) (by omega)
    have e : 3 ^ (1 + max (max c.dep a.dep) b.dep) = 3 * 3 ^ max (max c.dep a.dep) b.dep := by rw [Nat.pow_add]
    show (addN (addN (addN [] c.names) a.names) b.names).length ≤ 3 ^ (1 + max (max c.dep a.dep) b.dep)
    rw [e]
    simp only [List.length_nil] at h0
    omega
theorem names_729 {t : Tm} (h : t.dep ≤ 6) : t.names.length ≤ 729 := by
  have h1 := t.names_len
  have h2 : 3 ^ t.dep ≤ 3 ^ 6 := Nat.pow_le_pow_right (by decide) h
  have e : (3 : Nat) ^ 6 = 729 := rfl
  omega
theorem inV_str {n : Str} : ∀ {F : List Str}, inV (.str n) (F.map V.str) = F.contains n
  | [] => rfl
  | a :: F => by
    have ih := inV_str (n := n) (F := F)
    unfold inV at ih ⊢
    rw [List.map_cons, List.any_cons, ih, List.contains_cons]
    show (a == n || F.contains n) = (n == a || F.contains n)
    rw [Bool.beq_comm]
theorem fm_new {F : List Str} : ∀ {l : List Str}, (l.map V.str).filterMap (fun x => if inV x (F.map V.str) then none else some x) = (l.filter fun n => !F.contains n).map V.str
  | [] => rfl
  | a :: l => by
    rw [List.map_cons, List.filterMap_cons, inV_str, List.filter_cons, fm_new]
    cases F.contains a <;> rfl
theorem flat_strs : ∀ {F : List Str}, (F.map V.str).all flatV = true
  | [] => rfl
  | a :: F => by rw [List.map_cons, List.all_cons, flat_strs] <;> rfl
def spt_names (Z : Adr) (n : Nat) (S : Tm → Prop) : Sp := fun vs H Q _ => ∃ t v, vs = [v] ∧ TermAt Z H t v ∧ S t ∧ t.dep ≤ n ∧ t.dep ≤ 6 ∧ RetL (t.names.map V.str) H Q
def spm_names (Z : Adr) (n : Nat) (C : Addr) : Sp := spt_names Z n fun t => clsT Z t = C
theorem ok_Name_names (T : Txt K mg Z) : FnOk P w K mg base CX0 1 Z.f_Name_names Z.fd_Name_names ["self"] (spt_names Z 1 fun t => ∃ s, t = .nm s) := by
  refine T.F_Name_names.ok sc_Name_names (fun vs H Q E h => ?_) (fun cdv AA outer s H vs Q E hr h => ?_)
  · obtain ⟨t, v, rfl, _⟩ := h
    rfl
  · obtain ⟨t, v, rfl, ht, ⟨s, rfl⟩, _, _, k⟩ := h
    have TX := tcB_ok T.x_Name
    obtain ⟨a, dx, rfl, ha⟩ := ht
    refine ⟨_, (pss_one (ps_ret (pe_lst (pa_cons (pe_fld (pv 0) (by rfl)) pa_nil)))), ?_⟩
    walk_at "ss"
    refine ⟨_, _, _, _, _, rfl, ha, TX.cl, TX.no _ (by decide +kernel), lk_hd, ?_⟩
    walk_at "ss"
    exact newL k
theorem ok_Term_names (T : Txt K mg Z) {n : Nat} (GM_parts : ∀ C, MC Z C → MOk P w K mg base CX0 1 C "parts" (spm_parts Z C)) (GM_names : ∀ C, MC Z C → MOk P w K mg base CX0 (n + 2) C "names" (spm_names Z n C)) : FnOk P w K mg base CX0 (n + 3) Z.f_Term_names Z.fd_Term_names ["self"] (spt_names Z (n + 1) fun t => ∀ s, t ≠ .nm s) := by
  refine T.F_Term_names.ok sc_Term_names (fun vs H Q E h => ?_) (fun cdv AA outer s H vs Q E hr h => ?_)
  · obtain ⟨t, v, rfl, _⟩ := h
    rfl
  · obtain ⟨t, v, rfl, ht, hS, hd, h6, k⟩ := h
    obtain ⟨a, dx, fs, rfl, ha, l1, l2, l3, l4⟩ := ht.cls
    refine ⟨_, (pss_cons (ps_set (i := 1) sc_Term_names.nd rfl (Or.inr rfl) (pe_lst pa_nil))
      (pss_cons (ps_for PassesOwn.never rfl (pi_list (pe_methP0 (pv 0) GM_parts (hr.mono (by omega)) pass0)) (pg_name (i := 2) sc_Term_names.nd rfl (Or.inl rfl)) (pss_one (ps_expr (pe_bm PySem.F.plainAttrs_list PySem.F.slot_list_extend PySem.F.type_list_extend mt_extend (pv 1) (pa_cons (pe_lc (own := [("name", 3)]) (g := (gName 3)) (tt := (tTest (tOp (rIn K true) (tVar 3) (tVar 1)))) (te := (tVar 3)) rfl sc_Term_names.nd (pi_list (pe_methP0 (pv 2) GM_names (hr.mono (by omega)) pass0)) (blkOk_by (own := [("name", 3)]) (N := N_Term_names) (sc := defScope s_Term_names) (by decide +kernel)) (fun _ _ _ _ _ => (pg_name (i := 3) sc_Term_names.nd rfl (Or.inl rfl))) (fun _ _ _ _ _ => (pts_one (pt_cmpR op_notIn_seq (pv 3) (pv 1) (by rfl)))) (fun _ _ _ _ _ => (pv 3))) pa_nil)))))
      (pss_one (ps_ret (pv 1))))), ?_⟩
    walk_at "ss"
    refine newL fun f H1 hf e1 g1 => ?_
    walk_at "ss"
    refine ⟨a, _, dx, fs, rfl, e1 _ _ ha, clsT_MC Z t, l1, ?_⟩
    walk_at "ss"
    refine ⟨t, _, rfl, ht.up e1, rfl, fun ws p H2 hp e2 g2 hw => ?_⟩
    have nfp : f ≠ p := ne_of_none g1 hp
    have hwl := hw.len
    refine ⟨p, rfl, ⟨_, SqL.of g2⟩, forL (xs := ws) (fun i σ' G => (∃ v2 v3, σ' = [some (.ref a), some (.ref f), v2, v3]) ∧ Ex H G ∧ G p = some (.lst ws) ∧ G f = some (.lst (((t.parts.take i).foldl (fun acc q => addN acc q.names) []).map V.str)) ∧ ((t.parts.take i).foldl (fun acc q => addN acc q.names) []).length ≤ i * 729 ∧ PartsAt Z G t.parts ws) ⟨⟨_, _, rfl⟩, e1.trans e2, g2, e2 _ _ g1, Nat.zero_le _, hw⟩ (fun i σ' G _ q => SqL.of q.2.2.1) ?_ ?_⟩
    · rintro i x σ' G hx ⟨⟨v2, v3, rfl⟩, eG, gp, gf, hbd, hw⟩
      obtain ⟨q, hq, hqx⟩ := hw.at hx
      have hi := (List.getElem?_eq_some_iff.mp hq).1
      have hl3 := t.parts_len
      have ef : (t.parts.take (i + 1)).foldl (fun acc q => addN acc q.names) [] = addN ((t.parts.take i).foldl (fun acc q => addN acc q.names) []) q.names := by
        rw [List.take_add_one, hq, List.foldl_append] <;> rfl
      generalize hF : (t.parts.take i).foldl (fun acc q => addN acc q.names) [] = F at gf ef hbd
      obtain ⟨a4, dx4, fs4, rfl, ha4, m1, m2, m3, m4⟩ := hqx.cls
      walk_at "ss"
      refine ⟨.inl ⟨rfl, _, SqL.of gf⟩, ?_⟩
      walk_at "ss"
      refine ⟨a4, _, dx4, fs4, rfl, ha4, clsT_MC Z q, m2, ?_⟩
      walk_at "ss"
      have hdp := Tm.dep_part (List.mem_of_getElem? hq)
      have hq7 := names_729 (t := q) (by omega)
      refine ⟨q, _, rfl, hqx, rfl, by omega, by omega, fun p5 H5 hp5 e5 g5 => ?_⟩
      refine ⟨p5, rfl, ⟨_, SqL.of g5⟩, lcLv (fun x => if inV x (F.map V.str) then none else some x) (SqL.of g5) (by rw [List.length_map]; omega) (fun x hx => ?_) ?_⟩
      · obtain ⟨s, hs, rfl⟩ := List.mem_map.mp hx
        intro H6 e6 R hR
        walk_at "ss"
        refine c_notin (.inl (SqL.of (e6 _ _ (e5 _ _ gf)))) rfl flat_strs ?_
        refine ⟨_, rfl, ?_⟩
        cases hin : inV (.str s) (F.map V.str) with
        | true =>
          rw [hin] at hR
          walk_at "ss"
          exact hR _ (Ex.refl _)
        | false =>
          rw [hin] at hR
          walk_at "ss"
          exact hR _ (Ex.refl _)
      rw [fm_new]
      intro p6 H6 hp6 e6 g6
      walk_at "ss"
      have gf6 := e6 _ _ (e5 _ _ gf)
      have hfl : (q.names.filter fun n => !F.contains n).length ≤ q.names.length := List.length_filter_le _ _
      refine ⟨f, p6, _, _, rfl, rfl, gf6, g6, Evl.sz_of (by rw [List.length_map, List.length_map]; omega), ?_⟩
      walk_at "ss"
      refine ⟨⟨_, _, rfl⟩, Ex.mut (eG.trans (e5.trans e6)) hf, by rw [upd_ne nfp.symm]; exact e6 _ _ (e5 _ _ gp), ?_, ?_, (hw.up (e5.trans e6)).keep (InsK.lst gf6)⟩
      · rw [upd_same, ef, ← List.map_append] <;> rfl
      · rw [ef]
        have := addN_len F q.names
        rw [Nat.succ_mul]
        omega
    · rintro σ' G ⟨⟨v2, v3, rfl⟩, eG, gp, gf, hbd, hw⟩
      walk_at "ss"
      rw [hwl, List.take_length, ← Tm.names_parts t hS] at gf
      exact k f G hf eG gf
theorem gm_names (T : Txt K mg Z) : ∀ n, ∀ C, MC Z C → MOk P w K mg base CX0 (n + 2) C "names" (spm_names Z n C) := by
  intro n
  induction n with
  | zero =>
    have hN : ∀ C vs H Q E, ¬ spm_names Z 0 C vs H Q E := fun C vs H Q E ⟨t, v, _, _, _, hd, _⟩ => by have := t.dep_pos; omega
    rintro C (rfl | rfl | rfl | rfl | rfl)
    · exact mok_none (n := 0) (tcB_ok T.x_Name).cl ⟨T.h_names_Name, T.y_Name_names, T.F_Name_names.kp⟩ T.b_Name_names (hN _)
    · exact mok_none (n := 0) (tcB_ok T.x_Value).cl ⟨T.h_names_Value, T.y_Term_names, T.F_Term_names.kp⟩ T.b_Term_names (hN _)
    · exact mok_none (n := 0) (tcB_ok T.x_Two).cl ⟨T.h_names_Two, T.y_Term_names, T.F_Term_names.kp⟩ T.b_Term_names (hN _)
    · exact mok_none (n := 0) (tcB_ok T.x_Not).cl ⟨T.h_names_Not, T.y_Term_names, T.F_Term_names.kp⟩ T.b_Term_names (hN _)
    · exact mok_none (n := 0) (tcB_ok T.x_Pick).cl ⟨T.h_names_Pick, T.y_Term_names, T.F_Term_names.kp⟩ T.b_Term_names (hN _)
  | succ n ih =>
    have F := ok_Term_names (P := P) (w := w) (base := base) T (gm_parts T) ih
    have F1 := (ok_Name_names (P := P) (w := w) (base := base) T).mono (show 1 ≤ n + 1 + 2 by omega)
    rintro C (rfl | rfl | rfl | rfl | rfl)
    · exact ⟨(tcB_ok T.x_Name).cl, _, _, _, ⟨T.h_names_Name, T.y_Name_names, T.F_Name_names.kp⟩, F1.imp fun vs H Q E ⟨t, v, e, h, hc, hd, h6, k⟩ => ⟨t, v, e, h, cls_nm T hc, (by obtain ⟨s, rfl⟩ := cls_nm T hc; exact Nat.le_refl _), h6, k⟩, T.b_Name_names⟩
    · exact ⟨(tcB_ok T.x_Value).cl, _, _, _, ⟨T.h_names_Value, T.y_Term_names, T.F_Term_names.kp⟩, F.imp fun vs H Q E ⟨t, v, e, h, hc, hd, h6, k⟩ => ⟨t, v, e, h, (by obtain ⟨s, rfl⟩ := cls_vl T hc; exact fun _ z => by cases z), hd, h6, k⟩, T.b_Term_names⟩
    · exact ⟨(tcB_ok T.x_Two).cl, _, _, _, ⟨T.h_names_Two, T.y_Term_names, T.F_Term_names.kp⟩, F.imp fun vs H Q E ⟨t, v, e, h, hc, hd, h6, k⟩ => ⟨t, v, e, h, (by obtain ⟨_, _, _, rfl⟩ := cls_two T hc; exact fun _ z => by cases z), hd, h6, k⟩, T.b_Term_names⟩
    · exact ⟨(tcB_ok T.x_Not).cl, _, _, _, ⟨T.h_names_Not, T.y_Term_names, T.F_Term_names.kp⟩, F.imp fun vs H Q E ⟨t, v, e, h, hc, hd, h6, k⟩ => ⟨t, v, e, h, (by obtain ⟨_, rfl⟩ := cls_nt T hc; exact fun _ z => by cases z), hd, h6, k⟩, T.b_Term_names⟩
    · exact ⟨(tcB_ok T.x_Pick).cl, _, _, _, ⟨T.h_names_Pick, T.y_Term_names, T.F_Term_names.kp⟩, F.imp fun vs H Q E ⟨t, v, e, h, hc, hd, h6, k⟩ => ⟨t, v, e, h, (by obtain ⟨_, _, _, rfl⟩ := cls_pk T hc; exact fun _ z => by cases z), hd, h6, k⟩, T.b_Term_names⟩

/-! ### what a term tells -/
def ToldAt (H : Hp) : Tm → V → Prop
  | .nm s, v => ∃ a, v = .ref a ∧ H a = some (.tup [.str "name", .str s])
  | .vl x, v => ∃ a, v = .ref a ∧ H a = some (.tup [.str "value", x])
  | .two op p q, v => ∃ a v1 v2, v = .ref a ∧ H a = some (.tup [.str "two", .str op, v1, v2]) ∧ ToldAt H p v1 ∧ ToldAt H q v2
  | .nt p, v => ∃ a v1, v = .ref a ∧ H a = some (.tup [.str "not", v1]) ∧ ToldAt H p v1
  | .pk c p q, v => ∃ a v0 v1 v2, v = .ref a ∧ H a = some (.tup [.str "pick", v0, v1, v2]) ∧ ToldAt H c v0 ∧ ToldAt H p v1 ∧ ToldAt H q v2
def TupK (H H2 : Hp) : Prop := ∀ a xs, H a = some (.tup xs) → H2 a = some (.tup xs)
theorem ToldAt.keep {H H2 : Hp} (e : TupK H H2) : ∀ {t : Tm} {v : V}, ToldAt H t v → ToldAt H2 t v := by
  intro t
  induction t with
  | nm s => rintro v ⟨a, h1, h2⟩; exact ⟨a, h1, e _ _ h2⟩
  | vl x => rintro v ⟨a, h1, h2⟩; exact ⟨a, h1, e _ _ h2⟩
  | two op p q ihp ihq => rintro v ⟨a, v1, v2, h1, h2, h3, h4⟩; exact ⟨a, v1, v2, h1, e _ _ h2, ihp h3, ihq h4⟩
  | nt p ihp => rintro v ⟨a, v1, h1, h2, h3⟩; exact ⟨a, v1, h1, e _ _ h2, ihp h3⟩
  | pk c p q ihc ihp ihq => rintro v ⟨a, v0, v1, v2, h1, h2, h3, h4, h5⟩; exact ⟨a, v0, v1, v2, h1, e _ _ h2, ihc h3, ihp h4, ihq h5⟩
theorem ToldAt.up {H H2 : Hp} {t : Tm} {v : V} (h : ToldAt H t v) (e : Ex H H2) : ToldAt H2 t v := h.keep fun a xs q => e _ _ q
theorem ToldAt.upB {H H2 : Hp} {t : Tm} {v : V} {b : Addr} (h : ToldAt H t v) (e : ExB b H H2) (hB : BoxAt H b) : ToldAt H2 t v := h.keep fun a xs q => e _ _ (box_ne hB q (fun _ _ _ z => by cases z)) q
def spt_told (Z : Adr) (n : Nat) (S : Tm → Prop) : Sp := fun vs H Q _ => ∃ t v, vs = [v] ∧ TermAt Z H t v ∧ S t ∧ t.dep ≤ n ∧ ∀ u H2, Ex H H2 → ToldAt H2 t u → Q u H2
def spm_told (Z : Adr) (n : Nat) (C : Addr) : Sp := spt_told Z n fun t => clsT Z t = C
theorem ok_Name_told (T : Txt K mg Z) : FnOk P w K mg base CX0 1 Z.f_Name_told Z.fd_Name_told ["self"] (spt_told Z 1 fun t => ∃ s, t = .nm s) := by
  refine T.F_Name_told.ok sc_Name_told (fun vs H Q E h => ?_) (fun cdv AA outer s H vs Q E hr h => ?_)
  · obtain ⟨t, v, rfl, _⟩ := h
    rfl
  · obtain ⟨t, v, rfl, ht, ⟨s, rfl⟩, _, k⟩ := h
    have TX := tcB_ok T.x_Name
    obtain ⟨a, dx, rfl, ha⟩ := ht
    refine ⟨_, (pss_one (ps_ret (pe_tup (pa_cons pe_str (pa_cons (pe_fld (pv 0) (by rfl)) pa_nil))))), ?_⟩
    walk_at "ss"
    refine ⟨_, _, _, _, _, rfl, ha, TX.cl, TX.no _ (by decide +kernel), lk_hd, ?_⟩
    walk_at "ss"
    exact newT fun p H2 hp e2 g2 => k _ _ e2 ⟨p, rfl, g2⟩
theorem ok_Value_told (T : Txt K mg Z) : FnOk P w K mg base CX0 1 Z.f_Value_told Z.fd_Value_told ["self"] (spt_told Z 1 fun t => ∃ s, t = .vl s) := by
  refine T.F_Value_told.ok sc_Value_told (fun vs H Q E h => ?_) (fun cdv AA outer s H vs Q E hr h => ?_)
  · obtain ⟨t, v, rfl, _⟩ := h
    rfl
  · obtain ⟨t, v, rfl, ht, ⟨s, rfl⟩, _, k⟩ := h
    have TX := tcB_ok T.x_Value
    obtain ⟨a, dx, rfl, ha⟩ := ht
    refine ⟨_, (pss_one (ps_ret (pe_tup (pa_cons pe_str (pa_cons (pe_fld (pv 0) (by rfl)) pa_nil))))), ?_⟩
    walk_at "ss"
    refine ⟨_, _, _, _, _, rfl, ha, TX.cl, TX.no _ (by decide +kernel), lk_hd, ?_⟩
    walk_at "ss"
    exact newT fun p H2 hp e2 g2 => k _ _ e2 ⟨p, rfl, g2⟩
theorem ok_Two_told (T : Txt K mg Z) {n : Nat} (GM_told : ∀ C, MC Z C → MOk P w K mg base CX0 (n + 2) C "told" (spm_told Z n C)) : FnOk P w K mg base CX0 (n + 3) Z.f_Two_told Z.fd_Two_told ["self"] (spt_told Z (n + 1) fun t => ∃ op a b, t = .two op a b) := by
  refine T.F_Two_told.ok sc_Two_told (fun vs H Q E h => ?_) (fun cdv AA outer s H vs Q E hr h => ?_)
  · obtain ⟨t, v, rfl, _⟩ := h
    rfl
  · obtain ⟨t, v, rfl, ht, ⟨op, x, y, rfl⟩, hd, k⟩ := h
    have TX := tcB_ok T.x_Two
    obtain ⟨a, dx, v1, v2, rfl, ha, h1, h2⟩ := ht
    simp only [Tm.dep] at hd
    refine ⟨_, (pss_one (ps_ret (pe_tup (pa_cons pe_str (pa_cons (pe_fld (pv 0) (by rfl)) (pa_cons (pe_methP0 (pe_fld (pv 0) (by rfl)) GM_told (hr.mono (by omega)) pass0) (pa_cons (pe_methP0 (pe_fld (pv 0) (by rfl)) GM_told (hr.mono (by omega)) pass0) pa_nil))))))), ?_⟩
    walk_at "ss"
    refine ⟨_, _, _, _, _, rfl, ha, TX.cl, TX.no _ (by decide +kernel), lk_hd, ?_⟩
    walk_at "ss"
    refine ⟨_, _, _, _, _, rfl, ha, TX.cl, TX.no _ (by decide +kernel), lk_tl (by decide +kernel) lk_hd, ?_⟩
    obtain ⟨a3, dx3, fs3, rfl, ha3, m1, m2, m3, m4⟩ := h1.cls
    refine ⟨a3, _, dx3, fs3, rfl, ha3, clsT_MC Z x, m4, ?_⟩
    walk_at "ss"
    refine ⟨x, _, rfl, h1, rfl, by omega, fun u1 H1 e1 t1 => ?_⟩
    walk_at "ss"
    refine ⟨_, _, _, _, _, rfl, e1 _ _ ha, TX.cl, TX.no _ (by decide +kernel), lk_tl (by decide +kernel) (lk_tl (by decide +kernel) lk_hd), ?_⟩
    have h2' := h2.up e1
    obtain ⟨a4, dx4, fs4, rfl, ha4, m1, m2, m3, m4⟩ := h2'.cls
    refine ⟨a4, _, dx4, fs4, rfl, ha4, clsT_MC Z y, m4, ?_⟩
    walk_at "ss"
    refine ⟨y, _, rfl, h2', rfl, by omega, fun u2 H2 e2 t2 => ?_⟩
    walk_at "ss"
    exact newT fun p H3 hp e3 g3 => k _ _ (e1.trans (e2.trans e3)) ⟨p, _, _, rfl, g3, t1.up (e2.trans e3), t2.up e3⟩
theorem ok_Not_told (T : Txt K mg Z) {n : Nat} (GM_told : ∀ C, MC Z C → MOk P w K mg base CX0 (n + 2) C "told" (spm_told Z n C)) : FnOk P w K mg base CX0 (n + 3) Z.f_Not_told Z.fd_Not_told ["self"] (spt_told Z (n + 1) fun t => ∃ a, t = .nt a) := by
  refine T.F_Not_told.ok sc_Not_told (fun vs H Q E h => ?_) (fun cdv AA outer s H vs Q E hr h => ?_)
  · obtain ⟨t, v, rfl, _⟩ := h
    rfl
  · obtain ⟨t, v, rfl, ht, ⟨x, rfl⟩, hd, k⟩ := h
    have TX := tcB_ok T.x_Not
    obtain ⟨a, dx, v1, rfl, ha, h1⟩ := ht
    simp only [Tm.dep] at hd
    refine ⟨_, (pss_one (ps_ret (pe_tup (pa_cons pe_str (pa_cons (pe_methP0 (pe_fld (pv 0) (by rfl)) GM_told (hr.mono (by omega)) pass0) pa_nil))))), ?_⟩
    walk_at "ss"
    refine ⟨_, _, _, _, _, rfl, ha, TX.cl, TX.no _ (by decide +kernel), lk_hd, ?_⟩
    obtain ⟨a3, dx3, fs3, rfl, ha3, m1, m2, m3, m4⟩ := h1.cls
    refine ⟨a3, _, dx3, fs3, rfl, ha3, clsT_MC Z x, m4, ?_⟩
    walk_at "ss"
    refine ⟨x, _, rfl, h1, rfl, by omega, fun u1 H1 e1 t1 => ?_⟩
    walk_at "ss"
    exact newT fun p H3 hp e3 g3 => k _ _ (e1.trans e3) ⟨p, _, rfl, g3, t1.up e3⟩
theorem ok_Pick_told (T : Txt K mg Z) {n : Nat} (GM_told : ∀ C, MC Z C → MOk P w K mg base CX0 (n + 2) C "told" (spm_told Z n C)) : FnOk P w K mg base CX0 (n + 3) Z.f_Pick_told Z.fd_Pick_told ["self"] (spt_told Z (n + 1) fun t => ∃ c a b, t = .pk c a b) := by
  refine T.F_Pick_told.ok sc_Pick_told (fun vs H Q E h => ?_) (fun cdv AA outer s H vs Q E hr h => ?_)
  · obtain ⟨t, v, rfl, _⟩ := h
    rfl
  · obtain ⟨t, v, rfl, ht, ⟨c, x, y, rfl⟩, hd, k⟩ := h
    have TX := tcB_ok T.x_Pick
    obtain ⟨a, dx, v0, v1, v2, rfl, ha, h0, h1, h2⟩ := ht
    simp only [Tm.dep] at hd
    refine ⟨_, (pss_one (ps_ret (pe_tup (pa_cons pe_str (pa_cons (pe_methP0 (pe_fld (pv 0) (by rfl)) GM_told (hr.mono (by omega)) pass0) (pa_cons (pe_methP0 (pe_fld (pv 0) (by rfl)) GM_told (hr.mono (by omega)) pass0) (pa_cons (pe_methP0 (pe_fld (pv 0) (by rfl)) GM_told (hr.mono (by omega)) pass0) pa_nil))))))), ?_⟩
    walk_at "ss"
    refine ⟨_, _, _, _, _, rfl, ha, TX.cl, TX.no _ (by decide +kernel), lk_hd, ?_⟩
    obtain ⟨a3, dx3, fs3, rfl, ha3, m1, m2, m3, m4⟩ := h0.cls
    refine ⟨a3, _, dx3, fs3, rfl, ha3, clsT_MC Z c, m4, ?_⟩
    walk_at "ss"
    refine ⟨c, _, rfl, h0, rfl, by omega, fun u0 H0 e0 t0 => ?_⟩
    walk_at "ss"
    refine ⟨_, _, _, _, _, rfl, e0 _ _ ha, TX.cl, TX.no _ (by decide +kernel), lk_tl (by decide +kernel) lk_hd, ?_⟩
    have h1' := h1.up e0
    obtain ⟨a4, dx4, fs4, rfl, ha4, m1, m2, m3, m4⟩ := h1'.cls
    refine ⟨a4, _, dx4, fs4, rfl, ha4, clsT_MC Z x, m4, ?_⟩
    walk_at "ss"
    refine ⟨x, _, rfl, h1', rfl, by omega, fun u1 H1 e1 t1 => ?_⟩
    walk_at "ss"
    refine ⟨_, _, _, _, _, rfl, e1 _ _ (e0 _ _ ha), TX.cl, TX.no _ (by decide +kernel), lk_tl (by decide +kernel) (lk_tl (by decide +kernel) lk_hd), ?_⟩
    have h2' := h2.up (e0.trans e1)
    obtain ⟨a5, dx5, fs5, rfl, ha5, m1, m2, m3, m4⟩ := h2'.cls
    refine ⟨a5, _, dx5, fs5, rfl, ha5, clsT_MC Z y, m4, ?_⟩
    walk_at "ss"
    refine ⟨y, _, rfl, h2', rfl, by omega, fun u2 H2 e2 t2 => ?_⟩
    walk_at "ss"
    exact newT fun p H3 hp e3 g3 => k _ _ (e0.trans (e1.trans (e2.trans e3))) ⟨p, _, _, _, rfl, g3, t0.up (e1.trans (e2.trans e3)), t1.up (e2.trans e3), t2.up e3⟩
theorem gm_told (T : Txt K mg Z) : ∀ n, ∀ C, MC Z C → MOk P w K mg base CX0 (n + 2) C "told" (spm_told Z n C) := by
  intro n
  induction n with
  | zero =>
    have hN : ∀ C vs H Q E, ¬ spm_told Z 0 C vs H Q E := fun C vs H Q E ⟨t, v, _, _, _, hd, _⟩ => by have := t.dep_pos; omega
    rintro C (rfl | rfl | rfl | rfl | rfl)
    · exact mok_none (n := 0) (tcB_ok T.x_Name).cl ⟨T.h_told_Name, T.y_Name_told, T.F_Name_told.kp⟩ T.b_Name_told (hN _)
    · exact mok_none (n := 0) (tcB_ok T.x_Value).cl ⟨T.h_told_Value, T.y_Value_told, T.F_Value_told.kp⟩ T.b_Value_told (hN _)
    · exact mok_none (n := 0) (tcB_ok T.x_Two).cl ⟨T.h_told_Two, T.y_Two_told, T.F_Two_told.kp⟩ T.b_Two_told (hN _)
    · exact mok_none (n := 0) (tcB_ok T.x_Not).cl ⟨T.h_told_Not, T.y_Not_told, T.F_Not_told.kp⟩ T.b_Not_told (hN _)
    · exact mok_none (n := 0) (tcB_ok T.x_Pick).cl ⟨T.h_told_Pick, T.y_Pick_told, T.F_Pick_told.kp⟩ T.b_Pick_told (hN _)
  | succ n ih =>
    have F1 := (ok_Name_told (P := P) (w := w) (base := base) T).mono (show 1 ≤ n + 1 + 2 by omega)
    have F2 := (ok_Value_told (P := P) (w := w) (base := base) T).mono (show 1 ≤ n + 1 + 2 by omega)
    have F3 := ok_Two_told (P := P) (w := w) (base := base) T ih
    have F4 := ok_Not_told (P := P) (w := w) (base := base) T ih
    have F5 := ok_Pick_told (P := P) (w := w) (base := base) T ih
    rintro C (rfl | rfl | rfl | rfl | rfl)
    · exact ⟨(tcB_ok T.x_Name).cl, _, _, _, ⟨T.h_told_Name, T.y_Name_told, T.F_Name_told.kp⟩, F1.imp fun vs H Q E ⟨t, v, e, h, hc, hd, k⟩ => ⟨t, v, e, h, cls_nm T hc, (by obtain ⟨s, rfl⟩ := cls_nm T hc; exact Nat.le_refl _), k⟩, T.b_Name_told⟩
    · exact ⟨(tcB_ok T.x_Value).cl, _, _, _, ⟨T.h_told_Value, T.y_Value_told, T.F_Value_told.kp⟩, F2.imp fun vs H Q E ⟨t, v, e, h, hc, hd, k⟩ => ⟨t, v, e, h, cls_vl T hc, (by obtain ⟨s, rfl⟩ := cls_vl T hc; exact Nat.le_refl _), k⟩, T.b_Value_told⟩
    · exact ⟨(tcB_ok T.x_Two).cl, _, _, _, ⟨T.h_told_Two, T.y_Two_told, T.F_Two_told.kp⟩, F3.imp fun vs H Q E ⟨t, v, e, h, hc, hd, k⟩ => ⟨t, v, e, h, cls_two T hc, hd, k⟩, T.b_Two_told⟩
    · exact ⟨(tcB_ok T.x_Not).cl, _, _, _, ⟨T.h_told_Not, T.y_Not_told, T.F_Not_told.kp⟩, F4.imp fun vs H Q E ⟨t, v, e, h, hc, hd, k⟩ => ⟨t, v, e, h, cls_nt T hc, hd, k⟩, T.b_Not_told⟩
    · exact ⟨(tcB_ok T.x_Pick).cl, _, _, _, ⟨T.h_told_Pick, T.y_Pick_told, T.F_Pick_told.kp⟩, F5.imp fun vs H Q E ⟨t, v, e, h, hc, hd, k⟩ => ⟨t, v, e, h, cls_pk T hc, hd, k⟩, T.b_Pick_told⟩

/-! ### terms made -/
def opsW : List Str := ["+", "-", "*", "/", "mod", "<", "=", "&", "|"]
def opsV2 : List V := opsW.map V.str
def sp_ops_told : Sp := fun vs H Q _ => vs = [] ∧ RetL opsV2 H Q
theorem ok_ops_told (T : Txt K mg Z) : FnOk P w K mg base CX0 1 Z.f_ops_told Z.fd_ops_told [] sp_ops_told := by
  refine T.F_ops_told.ok sc_ops_told (fun vs H Q E h => ?_) (fun cdv AA outer s H vs Q E hr h => ?_)
  · obtain ⟨rfl, _⟩ := h
    rfl
  · obtain ⟨rfl, k⟩ := h
    refine ⟨_, (pss_one (ps_ret (pe_callTy call_list_of (by rfl) T.n_list (by decide +kernel) (pa_cons (pe_gcst rfl T.c_OPS) pa_nil)))), ?_⟩
    walk_at "ss"
    refine ⟨_, _, rfl, .inr (T.t_OPS _), fun l hl => ?_⟩
    exact k l _ hl (Ex.new hl) upd_same
theorem subB_ok {C c : Addr} (h : subB K C c = true) : PySem.W.kitOne K (.ref C) (.ref c) = some true ∧ PySem.W.mroIn K C (.type "object") = some true ∧ PySem.W.findIn K (.ref C) "__eq__" = some (some (.builtin "object.__eq__")) := by
  unfold subB at h
  simp only [Bool.and_eq_true, decide_eq_true_eq] at h
  exact h
theorem TermAt.ty (T : Txt K mg Z) {H : Hp} {t : Tm} {v : V} (h : TermAt Z H t v) : TyX K H v (.ref (clsT Z t)) ∧ subB K (clsT Z t) Z.c_Term = true := by
  obtain ⟨a, dx, fs, rfl, ha, _⟩ := h.cls
  cases t with
  | nm s => exact ⟨(tcB_ok T.x_Name).ty ha, T.fact_is_Name⟩
  | vl s => exact ⟨(tcB_ok T.x_Value).ty ha, T.fact_is_Value⟩
  | two op x y => exact ⟨(tcB_ok T.x_Two).ty ha, T.fact_is_Two⟩
  | nt x => exact ⟨(tcB_ok T.x_Not).ty ha, T.fact_is_Not⟩
  | pk c x y => exact ⟨(tcB_ok T.x_Pick).ty ha, T.fact_is_Pick⟩
theorem is_term (T : Txt K mg Z) {H : Hp} {t : Tm} {v : V} {Q : VK} (h : TermAt Z H t v) (q : Q (.bl true) H) : rIsi K [v, .ref Z.c_Term] H Q :=
  ⟨v, .ref Z.c_Term, _, _, true, rfl, .own _, (h.ty T).1, (subB_ok (h.ty T).2).1, q⟩
theorem TermAt.noneOr (T : Txt K mg Z) {H : Hp} {t : Tm} {v : V} (h : TermAt Z H t v) : NoneOr K H v := by
  obtain ⟨a, dx, fs, rfl, ha, _⟩ := h.cls
  exact .inr ⟨a, _, dx, fs, rfl, ha, (subB_ok (h.ty T).2).2.1, (subB_ok (h.ty T).2).2.2⟩
def sp_need_term (Z : Adr) : Sp := fun vs H Q _ => ∃ t v, vs = [v] ∧ TermAt Z H t v ∧ t.dep ≤ 4 ∧ RetV v H Q
theorem ok_need_term (T : Txt K mg Z) : FnOk P w K mg base CX0 8 Z.f_need_term Z.fd_need_term ["thing"] (sp_need_term Z) := by
  refine T.F_need_term.ok sc_need_term (fun vs H Q E h => ?_) (fun cdv AA outer s H vs Q E hr h => ?_)
  · obtain ⟨t, v, rfl, _⟩ := h
    rfl
  · obtain ⟨t, v, rfl, ht, hd, k⟩ := h
    have GM_levels := gm_levels (P := P) (w := w) (base := base) T 4
    refine ⟨_, (pss_cons (ps_if (PW.pt (pw_or (pt_not (pt_val (pe_callB call_isi (by rfl) T.n_isinstance (by decide +kernel) (pa_cons (pv 0) (pa_cons (pe_gcst (v := .ref Z.c_Term) rfl ⟨_, T.m_Term, rfl⟩) pa_nil))))) (pw_or1 (pt_cmpR op_ge (pe_methP0 (pv 0) GM_levels (hr.mono (by omega)) pass0) (pe_gcst rfl T.c_MOST_LEVELS) (nomark _))))) (pss_one ps_never) pss_nil)
      (pss_one (ps_ret (pv 0)))), ?_⟩
    walk_at "ss"
    refine is_term T ht ?_
    walk_at "ss"
    obtain ⟨a, dx, fs, rfl, ha, l1, l2, l3, l4⟩ := ht.cls
    refine ⟨a, _, dx, fs, rfl, ha, clsT_MC Z t, l3, ?_⟩
    walk_at "ss"
    refine ⟨t, _, rfl, ht, hd, fun H1 e1 => ?_⟩
    walk_at "ss"
    refine if_ff (decide_eq_false (by omega)) ?_
    walk_at "ss"
    exact k _ e1
def isVal : V → Bool
  | .bl _ => true
  | .int i => decide (-1000000000 ≤ i) && decide (i ≤ 1000000000)
  | _ => false
theorem is_val {v : V} (h : isVal v = true) {H : Hp} {Q : VK} {E : XK} (q : Q (.bl true) H) : sp_is_value K [v] H Q E := by
  cases v with
  | bl b => exact ⟨_, rfl, .inr (.inl ⟨_, rfl, q⟩)⟩
  | int i =>
    refine ⟨_, rfl, .inl ⟨_, rfl, ?_⟩⟩
    rw [show (decide (-1000000000 ≤ i) && decide (i ≤ 1000000000)) = true from h]
    exact q
  | _ => exact absurd h Bool.false_ne_true
def sp_Name_init (Z : Adr) : Sp := fun vs H Q _ => ∃ x dx s H0, vs = [.ref x, .str s] ∧ H x = some (.ins Z.c_Name dx []) ∧ H0 x = none ∧ Ex H0 H ∧ isPointed s = true ∧ s.length ≤ 1000 ∧ ∀ H2, Ex H0 H2 → H2 x = some (.ins Z.c_Name dx [("name", .str s)]) → Q .non H2
def sp_Value_init (Z : Adr) : Sp := fun vs H Q _ => ∃ x dx v H0, vs = [.ref x, v] ∧ H x = some (.ins Z.c_Value dx []) ∧ H0 x = none ∧ Ex H0 H ∧ isVal v = true ∧ ∀ H2, Ex H0 H2 → H2 x = some (.ins Z.c_Value dx [("amount", v)]) → Q .non H2
def sp_Two_init (Z : Adr) : Sp := fun vs H Q _ => ∃ x dx op p q v1 v2 H0, vs = [.ref x, .str op, v1, v2] ∧ H x = some (.ins Z.c_Two dx []) ∧ H0 x = none ∧ Ex H0 H ∧ op ∈ opsW ∧ TermAt Z H0 p v1 ∧ TermAt Z H0 q v2 ∧ p.dep ≤ 4 ∧ q.dep ≤ 4 ∧
  ∀ H2, Ex H0 H2 → H2 x = some (.ins Z.c_Two dx [("op", .str op), ("one", v1), ("second", v2)]) → Q .non H2
def sp_Not_init (Z : Adr) : Sp := fun vs H Q _ => ∃ x dx p v1 H0, vs = [.ref x, v1] ∧ H x = some (.ins Z.c_Not dx []) ∧ H0 x = none ∧ Ex H0 H ∧ TermAt Z H0 p v1 ∧ p.dep ≤ 4 ∧ ∀ H2, Ex H0 H2 → H2 x = some (.ins Z.c_Not dx [("one", v1)]) → Q .non H2
def sp_Pick_init (Z : Adr) : Sp := fun vs H Q _ => ∃ x dx c p q v0 v1 v2 H0, vs = [.ref x, v0, v1, v2] ∧ H x = some (.ins Z.c_Pick dx []) ∧ H0 x = none ∧ Ex H0 H ∧ TermAt Z H0 c v0 ∧ TermAt Z H0 p v1 ∧ TermAt Z H0 q v2 ∧ c.dep ≤ 4 ∧ p.dep ≤ 4 ∧ q.dep ≤ 4 ∧
  ∀ H2, Ex H0 H2 → H2 x = some (.ins Z.c_Pick dx [("by", v0), ("one", v1), ("second", v2)]) → Q .non H2
theorem ok_Name_init (T : Txt K mg Z) : FnOk P w K mg base CX0 3 Z.f_Name_init Z.fd_Name_init ["self", "name"] (sp_Name_init Z) := by
  have G_is_pointed := ok_is_pointed (P := P) (w := w) (base := base) T
  refine T.F_Name_init.ok sc_Name_init (fun vs H Q E h => ?_) (fun cdv AA outer s H vs Q E hr h => ?_)
  · obtain ⟨x, dx, s, H0, rfl, _⟩ := h
    rfl
  · obtain ⟨x, dx, s, H0, rfl, hx, h0, e0, hp, hl, k⟩ := h
    have TX := tcB_ok T.x_Name
    refine ⟨_, (pss_cons (ps_if (pt_not (pt_val (pe_call G_is_pointed (hr.mono (by omega)) rfl T.g_is_pointed T.F_is_pointed.kp T.b_is_pointed .nil pass0 (pa_cons (pv 1) pa_nil)))) (pss_one ps_never) pss_nil)
      (pss_one (ps_fld (pv 0) (pv 1) (by rfl)))), ?_⟩
    walk_at "ss"
    refine ⟨_, rfl, .inl ⟨s, rfl, by omega, fun H1 e1 => ?_⟩⟩
    rw [hp]
    walk_at "ss"
    refine ⟨x, _, dx, _, rfl, e1 _ _ hx, TX.cl, TX.no _ (by decide +kernel), by simp, ?_⟩
    walk_at "ss"
    exact k _ (Ex.mut (e0.trans e1) h0) upd_same
theorem ok_Value_init (T : Txt K mg Z) : FnOk P w K mg base CX0 4 Z.f_Value_init Z.fd_Value_init ["self", "value"] (sp_Value_init Z) := by
  have G_is_value := ok_is_value (P := P) (w := w) (base := base) T
  refine T.F_Value_init.ok sc_Value_init (fun vs H Q E h => ?_) (fun cdv AA outer s H vs Q E hr h => ?_)
  · obtain ⟨x, dx, s, H0, rfl, _⟩ := h
    rfl
  · obtain ⟨x, dx, v, H0, rfl, hx, h0, e0, hp, k⟩ := h
    have TX := tcB_ok T.x_Value
    refine ⟨_, (pss_cons (ps_if (pt_not (pt_val (pe_call G_is_value (hr.mono (by omega)) rfl T.g_is_value T.F_is_value.kp T.b_is_value .nil pass0 (pa_cons (pv 1) pa_nil)))) (pss_one ps_never) pss_nil)
      (pss_one (ps_fld (pv 0) (pv 1) (by rfl)))), ?_⟩
    walk_at "ss"
    refine is_val hp ?_
    walk_at "ss"
    refine ⟨x, _, dx, _, rfl, hx, TX.cl, TX.no _ (by decide +kernel), by simp, ?_⟩
    walk_at "ss"
    exact k _ (Ex.mut e0 h0) upd_same
theorem in_ops {op : Str} (h : op ∈ opsW) : inV (.str op) opsV2 = true := by
  unfold opsV2
  rw [inV_str]
  exact List.contains_iff_mem.mpr h
theorem ok_Two_init (T : Txt K mg Z) : FnOk P w K mg base CX0 9 Z.f_Two_init Z.fd_Two_init ["self", "op", "one", "other"] (sp_Two_init Z) := by
  have G_ops_told := ok_ops_told (P := P) (w := w) (base := base) T
  have G_need_term := ok_need_term (P := P) (w := w) (base := base) T
  refine T.F_Two_init.ok sc_Two_init (fun vs H Q E h => ?_) (fun cdv AA outer s H vs Q E hr h => ?_)
  · obtain ⟨x, dx, op, p, q, v1, v2, H0, rfl, _⟩ := h
    rfl
  · obtain ⟨x, dx, op, p, q, v1, v2, H0, rfl, hx, h0, e0, ho, h1, h2, d1, d2, k⟩ := h
    have TX := tcB_ok T.x_Two
    refine ⟨_, (pss_cons (ps_if (PW.pt (pw_or (pt_not (pt_val (pe_callB call_isi (by rfl) T.n_isinstance (by decide +kernel) (pa_cons (pv 1) (pa_cons (pe_bltn (v := .ty "str") (by rfl) T.n_str (by decide +kernel) rfl) pa_nil))))) (pw_or1 (pt_cmpR op_notIn_seq (pv 1) (pe_call0 G_ops_told (hr.mono (by omega)) rfl T.g_ops_told T.F_ops_told.kp T.b_ops_told .nil pass0) (by rfl))))) (pss_one ps_never) pss_nil)
      (pss_cons (ps_fld (pv 0) (pv 1) (by rfl))
      (pss_cons (ps_fld (pv 0) (pe_call G_need_term (hr.mono (by omega)) rfl T.g_need_term T.F_need_term.kp T.b_need_term .nil pass0 (pa_cons (pv 2) pa_nil)) (by rfl))
      (pss_one (ps_fld (pv 0) (pe_call G_need_term (hr.mono (by omega)) rfl T.g_need_term T.F_need_term.kp T.b_need_term .nil pass0 (pa_cons (pv 3) pa_nil)) (by rfl)))))), ?_⟩
    walk_at "ss"
    refine isi (ty_str op) kb_ss ?_
    walk_at "ss"
    refine ⟨rfl, fun pl H1 hpl e1 g1 => ?_⟩
    refine c_notin (.inl (SqL.of g1)) rfl flat_strs ?_
    rw [in_ops ho]
    walk_at "ss"
    refine ⟨x, _, dx, _, rfl, e1 _ _ hx, TX.cl, TX.no _ (by decide +kernel), by simp, ?_⟩
    have e2 : Ex H0 (upd H1 x (.ins Z.c_Two dx (putF "op" (.str op) []))) := Ex.mut (e0.trans e1) h0
    have hx2 : upd H1 x (.ins Z.c_Two dx (putF "op" (.str op) [])) x = some (.ins Z.c_Two dx [("op", .str op)]) := upd_same
    generalize upd H1 x (.ins Z.c_Two dx (putF "op" (.str op) [])) = H2 at e2 hx2
    walk_at "ss"
    refine ⟨p, v1, rfl, h1.up e2, d1, fun H3 e3 => ?_⟩
    walk_at "ss"
    refine ⟨x, _, dx, _, rfl, e3 _ _ hx2, TX.cl, TX.no _ (by decide +kernel), by simp, ?_⟩
    rw [put_tl (by decide +kernel)]
    have e4 : Ex H0 (upd H3 x (.ins Z.c_Two dx (("op", .str op) :: putF "one" v1 []))) := Ex.mut (e2.trans e3) h0
    have hx4 : upd H3 x (.ins Z.c_Two dx (("op", .str op) :: putF "one" v1 [])) x = some (.ins Z.c_Two dx [("op", .str op), ("one", v1)]) := upd_same
    generalize upd H3 x (.ins Z.c_Two dx (("op", .str op) :: putF "one" v1 [])) = H4 at e4 hx4
    walk_at "ss"
    refine ⟨q, v2, rfl, h2.up e4, d2, fun H5 e5 => ?_⟩
    walk_at "ss"
    refine ⟨x, _, dx, _, rfl, e5 _ _ hx4, TX.cl, TX.no _ (by decide +kernel), by simp, ?_⟩
    rw [put_tl (by decide +kernel), put_tl (by decide +kernel)]
    walk_at "ss"
    exact k _ (Ex.mut (e4.trans e5) h0) upd_same
theorem ok_Not_init (T : Txt K mg Z) : FnOk P w K mg base CX0 9 Z.f_Not_init Z.fd_Not_init ["self", "one"] (sp_Not_init Z) := by
  have G_need_term := ok_need_term (P := P) (w := w) (base := base) T
  refine T.F_Not_init.ok sc_Not_init (fun vs H Q E h => ?_) (fun cdv AA outer s H vs Q E hr h => ?_)
  · obtain ⟨x, dx, p, v1, H0, rfl, _⟩ := h
    rfl
  · obtain ⟨x, dx, p, v1, H0, rfl, hx, h0, e0, h1, d1, k⟩ := h
    have TX := tcB_ok T.x_Not
    refine ⟨_, (pss_one (ps_fld (pv 0) (pe_call G_need_term (hr.mono (by omega)) rfl T.g_need_term T.F_need_term.kp T.b_need_term .nil pass0 (pa_cons (pv 1) pa_nil)) (by rfl))), ?_⟩
    walk_at "ss"
    refine ⟨p, v1, rfl, h1.up e0, d1, fun H3 e3 => ?_⟩
    walk_at "ss"
    refine ⟨x, _, dx, _, rfl, e3 _ _ hx, TX.cl, TX.no _ (by decide +kernel), by simp, ?_⟩
    walk_at "ss"
    exact k _ (Ex.mut (e0.trans e3) h0) upd_same
theorem ok_Pick_init (T : Txt K mg Z) : FnOk P w K mg base CX0 9 Z.f_Pick_init Z.fd_Pick_init ["self", "by", "one", "other"] (sp_Pick_init Z) := by
  have G_need_term := ok_need_term (P := P) (w := w) (base := base) T
  refine T.F_Pick_init.ok sc_Pick_init (fun vs H Q E h => ?_) (fun cdv AA outer s H vs Q E hr h => ?_)
  · obtain ⟨x, dx, c, p, q, v0, v1, v2, H0, rfl, _⟩ := h
    rfl
  · obtain ⟨x, dx, c, p, q, v0, v1, v2, H0, rfl, hx, h0, e0, hc, h1, h2, d0, d1, d2, k⟩ := h
    have TX := tcB_ok T.x_Pick
    refine ⟨_, (pss_cons (ps_fld (pv 0) (pe_call G_need_term (hr.mono (by omega)) rfl T.g_need_term T.F_need_term.kp T.b_need_term .nil pass0 (pa_cons (pv 1) pa_nil)) (by rfl))
      (pss_cons (ps_fld (pv 0) (pe_call G_need_term (hr.mono (by omega)) rfl T.g_need_term T.F_need_term.kp T.b_need_term .nil pass0 (pa_cons (pv 2) pa_nil)) (by rfl))
      (pss_one (ps_fld (pv 0) (pe_call G_need_term (hr.mono (by omega)) rfl T.g_need_term T.F_need_term.kp T.b_need_term .nil pass0 (pa_cons (pv 3) pa_nil)) (by rfl))))), ?_⟩
    walk_at "ss"
    refine ⟨c, v0, rfl, hc.up e0, d0, fun H1 e1 => ?_⟩
    walk_at "ss"
    refine ⟨x, _, dx, _, rfl, e1 _ _ hx, TX.cl, TX.no _ (by decide +kernel), by simp, ?_⟩
    have e2 : Ex H0 (upd H1 x (.ins Z.c_Pick dx (putF "by" v0 []))) := Ex.mut (e0.trans e1) h0
    have hx2 : upd H1 x (.ins Z.c_Pick dx (putF "by" v0 [])) x = some (.ins Z.c_Pick dx [("by", v0)]) := upd_same
    generalize upd H1 x (.ins Z.c_Pick dx (putF "by" v0 [])) = H2 at e2 hx2
    walk_at "ss"
    refine ⟨p, v1, rfl, h1.up e2, d1, fun H3 e3 => ?_⟩
    walk_at "ss"
    refine ⟨x, _, dx, _, rfl, e3 _ _ hx2, TX.cl, TX.no _ (by decide +kernel), by simp, ?_⟩
    rw [put_tl (by decide +kernel)]
    have e4 : Ex H0 (upd H3 x (.ins Z.c_Pick dx (("by", v0) :: putF "one" v1 []))) := Ex.mut (e2.trans e3) h0
    have hx4 : upd H3 x (.ins Z.c_Pick dx (("by", v0) :: putF "one" v1 [])) x = some (.ins Z.c_Pick dx [("by", v0), ("one", v1)]) := upd_same
    generalize upd H3 x (.ins Z.c_Pick dx (("by", v0) :: putF "one" v1 [])) = H4 at e4 hx4
    walk_at "ss"
    refine ⟨q, v2, rfl, h2.up e4, d2, fun H5 e5 => ?_⟩
    walk_at "ss"
    refine ⟨x, _, dx, _, rfl, e5 _ _ hx4, TX.cl, TX.no _ (by decide +kernel), by simp, ?_⟩
    rw [put_tl (by decide +kernel), put_tl (by decide +kernel)]
    walk_at "ss"
    exact k _ (Ex.mut (e4.trans e5) h0) upd_same
/-- what is made where: a new one, all else kept -/
def RetM (Z : Adr) (t : Tm) (H : Hp) (Q : VK) : Prop := ∀ v H2, Ex H H2 → TermAt Z H2 t v → Q v H2
theorem RetM.up {t : Tm} {H0 H : Hp} {Q : VK} (k : RetM Z t H0 Q) (e : Ex H0 H) : RetM Z t H Q := fun v H2 e2 => k v H2 (e.trans e2)
theorem mk_heap {H : Hp} {x dx : Addr} {C : Addr} (hx : H x = none) (hd : H dx = none) : Ex H (upd (upd H dx (.own x)) x (.ins C dx [])) := fun a o h => by
  rw [upd_ne (ne_of_none h hx), upd_ne (ne_of_none h hd)]
  exact h
theorem mk_Name {H : Hp} {Q : VK} {E : XK} {s : Str} (hp : isPointed s = true) (hl : s.length ≤ 1000) (k : RetM Z (.nm s) H Q) : MkP2 Z.c_Name (sp_Name_init Z) [.str s] H Q E := fun x dx hx hd _ =>
  ⟨x, dx, s, H, rfl, upd_same, hx, mk_heap hx hd, hp, hl, fun H2 e2 g2 => ⟨rfl, k _ _ e2 ⟨x, dx, rfl, g2⟩⟩⟩
theorem mk_Value {H : Hp} {Q : VK} {E : XK} {v : V} (hp : isVal v = true) (k : RetM Z (.vl v) H Q) : MkP2 Z.c_Value (sp_Value_init Z) [v] H Q E := fun x dx hx hd _ =>
  ⟨x, dx, v, H, rfl, upd_same, hx, mk_heap hx hd, hp, fun H2 e2 g2 => ⟨rfl, k _ _ e2 ⟨x, dx, rfl, g2⟩⟩⟩
theorem mk_Two {H : Hp} {Q : VK} {E : XK} {op : Str} {p q : Tm} {v1 v2 : V} (ho : op ∈ opsW) (h1 : TermAt Z H p v1) (h2 : TermAt Z H q v2) (d1 : p.dep ≤ 4) (d2 : q.dep ≤ 4) (k : RetM Z (.two op p q) H Q) : MkP2 Z.c_Two (sp_Two_init Z) [.str op, v1, v2] H Q E := fun x dx hx hd _ =>
  ⟨x, dx, op, p, q, v1, v2, H, rfl, upd_same, hx, mk_heap hx hd, ho, h1, h2, d1, d2, fun H2 e2 g2 => ⟨rfl, k _ _ e2 ⟨x, dx, v1, v2, rfl, g2, h1.up e2, h2.up e2⟩⟩⟩
theorem mk_Not {H : Hp} {Q : VK} {E : XK} {p : Tm} {v1 : V} (h1 : TermAt Z H p v1) (d1 : p.dep ≤ 4) (k : RetM Z (.nt p) H Q) : MkP2 Z.c_Not (sp_Not_init Z) [v1] H Q E := fun x dx hx hd _ =>
  ⟨x, dx, p, v1, H, rfl, upd_same, hx, mk_heap hx hd, h1, d1, fun H2 e2 g2 => ⟨rfl, k _ _ e2 ⟨x, dx, v1, rfl, g2, h1.up e2⟩⟩⟩
theorem mk_Pick {H : Hp} {Q : VK} {E : XK} {c p q : Tm} {v0 v1 v2 : V} (h0 : TermAt Z H c v0) (h1 : TermAt Z H p v1) (h2 : TermAt Z H q v2) (d0 : c.dep ≤ 4) (d1 : p.dep ≤ 4) (d2 : q.dep ≤ 4) (k : RetM Z (.pk c p q) H Q) : MkP2 Z.c_Pick (sp_Pick_init Z) [v0, v1, v2] H Q E := fun x dx hx hd _ =>
  ⟨x, dx, c, p, q, v0, v1, v2, H, rfl, upd_same, hx, mk_heap hx hd, h0, h1, h2, d0, d1, d2, fun H2 e2 g2 => ⟨rfl, k _ _ e2 ⟨x, dx, v0, v1, v2, rfl, g2, h0.up e2, h1.up e2, h2.up e2⟩⟩⟩

/-! ### terms of what was told -/
def Tm.good : Tm → Prop
  | .nm s => isPointed s = true ∧ s.length ≤ 80 ∧ OkT s
  | .vl v => isVal v = true
  | .two op a b => op ∈ opsW ∧ a.good ∧ b.good
  | .nt a => a.good
  | .pk c a b => c.good ∧ a.good ∧ b.good
def valD : V → PyData
  | .bl b => .bool b
  | .int i => .int i
  | _ => .none
def Tm.data : Tm → PyData
  | .nm s => .tuple [.str "name", .str s]
  | .vl v => .tuple [.str "value", valD v]
  | .two op a b => .tuple [.str "two", .str op, a.data, b.data]
  | .nt a => .tuple [.str "not", a.data]
  | .pk c a b => .tuple [.str "pick", c.data, a.data, b.data]
theorem ToldAt.dp {H : Hp} : ∀ {t : Tm} {u : V}, t.good → ToldAt H t u → Dp K H u t.data := by
  intro t
  induction t with
  | nm s => rintro u _ ⟨a, rfl, h⟩; exact .tup (SqT.of h) (.cons (.str _) (.cons (.str _) .nil))
  | vl v =>
    rintro u g ⟨a, rfl, h⟩
    refine .tup (SqT.of h) (.cons (.str _) (.cons ?_ .nil))
    cases v with
    | bl b => exact .bl b
    | int i => exact .int i
    | _ => exact absurd g Bool.false_ne_true
  | two op p q ihp ihq => rintro u g ⟨a, v1, v2, rfl, h, h1, h2⟩; exact .tup (SqT.of h) (.cons (.str _) (.cons (.str _) (.cons (ihp g.2.1 h1) (.cons (ihq g.2.2 h2) .nil))))
  | nt p ihp => rintro u g ⟨a, v1, rfl, h, h1⟩; exact .tup (SqT.of h) (.cons (.str _) (.cons (ihp g h1) .nil))
  | pk c p q ihc ihp ihq => rintro u g ⟨a, v0, v1, v2, rfl, h, h0, h1, h2⟩; exact .tup (SqT.of h) (.cons (.str _) (.cons (ihc g.1 h0) (.cons (ihp g.2.1 h1) (.cons (ihq g.2.2 h2) .nil))))
theorem ok_lit {s : Str} (h : (TL.tl s).all (fun c => decide (c < 1114112)) = true) {n : Nat} (hl : s.length ≤ n) : RpOk 0 n (.str s) := (rp_str (OkT.lit h)).mono (Nat.le_refl _) hl
theorem ops_lit {op : Str} (h : op ∈ opsW) : RpOk 0 5 (.str op) := by
  have : opsW.all (fun s => (TL.tl s).all (fun c => decide (c < 1114112)) && decide (s.length ≤ 5)) = true := by decide +kernel
  have := List.all_eq_true.mp this op h
  rw [Bool.and_eq_true, decide_eq_true_eq] at this
  exact ok_lit this.1 this.2
theorem Tm.rp : ∀ {t : Tm}, t.good → RpOk t.dep (200 * 4 ^ t.dep) t.data := by
  intro t
  induction t with
  | nm s =>
    intro g
    refine (rp_tup (rp_cons (ok_lit (n := 4) (by decide +kernel) (by decide +kernel)) (rp_cons (rp_str g.2.2) rp_nil))).mono (by show 0 + 1 ≤ 1; omega) ?_
    have := g.2.1
    show 4 + 1 + (s.length + 1 + 0) ≤ 200 * 4 ^ 1
    omega
  | vl v =>
    intro g
    have hv : RpOk 0 0 (valD v) := by
      cases v with
      | bl b => exact rp_bl b
      | int i =>
        have g' : (decide (-1000000000 ≤ i) && decide (i ≤ 1000000000)) = true := g
        rw [Bool.and_eq_true, decide_eq_true_eq, decide_eq_true_eq] at g'
        exact rp_int (by omega)
      | _ => exact absurd g Bool.false_ne_true
    exact (rp_tup (rp_cons (ok_lit (n := 5) (by decide +kernel) (by decide +kernel)) (rp_cons hv rp_nil))).mono (by show 0 + 1 ≤ 1; omega) (by show 5 + 1 + (0 + 1 + 0) ≤ 200 * 4 ^ 1; omega)
  | two op a b iha ihb =>
    intro g
    have p1 : 4 ^ a.dep ≤ 4 ^ max a.dep b.dep := Nat.pow_le_pow_right (by decide) (by omega)
    have p2 : 4 ^ b.dep ≤ 4 ^ max a.dep b.dep := Nat.pow_le_pow_right (by decide) (by omega)
    have p3 : 1 ≤ 4 ^ max a.dep b.dep := Nat.one_le_pow _ _ (by decide)
    have e : 4 ^ (1 + max a.dep b.dep) = 4 * 4 ^ max a.dep b.dep := by rw [Nat.pow_add]
    refine (rp_tup (rp_cons (ok_lit (n := 4) (by decide +kernel) (by decide +kernel)) (rp_cons (ops_lit g.1) (rp_cons (iha g.2.1) (rp_cons (ihb g.2.2) rp_nil))))).mono ?_ ?_
    · show max 0 (max 0 (max a.dep (max b.dep 0))) + 1 ≤ 1 + max a.dep b.dep
      omega
    · show 4 + 1 + (5 + 1 + (200 * 4 ^ a.dep + 1 + (200 * 4 ^ b.dep + 1 + 0))) ≤ 200 * 4 ^ (1 + max a.dep b.dep)
      rw [e]
      omega
  | nt a iha =>
    intro g
    have p3 : 1 ≤ 4 ^ a.dep := Nat.one_le_pow _ _ (by decide)
    have e : 4 ^ (1 + a.dep) = 4 * 4 ^ a.dep := by rw [Nat.pow_add]
    refine (rp_tup (rp_cons (ok_lit (n := 4) (by decide +kernel) (by decide +kernel)) (rp_cons (iha g) rp_nil))).mono ?_ ?_
    · show max 0 (max a.dep 0) + 1 ≤ 1 + a.dep
      omega
    · show 4 + 1 + (200 * 4 ^ a.dep + 1 + 0) ≤ 200 * 4 ^ (1 + a.dep)
      rw [e]
      omega
  | pk c a b ihc iha ihb =>
    intro g
    have p0 : 4 ^ c.dep ≤ 4 ^ max (max c.dep a.dep) b.dep := Nat.pow_le_pow_right (by decide) (by omega)
    have p1 : 4 ^ a.dep ≤ 4 ^ max (max c.dep a.dep) b.dep := Nat.pow_le_pow_right (by decide) (by omega)
    have p2 : 4 ^ b.dep ≤ 4 ^ max (max c.dep a.dep) b.dep := Nat.pow_le_pow_right (by decide) (by omega)
    have p3 : 1 ≤ 4 ^ max (max c.dep a.dep) b.dep := Nat.one_le_pow _ _ (by decide)
    have e : 4 ^ (1 + max (max c.dep a.dep) b.dep) = 4 * 4 ^ max (max c.dep a.dep) b.dep := by rw [Nat.pow_add]
    refine (rp_tup (rp_cons (ok_lit (n := 4) (by decide +kernel) (by decide +kernel)) (rp_cons (ihc g.1) (rp_cons (iha g.2.1) (rp_cons (ihb g.2.2) rp_nil))))).mono ?_ ?_
    · show max 0 (max c.dep (max a.dep (max b.dep 0))) + 1 ≤ 1 + max (max c.dep a.dep) b.dep
      omega
    · show 4 + 1 + (200 * 4 ^ c.dep + 1 + (200 * 4 ^ a.dep + 1 + (200 * 4 ^ b.dep + 1 + 0))) ≤ 200 * 4 ^ (1 + max (max c.dep a.dep) b.dep)
      rw [e]
      omega
theorem NL.ins {H H2 : Hp} (e : NL H H2) : InsK H H2 := fun a C dx fs h => e a _ (fun _ z => by cases z) h
theorem NL.tups {H H2 : Hp} (e : NL H H2) : TupK H H2 := fun a xs h => e a _ (fun _ z => by cases z) h

def sp_simple_of (Z : Adr) : Sp := fun vs H Q _ => (∃ s, vs = [.str "name", .str s] ∧ isPointed s = true ∧ s.length ≤ 80 ∧ RetM Z (.nm s) H Q) ∨ ∃ v, vs = [.str "value", v] ∧ isVal v = true ∧ RetM Z (.vl v) H Q
theorem ok_simple_of (T : Txt K mg Z) : FnOk P w K mg base CX0 6 Z.f_simple_of Z.fd_simple_of ["word", "thing"] (sp_simple_of Z) := by
  have G_is_pointed := ok_is_pointed (P := P) (w := w) (base := base) T
  have G_is_value := ok_is_value (P := P) (w := w) (base := base) T
  have G_Name_init := ok_Name_init (P := P) (w := w) (base := base) T
  have G_Value_init := ok_Value_init (P := P) (w := w) (base := base) T
  refine T.F_simple_of.ok sc_simple_of (fun vs H Q E h => ?_) (fun cdv AA outer s H vs Q E hr h => ?_)
  · rcases h with ⟨s, rfl, _⟩ | ⟨v, rfl, _⟩ <;> rfl
  · refine ⟨_, (pss_cons (ps_if (PW.pt (pw_and (pt_cmpR op_eq (pv 0) pe_str (nomark _)) (pw_and1 (pt_val (pe_call G_is_pointed (hr.mono (by omega)) rfl T.g_is_pointed T.F_is_pointed.kp T.b_is_pointed .nil pass0 (pa_cons (pv 1) pa_nil)))))) (pss_one (ps_ret (pe_make ⟨(tcB_ok T.x_Name).makes, T.i_Name, T.y_Name_init, (tcB_ok T.x_Name).kp⟩ G_Name_init (hr.mono (by omega)) rfl T.m_Name T.b_Name_init .nil pass0 (pa_cons (pv 1) pa_nil)))) pss_nil)
      (pss_cons (ps_if (PW.pt (pw_and (pt_cmpR op_eq (pv 0) pe_str (nomark _)) (pw_and1 (pt_val (pe_call G_is_value (hr.mono (by omega)) rfl T.g_is_value T.F_is_value.kp T.b_is_value .nil pass0 (pa_cons (pv 1) pa_nil)))))) (pss_one (ps_ret (pe_make ⟨(tcB_ok T.x_Value).makes, T.i_Value, T.y_Value_init, (tcB_ok T.x_Value).kp⟩ G_Value_init (hr.mono (by omega)) rfl T.m_Value T.b_Value_init .nil pass0 (pa_cons (pv 1) pa_nil)))) pss_nil)
      (pss_one (ps_ret pe_non)))), ?_⟩
    rcases h with ⟨s, rfl, hp, hl, k⟩ | ⟨v, rfl, hp, k⟩
    · walk_at "ss"
      rw [str_eq rfl]
      walk_at "ss"
      refine ⟨_, rfl, .inl ⟨s, rfl, by omega, fun H1 e1 => ?_⟩⟩
      rw [hp]
      walk_at "ss"
      exact mk_Name hp (by omega) (k.up e1)
    · walk_at "ss"
      rw [str_ne (by decide +kernel)]
      walk_at "ss"
      rw [str_eq rfl]
      walk_at "ss"
      refine is_val hp ?_
      walk_at "ss"
      exact mk_Value hp k

theorem int_ne {i j : Int} (h : i ≠ j) : decide (V.int i = V.int j) = false := decide_eq_false fun e => h (V.int.inj e)
theorem int_eq {i j : Int} (h : i = j) : decide (V.int i = V.int j) = true := decide_eq_true (by rw [h])
theorem kb_tt : kitB "tuple" "tuple" = some true := by decide +kernel
def sp_made (Z : Adr) (n : Nat) : Sp := fun vs H Q _ => ∃ (t : Tm) (u : V) (l : Nat), vs = [u, .int (l : Nat)] ∧ ToldAt H t u ∧ t.good ∧ t.dep ≤ l ∧ l ≤ n ∧ l ≤ 5 ∧ RetM Z t H Q
theorem ok_made_of_told (T : Txt K mg Z) {n : Nat} (G_made_of_told : FnOk P w K mg base CX0 (n + 12) Z.f_made_of_told Z.fd_made_of_told ["told", "left"] (sp_made Z n)) : FnOk P w K mg base CX0 (n + 13) Z.f_made_of_told Z.fd_made_of_told ["told", "left"] (sp_made Z (n + 1)) := by
  have G_simple_of := ok_simple_of (P := P) (w := w) (base := base) T
  have G_ops_told := ok_ops_told (P := P) (w := w) (base := base) T
  have G_Two_init := ok_Two_init (P := P) (w := w) (base := base) T
  have G_Not_init := ok_Not_init (P := P) (w := w) (base := base) T
  have G_Pick_init := ok_Pick_init (P := P) (w := w) (base := base) T
  refine T.F_made_of_told.ok sc_made_of_told (fun vs H Q E h => ?_) (fun cdv AA outer s H vs Q E hr h => ?_)
  · obtain ⟨t, u, l, rfl, _⟩ := h
    rfl
  · obtain ⟨t, u, l, rfl, ht, hg, hd, hl, h5, k⟩ := h
    have hd0 := t.dep_pos
    refine ⟨_, (pss_cons (ps_if (PW.pt (pw_or (pt_cmpR op_eq (pv 1) pe_int (nomark _)) (pw_or (pt_not (pt_val (pe_callB call_isi (by rfl) T.n_isinstance (by decide +kernel) (pa_cons (pv 0) (pa_cons (pe_bltn (v := .ty "tuple") (by rfl) T.n_tuple (by decide +kernel) rfl) pa_nil))))) (pw_or (pt_cmpR op_lt (pe_callB call_len_seq (by rfl) T.n_len (by decide +kernel) (pa_cons (pv 0) pa_nil)) pe_int (nomark _)) (pw_or1 (pt_not (pt_val (pe_callB call_isi (by rfl) T.n_isinstance (by decide +kernel) (pa_cons (pe_ix ix_tup (pv 0) pe_int (fun _ _ => rfl)) (pa_cons (pe_bltn (v := .ty "str") (by rfl) T.n_str (by decide +kernel) rfl) pa_nil)))))))))) (pss_one (ps_ret pe_non)) pss_nil)
      (pss_cons (ps_set (i := 2) sc_made_of_told.nd rfl (Or.inl rfl) (pe_ix ix_tup (pv 0) pe_int (fun _ _ => rfl)))
      (pss_cons (ps_if (PW.pt (pw_and (pt_cmpR op_in_seq (pv 2) (pe_tup (pa_cons pe_str (pa_cons pe_str pa_nil))) (by rfl)) (pw_and1 (pt_cmpR op_eq (pe_callB call_len_seq (by rfl) T.n_len (by decide +kernel) (pa_cons (pv 0) pa_nil)) pe_int (nomark _))))) (pss_one (ps_ret (pe_call G_simple_of (hr.mono (by omega)) rfl T.g_simple_of T.F_simple_of.kp T.b_simple_of .nil pass0 (pa_cons (pv 2) (pa_cons (pe_ix ix_tup (pv 0) pe_int (fun _ _ => rfl)) pa_nil))))) pss_nil)
      (pss_cons (ps_set (i := 3) sc_made_of_told.nd rfl (Or.inl rfl) (pe_op op_add pe_int (pe_callTy call_int1 (by rfl) T.n_int (by decide +kernel) (pa_cons (pe_cmpR op_eq (pv 2) pe_str (nomark _)) pa_nil))))
      (pss_cons (ps_setLc (i := 4) (own := [("one", 5)]) (g := (gName 5)) (tt := tYes) (te := (tCall (sp_made Z n) [] E0 (tCons (tVar 5) (tCons (tOp (rI0 fun i j => .int (i - j)) (tVar 1) (tC (.int 1))) tNil)))) rfl sc_made_of_told.nd rfl rfl (sw_true rfl rfl rfl (by decide +kernel)) (pi_tup (pe_slice sl_tup (pv 0) (po_some (pv 3)) po_none)) (blkOk_by (own := [("one", 5)]) (N := N_made_of_told) (sc := defScope s_made_of_told) (by decide +kernel)) (fun _ _ _ _ _ => (pg_name (i := 5) sc_made_of_told.nd rfl (Or.inl rfl))) (fun _ _ _ _ _ => pts_nil) (fun _ _ _ _ _ => (pe_call G_made_of_told (hr.mono (by omega)) rfl T.g_made_of_told T.F_made_of_told.kp T.b_made_of_told .nil pass0 (pa_cons (pv 5) (pa_cons (pe_op op_sub (pv 1) pe_int) pa_nil)))))
      (pss_cons (ps_if (pt_cmpR (op_noneIn hr.units) pe_non (pv 4) (by rfl)) (pss_one (ps_ret pe_non)) pss_nil)
      (pss_cons (ps_if (PW.pt (pw_and (pt_cmpR op_eq (pv 2) pe_str (nomark _)) (pw_and (pt_cmpR op_eq (pe_callB call_len_seq (by rfl) T.n_len (by decide +kernel) (pa_cons (pv 4) pa_nil)) pe_int (nomark _)) (pw_and (pt_val (pe_callB call_isi (by rfl) T.n_isinstance (by decide +kernel) (pa_cons (pe_ix ix_tup (pv 0) pe_int (fun _ _ => rfl)) (pa_cons (pe_bltn (v := .ty "str") (by rfl) T.n_str (by decide +kernel) rfl) pa_nil)))) (pw_and1 (pt_cmpR op_in_seq (pe_ix ix_tup (pv 0) pe_int (fun _ _ => rfl)) (pe_call0 G_ops_told (hr.mono (by omega)) rfl T.g_ops_told T.F_ops_told.kp T.b_ops_told .nil pass0) (by rfl))))))) (pss_one (ps_ret (pe_make ⟨(tcB_ok T.x_Two).makes, T.i_Two, T.y_Two_init, (tcB_ok T.x_Two).kp⟩ G_Two_init (hr.mono (by omega)) rfl T.m_Two T.b_Two_init .nil pass0 (pa_cons (pe_ix ix_tup (pv 0) pe_int (fun _ _ => rfl)) (pa_cons (pe_ix ix_list (pv 4) pe_int (fun _ _ => rfl)) (pa_cons (pe_ix ix_list (pv 4) pe_int (fun _ _ => rfl)) pa_nil)))))) pss_nil)
      (pss_cons (ps_if (PW.pt (pw_and (pt_cmpR op_eq (pv 2) pe_str (nomark _)) (pw_and1 (pt_cmpR op_eq (pe_callB call_len_seq (by rfl) T.n_len (by decide +kernel) (pa_cons (pv 4) pa_nil)) pe_int (nomark _))))) (pss_one (ps_ret (pe_make ⟨(tcB_ok T.x_Not).makes, T.i_Not, T.y_Not_init, (tcB_ok T.x_Not).kp⟩ G_Not_init (hr.mono (by omega)) rfl T.m_Not T.b_Not_init .nil pass0 (pa_cons (pe_ix ix_list (pv 4) pe_int (fun _ _ => rfl)) pa_nil)))) pss_nil)
      (pss_cons (ps_if (PW.pt (pw_and (pt_cmpR op_eq (pv 2) pe_str (nomark _)) (pw_and1 (pt_cmpR op_eq (pe_callB call_len_seq (by rfl) T.n_len (by decide +kernel) (pa_cons (pv 4) pa_nil)) pe_int (nomark _))))) (pss_one (ps_ret (pe_make ⟨(tcB_ok T.x_Pick).makes, T.i_Pick, T.y_Pick_init, (tcB_ok T.x_Pick).kp⟩ G_Pick_init (hr.mono (by omega)) rfl T.m_Pick T.b_Pick_init .nil pass0 (pa_cons (pe_ix ix_list (pv 4) pe_int (fun _ _ => rfl)) (pa_cons (pe_ix ix_list (pv 4) pe_int (fun _ _ => rfl)) (pa_cons (pe_ix ix_list (pv 4) pe_int (fun _ _ => rfl)) pa_nil)))))) pss_nil)
      (pss_one (ps_ret pe_non))))))))))), ?_⟩
    cases t with
    | nm s =>
      obtain ⟨a, rfl, ha⟩ := ht
      walk_at "ss"
      rw [int_ne (by omega)]
      walk_at "ss"
      refine isi (ty_tup ha) kb_tt ?_
      walk_at "ss"
      refine ⟨a, _, rfl, .inr (SqT.of ha), ?_⟩
      walk_at "ss"
      refine if_ff rfl ?_
      walk_at "ss"
      refine c_ixT (SqT.of ha) rfl ?_
      walk_at "ss"
      refine isi (ty_str _) kb_ss ?_
      walk_at "ss"
      refine c_ixT (SqT.of ha) rfl ?_
      walk_at "ss"
      refine newT fun p1 H1 hp1 e1 g1 => ?_
      refine c_in (.inr (SqT.of g1)) rfl rfl ?_
      have ha1 := e1 _ _ ha
      rw [show inV (V.str "name") [V.str "name", V.str "value"] = true from by decide +kernel]
      walk_at "ss"
      refine ⟨a, _, rfl, .inr (SqT.of ha1), ?_⟩
      walk_at "ss"
      refine if_tt rfl ?_
      walk_at "ss"
      refine c_ixT (SqT.of ha1) rfl ?_
      walk_at "ss"
      exact .inl ⟨_, rfl, hg.1, hg.2.1, k.up e1⟩
    | vl v =>
      obtain ⟨a, rfl, ha⟩ := ht
      walk_at "ss"
      rw [int_ne (by omega)]
      walk_at "ss"
      refine isi (ty_tup ha) kb_tt ?_
      walk_at "ss"
      refine ⟨a, _, rfl, .inr (SqT.of ha), ?_⟩
      walk_at "ss"
      refine if_ff rfl ?_
      walk_at "ss"
      refine c_ixT (SqT.of ha) rfl ?_
      walk_at "ss"
      refine isi (ty_str _) kb_ss ?_
      walk_at "ss"
      refine c_ixT (SqT.of ha) rfl ?_
      walk_at "ss"
      refine newT fun p1 H1 hp1 e1 g1 => ?_
      refine c_in (.inr (SqT.of g1)) rfl rfl ?_
      have ha1 := e1 _ _ ha
      rw [show inV (V.str "value") [V.str "name", V.str "value"] = true from by decide +kernel]
      walk_at "ss"
      refine ⟨a, _, rfl, .inr (SqT.of ha1), ?_⟩
      walk_at "ss"
      refine if_tt rfl ?_
      walk_at "ss"
      refine c_ixT (SqT.of ha1) rfl ?_
      walk_at "ss"
      exact .inr ⟨_, rfl, hg, k.up e1⟩
    | two op tx ty =>
      obtain ⟨a, v1, v2, rfl, ha, h_tx, h_ty⟩ := ht
      obtain ⟨gop, g_tx, g_ty⟩ := hg
      simp only [Tm.dep] at hd hd0
      walk_at "ss"
      rw [int_ne (by omega)]
      walk_at "ss"
      refine isi (ty_tup ha) kb_tt ?_
      walk_at "ss"
      refine ⟨a, _, rfl, .inr (SqT.of ha), ?_⟩
      walk_at "ss"
      refine if_ff rfl ?_
      walk_at "ss"
      refine c_ixT (SqT.of ha) rfl ?_
      walk_at "ss"
      refine isi (ty_str _) kb_ss ?_
      walk_at "ss"
      refine c_ixT (SqT.of ha) rfl ?_
      walk_at "ss"
      refine newT fun p1 H1 hp1 e1 g1 => ?_
      refine c_in (.inr (SqT.of g1)) rfl rfl ?_
      have ha1 := e1 _ _ ha
      rw [show inV (V.str "two") [V.str "name", V.str "value"] = false from by decide +kernel]
      walk_at "ss"
      rw [str_eq rfl]
      walk_at "ss"
      refine .inr ⟨_, rfl, ?_⟩
      walk_at "ss"
      refine ⟨a, _, rfl, SqT.of ha1, fun z => absurd (show (2 : Nat) = 0 from z.1) (by decide), fun p2 hp2 => ?_⟩
      have e2 : Ex H1 (upd H1 p2 (.tup [v1, v2])) := Ex.new hp2
      have g2 : upd H1 p2 (.tup [v1, v2]) p2 = some (.tup [v1, v2]) := upd_same
      show ∃ a, _
      rw [show cutV [V.str "two", V.str op, v1, v2] _ none = [v1, v2] from rfl]
      generalize upd H1 p2 (.tup [v1, v2]) = H2 at e2 g2
      have e12 := e1.trans e2
      refine ⟨p2, rfl, ⟨_, SqT.of g2⟩, lcTN (fun i y G => ∃ t, ([tx, ty] : List Tm)[i]? = some t ∧ TermAt Z G t y) (fun i y G G2 en ⟨t, h1, h2⟩ => ⟨t, h1, h2.keep (NL.ins en)⟩) (SqT.of g2) (by simp) (fun i x hx => ?_) ?_⟩
      · intro H3 e3 R N hR
        have hi : i < 2 := by simpa using (List.getElem?_eq_some_iff.mp hx).1
        walk_at "ss"
        have go : ∃ t, ([tx, ty] : List Tm)[i]? = some t ∧ ToldAt H t x ∧ t.good ∧ t.dep + 1 ≤ l := by
          have hi' : i = 0 ∨ i = 1 := by omega
          rcases hi' with rfl | rfl
          · have hv : v1 = x := by simpa using hx
            subst hv
            exact ⟨tx, rfl, h_tx, g_tx, by omega⟩
          · have hv : v2 = x := by simpa using hx
            subst hv
            exact ⟨ty, rfl, h_ty, g_ty, by omega⟩
        obtain ⟨t, ht1, ht2, ht3, ht4⟩ := go
        have el : ((l : Nat) : Int) - 1 = ((l - 1 : Nat) : Int) := by omega
        rw [el]
        refine ⟨t, x, l - 1, rfl, ht2.up (e12.trans e3), ht3, by omega, by omega, by omega, fun v H4 e4 tv => ?_⟩
        exact hR _ _ e4 ⟨t, ht1, tv⟩
      intro ys p3 H3 hyl hys hp3 e3 g3
      obtain ⟨y0, y1, rfl⟩ : ∃ y0 y1, ys = [y0, y1] := by
        match ys, hyl with
        | [y0, y1], _ => exact ⟨y0, y1, rfl⟩
      have k0 : TermAt Z H3 tx y0 := by
        obtain ⟨t, h1, h2⟩ := hys 0 y0 rfl
        have : tx = t := by simpa using h1
        subst this
        exact h2
      have k1 : TermAt Z H3 ty y1 := by
        obtain ⟨t, h1, h2⟩ := hys 1 y1 rfl
        have : ty = t := by simpa using h1
        subst this
        exact h2
      have e03 := e12.trans e3
      have ha3 := e03 _ _ ha
      walk_at "ss"
      refine c_noneIn (SqL.of g3) (fun z hz => ?_) (fun z hz => ?_) ?_
      · obtain ⟨i, hi⟩ := List.getElem?_of_mem hz
        obtain ⟨t, _, h2⟩ := hys i z hi
        exact h2.noneOr T
      · obtain ⟨i, hi⟩ := List.getElem?_of_mem hz
        obtain ⟨t, _, h2⟩ := hys i z hi
        obtain ⟨aa, _, _, rfl, _⟩ := h2.cls
        exact fun z => by cases z
      walk_at "ss"
      rw [str_eq rfl]
      walk_at "ss"
      refine ⟨p3, _, rfl, .inl (SqL.of g3), ?_⟩
      walk_at "ss"
      refine if_tt rfl ?_
      walk_at "ss"
      refine c_ixT (SqT.of ha3) rfl ?_
      walk_at "ss"
      refine isi (ty_str _) kb_ss ?_
      walk_at "ss"
      refine c_ixT (SqT.of ha3) rfl ?_
      walk_at "ss"
      refine ⟨rfl, fun p4 H4 hp4 e4 g4 => ?_⟩
      refine c_in (.inl (SqL.of g4)) rfl flat_strs ?_
      rw [in_ops gop]
      walk_at "ss"
      refine c_ixT (SqT.of (e4 _ _ ha3)) rfl ?_
      walk_at "ss"
      refine c_ixL (SqL.of (e4 _ _ g3)) rfl ?_
      walk_at "ss"
      refine c_ixL (SqL.of (e4 _ _ g3)) rfl ?_
      walk_at "ss"
      exact mk_Two gop (k0.up e4) (k1.up e4) (by omega) (by omega) (k.up (e03.trans e4))
    | nt tx =>
      obtain ⟨a, v1, rfl, ha, h_tx⟩ := ht
      have g_tx : tx.good := hg
      simp only [Tm.dep] at hd hd0
      walk_at "ss"
      rw [int_ne (by omega)]
      walk_at "ss"
      refine isi (ty_tup ha) kb_tt ?_
      walk_at "ss"
      refine ⟨a, _, rfl, .inr (SqT.of ha), ?_⟩
      walk_at "ss"
      refine if_ff rfl ?_
      walk_at "ss"
      refine c_ixT (SqT.of ha) rfl ?_
      walk_at "ss"
      refine isi (ty_str _) kb_ss ?_
      walk_at "ss"
      refine c_ixT (SqT.of ha) rfl ?_
      walk_at "ss"
      refine newT fun p1 H1 hp1 e1 g1 => ?_
      refine c_in (.inr (SqT.of g1)) rfl rfl ?_
      have ha1 := e1 _ _ ha
      rw [show inV (V.str "not") [V.str "name", V.str "value"] = false from by decide +kernel]
      walk_at "ss"
      rw [str_ne (by decide +kernel)]
      walk_at "ss"
      refine .inr ⟨_, rfl, ?_⟩
      walk_at "ss"
      refine ⟨a, _, rfl, SqT.of ha1, fun z => absurd (show (1 : Nat) = 0 from z.1) (by decide), fun p2 hp2 => ?_⟩
      have e2 : Ex H1 (upd H1 p2 (.tup [v1])) := Ex.new hp2
      have g2 : upd H1 p2 (.tup [v1]) p2 = some (.tup [v1]) := upd_same
      show ∃ a, _
      rw [show cutV [V.str "not", v1] _ none = [v1] from rfl]
      generalize upd H1 p2 (.tup [v1]) = H2 at e2 g2
      have e12 := e1.trans e2
      refine ⟨p2, rfl, ⟨_, SqT.of g2⟩, lcTN (fun i y G => ∃ t, ([tx] : List Tm)[i]? = some t ∧ TermAt Z G t y) (fun i y G G2 en ⟨t, h1, h2⟩ => ⟨t, h1, h2.keep (NL.ins en)⟩) (SqT.of g2) (by simp) (fun i x hx => ?_) ?_⟩
      · intro H3 e3 R N hR
        have hi : i < 1 := by simpa using (List.getElem?_eq_some_iff.mp hx).1
        walk_at "ss"
        have go : ∃ t, ([tx] : List Tm)[i]? = some t ∧ ToldAt H t x ∧ t.good ∧ t.dep + 1 ≤ l := by
          have hi' : i = 0 := by omega
          rcases hi' with rfl
          · have hv : v1 = x := by simpa using hx
            subst hv
            exact ⟨tx, rfl, h_tx, g_tx, by omega⟩
        obtain ⟨t, ht1, ht2, ht3, ht4⟩ := go
        have el : ((l : Nat) : Int) - 1 = ((l - 1 : Nat) : Int) := by omega
        rw [el]
        refine ⟨t, x, l - 1, rfl, ht2.up (e12.trans e3), ht3, by omega, by omega, by omega, fun v H4 e4 tv => ?_⟩
        exact hR _ _ e4 ⟨t, ht1, tv⟩
      intro ys p3 H3 hyl hys hp3 e3 g3
      obtain ⟨y0, rfl⟩ : ∃ y0, ys = [y0] := by
        match ys, hyl with
        | [y0], _ => exact ⟨y0, rfl⟩
      have k0 : TermAt Z H3 tx y0 := by
        obtain ⟨t, h1, h2⟩ := hys 0 y0 rfl
        have : tx = t := by simpa using h1
        subst this
        exact h2
      have e03 := e12.trans e3
      have ha3 := e03 _ _ ha
      walk_at "ss"
      refine c_noneIn (SqL.of g3) (fun z hz => ?_) (fun z hz => ?_) ?_
      · obtain ⟨i, hi⟩ := List.getElem?_of_mem hz
        obtain ⟨t, _, h2⟩ := hys i z hi
        exact h2.noneOr T
      · obtain ⟨i, hi⟩ := List.getElem?_of_mem hz
        obtain ⟨t, _, h2⟩ := hys i z hi
        obtain ⟨aa, _, _, rfl, _⟩ := h2.cls
        exact fun z => by cases z
      walk_at "ss"
      rw [str_ne (by decide +kernel)]
      walk_at "ss"
      rw [str_eq rfl]
      walk_at "ss"
      refine ⟨p3, _, rfl, .inl (SqL.of g3), ?_⟩
      walk_at "ss"
      refine if_tt rfl ?_
      walk_at "ss"
      refine c_ixL (SqL.of g3) rfl ?_
      walk_at "ss"
      exact mk_Not k0 (by omega) (k.up e03)
    | pk tc tx ty =>
      obtain ⟨a, v0, v1, v2, rfl, ha, h_tc, h_tx, h_ty⟩ := ht
      obtain ⟨g_tc, g_tx, g_ty⟩ := hg
      simp only [Tm.dep] at hd hd0
      walk_at "ss"
      rw [int_ne (by omega)]
      walk_at "ss"
      refine isi (ty_tup ha) kb_tt ?_
      walk_at "ss"
      refine ⟨a, _, rfl, .inr (SqT.of ha), ?_⟩
      walk_at "ss"
      refine if_ff rfl ?_
      walk_at "ss"
      refine c_ixT (SqT.of ha) rfl ?_
      walk_at "ss"
      refine isi (ty_str _) kb_ss ?_
      walk_at "ss"
      refine c_ixT (SqT.of ha) rfl ?_
      walk_at "ss"
      refine newT fun p1 H1 hp1 e1 g1 => ?_
      refine c_in (.inr (SqT.of g1)) rfl rfl ?_
      have ha1 := e1 _ _ ha
      rw [show inV (V.str "pick") [V.str "name", V.str "value"] = false from by decide +kernel]
      walk_at "ss"
      rw [str_ne (by decide +kernel)]
      walk_at "ss"
      refine .inr ⟨_, rfl, ?_⟩
      walk_at "ss"
      refine ⟨a, _, rfl, SqT.of ha1, fun z => absurd (show (1 : Nat) = 0 from z.1) (by decide), fun p2 hp2 => ?_⟩
      have e2 : Ex H1 (upd H1 p2 (.tup [v0, v1, v2])) := Ex.new hp2
      have g2 : upd H1 p2 (.tup [v0, v1, v2]) p2 = some (.tup [v0, v1, v2]) := upd_same
      show ∃ a, _
      rw [show cutV [V.str "pick", v0, v1, v2] _ none = [v0, v1, v2] from rfl]
      generalize upd H1 p2 (.tup [v0, v1, v2]) = H2 at e2 g2
      have e12 := e1.trans e2
      refine ⟨p2, rfl, ⟨_, SqT.of g2⟩, lcTN (fun i y G => ∃ t, ([tc, tx, ty] : List Tm)[i]? = some t ∧ TermAt Z G t y) (fun i y G G2 en ⟨t, h1, h2⟩ => ⟨t, h1, h2.keep (NL.ins en)⟩) (SqT.of g2) (by simp) (fun i x hx => ?_) ?_⟩
      · intro H3 e3 R N hR
        have hi : i < 3 := by simpa using (List.getElem?_eq_some_iff.mp hx).1
        walk_at "ss"
        have go : ∃ t, ([tc, tx, ty] : List Tm)[i]? = some t ∧ ToldAt H t x ∧ t.good ∧ t.dep + 1 ≤ l := by
          have hi' : i = 0 ∨ i = 1 ∨ i = 2 := by omega
          rcases hi' with rfl | rfl | rfl
          · have hv : v0 = x := by simpa using hx
            subst hv
            exact ⟨tc, rfl, h_tc, g_tc, by omega⟩
          · have hv : v1 = x := by simpa using hx
            subst hv
            exact ⟨tx, rfl, h_tx, g_tx, by omega⟩
          · have hv : v2 = x := by simpa using hx
            subst hv
            exact ⟨ty, rfl, h_ty, g_ty, by omega⟩
        obtain ⟨t, ht1, ht2, ht3, ht4⟩ := go
        have el : ((l : Nat) : Int) - 1 = ((l - 1 : Nat) : Int) := by omega
        rw [el]
        refine ⟨t, x, l - 1, rfl, ht2.up (e12.trans e3), ht3, by omega, by omega, by omega, fun v H4 e4 tv => ?_⟩
        exact hR _ _ e4 ⟨t, ht1, tv⟩
      intro ys p3 H3 hyl hys hp3 e3 g3
      obtain ⟨y0, y1, y2, rfl⟩ : ∃ y0 y1 y2, ys = [y0, y1, y2] := by
        match ys, hyl with
        | [y0, y1, y2], _ => exact ⟨y0, y1, y2, rfl⟩
      have k0 : TermAt Z H3 tc y0 := by
        obtain ⟨t, h1, h2⟩ := hys 0 y0 rfl
        have : tc = t := by simpa using h1
        subst this
        exact h2
      have k1 : TermAt Z H3 tx y1 := by
        obtain ⟨t, h1, h2⟩ := hys 1 y1 rfl
        have : tx = t := by simpa using h1
        subst this
        exact h2
      have k2 : TermAt Z H3 ty y2 := by
        obtain ⟨t, h1, h2⟩ := hys 2 y2 rfl
        have : ty = t := by simpa using h1
        subst this
        exact h2
      have e03 := e12.trans e3
      have ha3 := e03 _ _ ha
      walk_at "ss"
      refine c_noneIn (SqL.of g3) (fun z hz => ?_) (fun z hz => ?_) ?_
      · obtain ⟨i, hi⟩ := List.getElem?_of_mem hz
        obtain ⟨t, _, h2⟩ := hys i z hi
        exact h2.noneOr T
      · obtain ⟨i, hi⟩ := List.getElem?_of_mem hz
        obtain ⟨t, _, h2⟩ := hys i z hi
        obtain ⟨aa, _, _, rfl, _⟩ := h2.cls
        exact fun z => by cases z
      walk_at "ss"
      rw [str_ne (by decide +kernel)]
      walk_at "ss"
      rw [str_ne (by decide +kernel)]
      walk_at "ss"
      rw [str_eq rfl]
      walk_at "ss"
      refine ⟨p3, _, rfl, .inl (SqL.of g3), ?_⟩
      walk_at "ss"
      refine if_tt rfl ?_
      walk_at "ss"
      refine c_ixL (SqL.of g3) rfl ?_
      walk_at "ss"
      refine c_ixL (SqL.of g3) rfl ?_
      walk_at "ss"
      refine c_ixL (SqL.of g3) rfl ?_
      walk_at "ss"
      exact mk_Pick k0 k1 k2 (by omega) (by omega) (by omega) (k.up e03)
theorem okn_made (T : Txt K mg Z) : ∀ n, FnOk P w K mg base CX0 (n + 12) Z.f_made_of_told Z.fd_made_of_told ["told", "left"] (sp_made Z n)
  | 0 => ⟨fun vs H Q E ⟨t, u, l, e, _⟩ => by rw [e]; rfl, fun _ _ _ _ _ _ _ _ _ _ _ _ _ ⟨t, u, l, _, _, _, h1, h2, _⟩ => by have := t.dep_pos; omega⟩
  | n + 1 => ok_made_of_told T (okn_made T n)
def sp_term_of (Z : Adr) : Sp := fun vs H Q _ => ∃ t u, vs = [u] ∧ ToldAt H t u ∧ t.good ∧ t.dep ≤ 5 ∧ RetM Z t H Q
theorem ok_term_of (T : Txt K mg Z)  : FnOk P w K mg base CX0 (18) Z.f_term_of Z.fd_term_of ["told"] (sp_term_of Z) := by
  refine T.F_term_of.ok sc_term_of (fun vs H Q E h => ?_) (fun cdv AA outer s H vs Q E hr h => ?_)
  · obtain ⟨t, u, rfl, _⟩ := h
    rfl
  · obtain ⟨t, u, rfl, ht, hg, hd, k⟩ := h
    have G_made_of_told := okn_made (P := P) (w := w) (base := base) T 5
    refine ⟨_, (pss_cons (ps_set (i := 1) sc_term_of.nd rfl (Or.inl rfl) (pe_call G_made_of_told (hr.mono (by omega)) rfl T.g_made_of_told T.F_made_of_told.kp T.b_made_of_told .nil pass0 (pa_cons (pv 0) (pa_cons (pe_gcst rfl T.c_MOST_LEVELS) pa_nil))))
      (pss_cons (ps_if (pt_cmpR op_isN (pv 1) pe_non (nomark _)) (pss_one ps_never) pss_nil)
      (pss_one (ps_ret (pv 1))))), ?_⟩
    walk_at "ss"
    refine ⟨t, u, 5, rfl, ht, hg, hd, Nat.le_refl _, Nat.le_refl _, fun v H1 e1 tv => ?_⟩
    walk_at "ss"
    have nv : decide (v = V.non) = false := by
      obtain ⟨aa, _, _, rfl, _⟩ := tv.cls
      rfl
    rw [nv]
    walk_at "ss"
    exact k _ _ e1 tv

/-! ### rows: the plain side -/
inductive Rw where
  | pl (n : Str) (t : Tm)
  | vd (k : Nat) (n : Str) (v : V) (x : Str)
  | wh (n x y : Str)
  | sm (ns : List Str)
  | cl (os : List Str) (nd : Str) (xs : List Str)
def vword : Nat → Str
  | 0 => "before"
  | 1 => "hold"
  | _ => "like"
def Rw.kind : Rw → Nat
  | .pl _ _ => 0
  | .vd 0 _ _ _ => 1
  | .vd 1 _ _ _ => 2
  | .vd _ _ _ _ => 3
  | .wh _ _ _ => 4
  | .sm _ => 5
  | .cl _ _ _ => 6
def Rw.word : Rw → Str
  | .pl _ _ => "plain"
  | .vd k _ _ _ => vword k
  | .wh _ _ _ => "when"
  | .sm _ => "same"
  | .cl _ _ _ => "call"
theorem Rw.kind_lt (r : Rw) : r.kind < 7 := by
  cases r with
  | vd k n v x => rcases k with _ | _ | k <;> simp [Rw.kind]
  | _ => simp [Rw.kind]
def goodN (s : Str) : Prop := isPointed s = true ∧ s.length ≤ 80 ∧ OkT s
/-- each once, the first -/
def once (l : List Str) : List Str := l.foldl (fun acc n => addN acc [n]) []
def Rw.tells : Rw → List Str
  | .pl n _ => [n]
  | .vd _ n _ _ => [n]
  | .wh n _ _ => [n]
  | .sm _ => []
  | .cl os _ _ => os
def Rw.names : Rw → List Str
  | .pl _ t => t.names
  | .vd _ _ _ x => [x]
  | .wh _ x y => once [x, y]
  | .sm ns => once ns
  | .cl _ _ xs => once xs
def Rw.all (r : Rw) : List Str := r.tells ++ r.names
def Rw.good : Rw → Prop
  | .pl n t => goodN n ∧ t.good ∧ t.dep ≤ 5
  | .vd k n v x => k < 3 ∧ goodN n ∧ isVal v = true ∧ goodN x
  | .wh n x y => goodN n ∧ goodN x ∧ goodN y
  | .sm ns => 2 ≤ ns.length ∧ ns.length ≤ 100 ∧ ∀ s ∈ ns, goodN s
  | .cl os nd xs => 1 ≤ os.length ∧ os.length ≤ 100 ∧ (∀ s ∈ os, goodN s) ∧ (isName nd = true ∧ nd.length ≤ 8 ∧ OkT nd) ∧ 1 ≤ xs.length ∧ xs.length ≤ 100 ∧ ∀ s ∈ xs, goodN s
/-! rows as tuples -/
def RowAt (H : Hp) : Rw → V → Prop
  | .pl n t, u => ∃ a w, u = .ref a ∧ H a = some (.tup [.str "plain", .str n, w]) ∧ ToldAt H t w
  | .vd k n v x, u => ∃ a, u = .ref a ∧ H a = some (.tup [.str (vword k), .str n, v, .str x])
  | .wh n x y, u => ∃ a, u = .ref a ∧ H a = some (.tup [.str "when", .str n, .str x, .str y])
  | .sm ns, u => ∃ a p, u = .ref a ∧ H a = some (.tup [.str "same", .ref p]) ∧ H p = some (.tup (ns.map V.str))
  | .cl os nd xs, u => ∃ a p q, u = .ref a ∧ H a = some (.tup [.str "call", .ref p, .str nd, .ref q]) ∧ H p = some (.tup (os.map V.str)) ∧ H q = some (.tup (xs.map V.str))
theorem NL.tup {H H2 : Hp} (e : NL H H2) {a : Addr} {xs : List V} (h : H a = some (.tup xs)) : H2 a = some (.tup xs) := e _ _ (fun _ z => by cases z) h
theorem RowAt.nl {H H2 : Hp} (e : NL H H2) {r : Rw} {u : V} (h : RowAt H r u) : RowAt H2 r u := by
  cases r with
  | pl n t => obtain ⟨a, w, h1, h2, h3⟩ := h; exact ⟨a, w, h1, NL.tup e h2, h3.keep (NL.tups e)⟩
  | vd k n v x => obtain ⟨a, h1, h2⟩ := h; exact ⟨a, h1, NL.tup e h2⟩
  | wh n x y => obtain ⟨a, h1, h2⟩ := h; exact ⟨a, h1, NL.tup e h2⟩
  | sm ns => obtain ⟨a, p, h1, h2, h3⟩ := h; exact ⟨a, p, h1, NL.tup e h2, NL.tup e h3⟩
  | cl os nd xs => obtain ⟨a, p, q, h1, h2, h3, h4⟩ := h; exact ⟨a, p, q, h1, NL.tup e h2, NL.tup e h3, NL.tup e h4⟩
theorem RowAt.up {H H2 : Hp} {r : Rw} {u : V} (h : RowAt H r u) (e : Ex H H2) : RowAt H2 r u := h.nl (NL.of e)
/-- the row: a tuple that begins with its word -/
theorem RowAt.hd {H : Hp} {r : Rw} {u : V} (h : RowAt H r u) : ∃ a xs, u = .ref a ∧ H a = some (.tup (.str r.word :: xs)) := by
  cases r with
  | pl n t => obtain ⟨a, w, h1, h2, h3⟩ := h; exact ⟨a, _, h1, h2⟩
  | vd k n v x => obtain ⟨a, h1, h2⟩ := h; exact ⟨a, _, h1, h2⟩
  | wh n x y => obtain ⟨a, h1, h2⟩ := h; exact ⟨a, _, h1, h2⟩
  | sm ns => obtain ⟨a, p, h1, h2, h3⟩ := h; exact ⟨a, _, h1, h2⟩
  | cl os nd xs => obtain ⟨a, p, q, h1, h2, h3, h4⟩ := h; exact ⟨a, _, h1, h2⟩
def strsD (ns : List Str) : PyData := .tuple (ns.map PyData.str)
def Rw.data : Rw → PyData
  | .pl n t => .tuple [.str "plain", .str n, t.data]
  | .vd k n v x => .tuple [.str (vword k), .str n, valD v, .str x]
  | .wh n x y => .tuple [.str "when", .str n, .str x, .str y]
  | .sm ns => .tuple [.str "same", strsD ns]
  | .cl os nd xs => .tuple [.str "call", strsD os, .str nd, strsD xs]
theorem dp_strs {H : Hp} : ∀ {ns : List Str}, DpAll K H (ns.map V.str) (ns.map PyData.str)
  | [] => .nil
  | s :: ns => .cons (.str s) dp_strs
theorem dp_val {H : Hp} {v : V} (h : isVal v = true) : Dp K H v (valD v) := by
  cases v with
  | bl b => exact .bl b
  | int i => exact .int i
  | _ => exact absurd h Bool.false_ne_true
theorem RowAt.dp {H : Hp} {r : Rw} {u : V} (g : r.good) (h : RowAt H r u) : Dp K H u r.data := by
  cases r with
  | pl n t => obtain ⟨a, w, rfl, h2, h3⟩ := h; exact .tup (SqT.of h2) (.cons (.str _) (.cons (.str _) (.cons (h3.dp g.2.1) .nil)))
  | vd k n v x => obtain ⟨a, rfl, h2⟩ := h; exact .tup (SqT.of h2) (.cons (.str _) (.cons (.str _) (.cons (dp_val g.2.2.1) (.cons (.str _) .nil))))
  | wh n x y => obtain ⟨a, rfl, h2⟩ := h; exact .tup (SqT.of h2) (.cons (.str _) (.cons (.str _) (.cons (.str _) (.cons (.str _) .nil))))
  | sm ns => obtain ⟨a, p, rfl, h2, h3⟩ := h; exact .tup (SqT.of h2) (.cons (.str _) (.cons (.tup (SqT.of h3) dp_strs) .nil))
  | cl os nd xs => obtain ⟨a, p, q, rfl, h2, h3, h4⟩ := h; exact .tup (SqT.of h2) (.cons (.str _) (.cons (.tup (SqT.of h3) dp_strs) (.cons (.str _) (.cons (.tup (SqT.of h4) dp_strs) .nil))))
theorem rp_N {s : Str} (h : goodN s) : RpOk 0 80 (.str s) := (rp_str h.2.2).mono (Nat.le_refl _) h.2.1
theorem rp_val {v : V} (g : isVal v = true) : RpOk 0 0 (valD v) := by
  cases v with
  | bl b => exact rp_bl b
  | int i =>
    have g' : (decide (-1000000000 ≤ i) && decide (i ≤ 1000000000)) = true := g
    rw [Bool.and_eq_true, decide_eq_true_eq, decide_eq_true_eq] at g'
    exact rp_int (by omega)
  | _ => exact absurd g Bool.false_ne_true
theorem rp_strs {ns : List Str} (h : ∀ s ∈ ns, goodN s) (hl : ns.length ≤ 100) : RpOk 1 8100 (strsD ns) := by
  have h1 : RpAll 0 ((ns.map PyData.str).length * (80 + 1)) (ns.map PyData.str) := rp_all fun d hd => by
    obtain ⟨s, hs, rfl⟩ := List.mem_map.mp hd
    exact rp_N (h s hs)
  rw [List.length_map] at h1
  exact (rp_tup h1).mono (Nat.le_refl _) (by omega)
theorem vword_in (k : Nat) : vword k = "before" ∨ vword k = "hold" ∨ vword k = "like" := by
  rcases k with _ | _ | k
  · exact .inl rfl
  · exact .inr (.inl rfl)
  · exact .inr (.inr rfl)
theorem rp_vword (k : Nat) : RpOk 0 6 (.str (vword k)) := by
  rcases vword_in k with e | e | e <;> (rw [e]; exact ok_lit (by decide +kernel) (by decide +kernel))
theorem Rw.rp {r : Rw} (g : r.good) : RpOk 6 250000 r.data := by
  cases r with
  | pl n t =>
    have hB : 200 * 4 ^ t.dep ≤ 204800 := by
      have : 4 ^ t.dep ≤ 4 ^ 5 := Nat.pow_le_pow_right (by decide) g.2.2
      have e : (4 : Nat) ^ 5 = 1024 := rfl
      omega
    have hd := g.2.2
    exact (rp_tup (rp_cons (ok_lit (n := 5) (by decide +kernel) (by decide +kernel)) (rp_cons (rp_N g.1) (rp_cons (Tm.rp g.2.1) rp_nil)))).mono (by omega) (by omega)
  | vd k n v x => exact (rp_tup (rp_cons (rp_vword k) (rp_cons (rp_N g.2.1) (rp_cons (rp_val g.2.2.1) (rp_cons (rp_N g.2.2.2) rp_nil))))).mono (by omega) (by omega)
  | wh n x y => exact (rp_tup (rp_cons (ok_lit (n := 5) (by decide +kernel) (by decide +kernel)) (rp_cons (rp_N g.1) (rp_cons (rp_N g.2.1) (rp_cons (rp_N g.2.2) rp_nil))))).mono (by omega) (by omega)
  | sm ns => exact (rp_tup (rp_cons (ok_lit (n := 5) (by decide +kernel) (by decide +kernel)) (rp_cons (rp_strs g.2.2 g.2.1) rp_nil))).mono (by omega) (by omega)
  | cl os nd xs => exact (rp_tup (rp_cons (ok_lit (n := 5) (by decide +kernel) (by decide +kernel)) (rp_cons (rp_strs g.2.2.1 g.2.1) (rp_cons ((rp_str g.2.2.2.1.2.2).mono (Nat.le_refl _) g.2.2.2.1.2.1) (rp_cons (rp_strs g.2.2.2.2.2.2 g.2.2.2.2.2.1) rp_nil))))).mono (by omega) (by omega)
/-! rows as objects -/
def clsK (Z : Adr) : Nat → Addr
  | 0 => Z.c_Plain
  | 1 => Z.c_Before
  | 2 => Z.c_Hold
  | 3 => Z.c_Like
  | 4 => Z.c_When
  | 5 => Z.c_Same
  | _ => Z.c_Call
def MCE (Z : Adr) (C : Addr) : Prop := ∃ i, i < 7 ∧ C = clsK Z i
theorem clsK_at {i : Nat} (h : i < 7) : ([Z.c_Plain, Z.c_Before, Z.c_Hold, Z.c_Like, Z.c_When, Z.c_Same, Z.c_Call] : List Addr)[i]? = some (clsK Z i) := by
  have : i = 0 ∨ i = 1 ∨ i = 2 ∨ i = 3 ∨ i = 4 ∨ i = 5 ∨ i = 6 := by omega
  rcases this with rfl | rfl | rfl | rfl | rfl | rfl | rfl <;> rfl
theorem clsK_inj (T : Txt K mg Z) {i j : Nat} (hi : i < 7) (hj : j < 7) (e : clsK Z i = clsK Z j) : i = j := by
  rcases Nat.lt_trichotomy i j with h | h | h
  · exact absurd e (difB_ne T.fact_difE (clsK_at hi) (clsK_at hj) h)
  · exact h
  · exact absurd e.symm (difB_ne T.fact_difE (clsK_at hj) (clsK_at hi) h)
def offE (fs : List (Str × V)) : Prop := fs.lookup ("told" : Str) = none ∧ fs.lookup ("tells" : Str) = none ∧ fs.lookup ("names" : Str) = none ∧ fs.lookup ("term" : Str) = none ∧ fs.lookup ("is_call" : Str) = none
def offX (fs : List (Str × V)) : Prop := fs.lookup ("put_otherwise" : Str) = none ∧ fs.lookup ("renamed" : Str) = none ∧ fs.lookup ("words" : Str) = none ∧ fs.lookup ("behind" : Str) = none
def EqAt (Z : Adr) (H : Hp) (r : Rw) (v u : V) : Prop := ∃ a dx fs, v = .ref a ∧ H a = some (.ins (clsK Z r.kind) dx fs) ∧ RowAt H r u ∧ fs.lookup ("told_row" : Str) = some u ∧ (offE fs ∧ offX fs) ∧ ∀ n t, r = .pl n t → ∃ tv, fs.lookup ("kept_term" : Str) = some tv ∧ TermAt Z H t tv
theorem EqAt.nl {H H2 : Hp} {r : Rw} {v u : V} (h : EqAt Z H r v u) (e : NL H H2) : EqAt Z H2 r v u := by
  obtain ⟨a, dx, fs, h1, h2, h3, h4, h5, h6⟩ := h
  refine ⟨a, dx, fs, h1, NL.ins e _ _ _ _ h2, h3.nl e, h4, h5, fun n t he => ?_⟩
  obtain ⟨tv, h7, h8⟩ := h6 n t he
  exact ⟨tv, h7, h8.keep (NL.ins e)⟩
theorem EqAt.up {H H2 : Hp} {r : Rw} {v u : V} (h : EqAt Z H r v u) (e : Ex H H2) : EqAt Z H2 r v u := h.nl (NL.of e)
theorem kitTab_ok {cs : List Addr} {E : Addr} (h : kitTab K cs E = true) {c : Addr} (hc : c ∈ cs) : PySem.W.kitOne K (.ref c) (.ref E) = some true ∧ PySem.W.mroIn K c (.type "object") = some true ∧ PySem.W.findIn K (.ref c) "__eq__" = some (some (.builtin "object.__eq__")) ∧ ∀ c' ∈ cs, PySem.W.kitOne K (.ref c) (.ref c') = some (decide (c = c')) := by
  have := List.all_eq_true.mp h c hc
  simp only [Bool.and_eq_true, decide_eq_true_eq, List.all_eq_true] at this
  exact this
theorem clsK_mem {i : Nat} (h : i < 7) : clsK Z i ∈ ([Z.c_Plain, Z.c_Before, Z.c_Hold, Z.c_Like, Z.c_When, Z.c_Same, Z.c_Call] : List Addr) := List.mem_of_getElem? (clsK_at h)
theorem tcE (T : Txt K mg Z) {i : Nat} (h : i < 7) : Cls K (clsK Z i) ∧ NoAttr K (clsK Z i) "told_row" ∧ (i = 0 → NoAttr K (clsK Z i) "kept_term") ∧ ∀ {H : Hp} {a dx : Addr} {gs : List (Str × V)}, H a = some (.ins (clsK Z i) dx gs) → TyX K H (.ref a) (.ref (clsK Z i)) := by
  have : i = 0 ∨ i = 1 ∨ i = 2 ∨ i = 3 ∨ i = 4 ∨ i = 5 ∨ i = 6 := by omega
  rcases this with rfl | rfl | rfl | rfl | rfl | rfl | rfl
  · exact ⟨(tcB_ok T.x_Plain).cl, (tcB_ok T.x_Plain).no _ (by decide +kernel), fun _ => (tcB_ok T.x_Plain).no _ (by decide +kernel), fun e => (tcB_ok T.x_Plain).ty e⟩
  · exact ⟨(tcB_ok T.x_Before).cl, (tcB_ok T.x_Before).no _ (by decide +kernel), (fun z => absurd z (by decide)), fun e => (tcB_ok T.x_Before).ty e⟩
  · exact ⟨(tcB_ok T.x_Hold).cl, (tcB_ok T.x_Hold).no _ (by decide +kernel), (fun z => absurd z (by decide)), fun e => (tcB_ok T.x_Hold).ty e⟩
  · exact ⟨(tcB_ok T.x_Like).cl, (tcB_ok T.x_Like).no _ (by decide +kernel), (fun z => absurd z (by decide)), fun e => (tcB_ok T.x_Like).ty e⟩
  · exact ⟨(tcB_ok T.x_When).cl, (tcB_ok T.x_When).no _ (by decide +kernel), (fun z => absurd z (by decide)), fun e => (tcB_ok T.x_When).ty e⟩
  · exact ⟨(tcB_ok T.x_Same).cl, (tcB_ok T.x_Same).no _ (by decide +kernel), (fun z => absurd z (by decide)), fun e => (tcB_ok T.x_Same).ty e⟩
  · exact ⟨(tcB_ok T.x_Call).cl, (tcB_ok T.x_Call).no _ (by decide +kernel), (fun z => absurd z (by decide)), fun e => (tcB_ok T.x_Call).ty e⟩
theorem is_row (T : Txt K mg Z) {H : Hp} {r : Rw} {v u : V} {Q : VK} (h : EqAt Z H r v u) (q : Q (.bl true) H) : rIsi K [v, .ref Z.c_Equation] H Q := by
  obtain ⟨a, dx, fs, rfl, h2, _⟩ := h
  exact ⟨_, _, _, _, true, rfl, .own _, (tcE T r.kind_lt).2.2.2 h2, (kitTab_ok T.fact_kitE (clsK_mem r.kind_lt)).1, q⟩
theorem is_kind (T : Txt K mg Z) {H : Hp} {r : Rw} {v u : V} {Q : VK} {i : Nat} (hi : i < 7) (h : EqAt Z H r v u) (q : Q (.bl (decide (r.kind = i))) H) : rIsi K [v, .ref (clsK Z i)] H Q := by
  obtain ⟨a, dx, fs, rfl, h2, _⟩ := h
  have e := (kitTab_ok T.fact_kitE (clsK_mem r.kind_lt)).2.2.2 _ (clsK_mem hi)
  have ed : decide (clsK Z r.kind = clsK Z i) = decide (r.kind = i) := by
    by_cases h : r.kind = i
    · rw [decide_eq_true h, decide_eq_true (by rw [h])]
    · rw [decide_eq_false h, decide_eq_false fun z => h (clsK_inj T r.kind_lt hi z)]
  rw [ed] at e
  exact ⟨_, _, _, _, _, rfl, .own _, (tcE T r.kind_lt).2.2.2 h2, e, q⟩

/-! ### each name once -/
theorem once_app (l : List Str) (n : Str) : once (l ++ [n]) = addN (once l) [n] := by
  unfold once
  rw [List.foldl_append] <;> rfl
theorem addN_one (a : List Str) (n : Str) : addN a [n] = if a.contains n then a else a ++ [n] := by
  unfold addN
  rw [List.filter_cons, List.filter_nil]
  cases h : a.contains n <;> simp
theorem once_len (l : List Str) : (once l).length ≤ l.length := by
  have h : ∀ (l acc : List Str), (l.foldl (fun acc n => addN acc [n]) acc).length ≤ acc.length + l.length := by
    intro l
    induction l with
    | nil => intro acc; exact Nat.le_refl _
    | cons a l ih =>
      intro acc
      have h1 := ih (addN acc [a])
      have h2 := addN_len acc [a]
      rw [List.length_singleton] at h2
      rw [List.foldl_cons, List.length_cons]
      omega
  have := h l []
  rw [List.length_nil, Nat.zero_add] at this
  exact this
def keyT (n : Str) : Key × V := (.inr n, .bl true)
theorem put_once (l : List Str) (n : Str) : putK (l.map keyT) (.inr n) (.bl true) = (addN l [n]).map keyT := by
  rw [addN_one]
  unfold putK
  have e : ((l.map keyT).any fun kv => decide (kv.1 = Sum.inr n)) = l.contains n := by
    induction l with
    | nil => rfl
    | cons a l ih =>
      rw [List.map_cons, List.any_cons, ih, List.contains_cons]
      have : decide ((keyT a).1 = (Sum.inr n : Key)) = (n == a) := by
        show decide ((Sum.inr a : Key) = Sum.inr n) = _
        by_cases h : a = n
        · subst h; simp
        · rw [decide_eq_false (fun z => h (Sum.inr.inj z))]
          simp
          exact fun z => h z.symm
      rw [this]
  rw [e]
  cases h : l.contains n with
  | true =>
    rw [if_pos rfl, if_pos rfl]
    have : (fun kv : Key × V => if kv.1 = (Sum.inr n : Key) then (kv.1, V.bl true) else kv) ∘ keyT = keyT := by
      funext a
      show (if (Sum.inr a : Key) = Sum.inr n then ((Sum.inr a : Key), V.bl true) else keyT a) = keyT a
      split <;> rfl
    rw [List.map_map, this]
  | false => rw [if_neg (by decide), if_neg (by decide), List.map_append] <;> rfl
theorem kV_keyT (l : List Str) : (l.map keyT).map (fun kv => kV kv.1) = l.map V.str := by rw [List.map_map]; rfl
def sp_each_once : Sp := fun vs H Q _ => ∃ a ns, vs = [.ref a] ∧ H a = some (.lst (ns.map V.str)) ∧ ns.length ≤ 1000 ∧ RetL ((once ns).map V.str) H Q
def sp_each_onceT : Sp := fun vs H Q _ => ∃ a ns, vs = [.ref a] ∧ H a = some (.tup (ns.map V.str)) ∧ ns.length ≤ 1000 ∧ RetL ((once ns).map V.str) H Q

theorem ok_each_once (T : Txt K mg Z) : FnOk P w K mg base CX0 1 Z.f_each_once Z.fd_each_once ["names"] sp_each_once := by
  refine T.F_each_once.ok sc_each_once (fun vs H Q E h => ?_) (fun cdv AA outer s H vs Q E hr h => ?_)
  · obtain ⟨a, ns, rfl, _⟩ := h
    rfl
  · obtain ⟨a, ns, rfl, ha, hl, k⟩ := h
    refine ⟨_, (pss_cons (ps_set (i := 1) sc_each_once.nd rfl (Or.inl rfl) pe_dnewK)
      (pss_cons (ps_for PassesOwn.never rfl (pi_list (pv 0)) (pg_name (i := 2) sc_each_once.nd rfl (Or.inl rfl)) (pss_one (ps_dput (hu_of hr) (pv 1) (pv 2) pe_bl rfl)))
      (pss_one (ps_ret (pe_callTy (call_listD rfl) (by rfl) T.n_list (by decide +kernel) (pa_cons (pv 1) pa_nil)))))), ?_⟩
    walk_at "ss"
    intro d hd
    walk_at "ss"
    have e1 : Ex H (upd H d (.dK [])) := Ex.new hd
    refine ⟨⟨_, SqL.of (e1 _ _ ha)⟩, forL (xs := ns.map V.str) (fun i σ' G => (∃ v2, σ' = [some (.ref a), some (.ref d), v2]) ∧ Ex H G ∧ G a = some (.lst (ns.map V.str)) ∧ G d = some (.dK ((once (ns.take i)).map keyT))) ⟨⟨_, rfl⟩, e1, e1 _ _ ha, upd_same⟩ (fun i σ' G _ q => SqL.of q.2.2.1) ?_ ?_⟩
    · rintro i x σ' G hx ⟨⟨v2, rfl⟩, eG, ga, gd⟩
      rw [List.getElem?_map] at hx
      obtain ⟨n, hn, rfl⟩ := Option.map_eq_some_iff.mp hx
      have hlen := once_len (ns.take i)
      have htl : (ns.take i).length ≤ 1000 := by rw [List.length_take]; omega
      walk_at "ss"
      refine ⟨d, _, rfl, .inl ⟨_, .inr n, gd, rfl, Evl.sz_lt (by rw [List.length_map]; omega), rfl⟩, ?_⟩
      walk_at "ss"
      refine ⟨⟨_, rfl⟩, Ex.mut eG hd, ?_, ?_⟩
      · have nda : a ≠ d := ne_of_none ha hd
        rw [upd_ne nda]
        exact ga
      · rw [upd_same, List.take_add_one, hn]
        show some (HO.dK (putK _ _ _)) = some (HO.dK ((once (ns.take i ++ [n])).map keyT))
        rw [put_once, once_app]
    · rintro σ' G ⟨⟨v2, rfl⟩, eG, ga, gd⟩
      rw [List.length_map, List.take_length] at gd
      walk_at "ss"
      refine ⟨d, _, rfl, .inl gd, fun p hp => ?_⟩
      rw [kV_keyT]
      exact k p _ (fresh_back eG hp) (eG.trans (Ex.new hp)) upd_same

theorem ok_each_onceT (T : Txt K mg Z) : FnOk P w K mg base CX0 1 Z.f_each_once Z.fd_each_once ["names"] sp_each_onceT := by
  refine T.F_each_once.ok sc_each_once (fun vs H Q E h => ?_) (fun cdv AA outer s H vs Q E hr h => ?_)
  · obtain ⟨a, ns, rfl, _⟩ := h
    rfl
  · obtain ⟨a, ns, rfl, ha, hl, k⟩ := h
    refine ⟨_, (pss_cons (ps_set (i := 1) sc_each_once.nd rfl (Or.inl rfl) pe_dnewK)
      (pss_cons (ps_for PassesOwn.never rfl (pi_tup (pv 0)) (pg_name (i := 2) sc_each_once.nd rfl (Or.inl rfl)) (pss_one (ps_dput (hu_of hr) (pv 1) (pv 2) pe_bl rfl)))
      (pss_one (ps_ret (pe_callTy (call_listD rfl) (by rfl) T.n_list (by decide +kernel) (pa_cons (pv 1) pa_nil)))))), ?_⟩
    walk_at "ss"
    intro d hd
    walk_at "ss"
    have e1 : Ex H (upd H d (.dK [])) := Ex.new hd
    refine ⟨⟨_, SqT.of (e1 _ _ ha)⟩, forT (xs := ns.map V.str) (fun i σ' G => (∃ v2, σ' = [some (.ref a), some (.ref d), v2]) ∧ Ex H G ∧ G a = some (.tup (ns.map V.str)) ∧ G d = some (.dK ((once (ns.take i)).map keyT))) ⟨⟨_, rfl⟩, e1, e1 _ _ ha, upd_same⟩ (fun i σ' G _ q => SqT.of q.2.2.1) ?_ ?_⟩
    · rintro i x σ' G hx ⟨⟨v2, rfl⟩, eG, ga, gd⟩
      rw [List.getElem?_map] at hx
      obtain ⟨n, hn, rfl⟩ := Option.map_eq_some_iff.mp hx
      have hlen := once_len (ns.take i)
      have htl : (ns.take i).length ≤ 1000 := by rw [List.length_take]; omega
      walk_at "ss"
      refine ⟨d, _, rfl, .inl ⟨_, .inr n, gd, rfl, Evl.sz_lt (by rw [List.length_map]; omega), rfl⟩, ?_⟩
      walk_at "ss"
      refine ⟨⟨_, rfl⟩, Ex.mut eG hd, ?_, ?_⟩
      · have nda : a ≠ d := ne_of_none ha hd
        rw [upd_ne nda]
        exact ga
      · rw [upd_same, List.take_add_one, hn]
        show some (HO.dK (putK _ _ _)) = some (HO.dK ((once (ns.take i ++ [n])).map keyT))
        rw [put_once, once_app]
    · rintro σ' G ⟨⟨v2, rfl⟩, eG, ga, gd⟩
      rw [List.length_map, List.take_length] at gd
      walk_at "ss"
      refine ⟨d, _, rfl, .inl gd, fun p hp => ?_⟩
      rw [kV_keyT]
      exact k p _ (fresh_back eG hp) (eG.trans (Ex.new hp)) upd_same

/-! ### methods of rows -/
def spE (Z : Adr) (S : Rw → Prop) (R : Rw → V → V → Hp → VK → Prop) : Sp := fun vs H Q _ => ∃ r v u, vs = [v] ∧ EqAt Z H r v u ∧ r.good ∧ S r ∧ R r v u H Q
def Re_told : Rw → V → V → Hp → VK → Prop := fun _ _ u H Q => Q u H
def Re_tells : Rw → V → V → Hp → VK → Prop := fun r _ _ H Q => RetL (r.tells.map V.str) H Q
def Re_names : Rw → V → V → Hp → VK → Prop := fun r _ _ H Q => RetL (r.names.map V.str) H Q
def Re_term (Z : Adr) : Rw → V → V → Hp → VK → Prop := fun r _ _ H Q => match r with
  | .pl _ t => ∀ tv, TermAt Z H t tv → Q tv H
  | _ => Q .non H
def Re_is_call : Rw → V → V → Hp → VK → Prop := fun r _ _ H Q => Q (.bl (decide (r.kind = 6))) H

def spmE_told (Z : Adr) (C : Addr) : Sp := spE Z (fun r => clsK Z r.kind = C) Re_told
def spmE_tells (Z : Adr) (C : Addr) : Sp := spE Z (fun r => clsK Z r.kind = C) Re_tells
def spmE_names (Z : Adr) (C : Addr) : Sp := spE Z (fun r => clsK Z r.kind = C) Re_names
def spmE_term (Z : Adr) (C : Addr) : Sp := spE Z (fun r => clsK Z r.kind = C) (Re_term Z)
def spmE_is_call (Z : Adr) (C : Addr) : Sp := spE Z (fun r => clsK Z r.kind = C) Re_is_call
theorem ok_Equation_told (T : Txt K mg Z) : FnOk P w K mg base CX0 1 Z.f_Equation_told Z.fd_Equation_told ["self"] (spE Z (fun r => True) Re_told) := by
  refine T.F_Equation_told.ok sc_Equation_told (fun vs H Q E h => ?_) (fun cdv AA outer s H vs Q E hr h => ?_)
  · obtain ⟨r, v, u, rfl, _⟩ := h
    rfl
  · obtain ⟨r, v, u, rfl, ⟨a, dx, fs, rfl, ha, hr2, hrow, hoff, htm⟩, hg, hS, k⟩ := h
    have TX := tcE T r.kind_lt
    refine ⟨_, (pss_one (ps_ret (pe_fld (pv 0) (by rfl)))), ?_⟩
    walk_at "ss"
    exact ⟨_, _, _, _, _, rfl, ha, TX.1, TX.2.1, hrow, k⟩
theorem kind_pl {r : Rw} (h : r.kind = 0) : ∃ n t, r = .pl n t := by
  cases r with
  | pl n t => exact ⟨_, _, rfl⟩
  | vd k n v x => rcases k with _ | _ | k <;> cases h
  | wh n x y => cases h
  | sm ns => cases h
  | cl a b c => cases h
theorem kind_vd {r : Rw} (h : r.kind = 1 ∨ r.kind = 2 ∨ r.kind = 3) : ∃ k n v x, r = .vd k n v x := by
  cases r with
  | vd k n v x => exact ⟨_, _, _, _, rfl⟩
  | _ => simp [Rw.kind] at h
theorem kind_wh {r : Rw} (h : r.kind = 4) : ∃ n x y, r = .wh n x y := by
  cases r with
  | wh n x y => exact ⟨_, _, _, rfl⟩
  | vd k n v x => rcases k with _ | _ | k <;> cases h
  | _ => cases h
theorem kind_sm {r : Rw} (h : r.kind = 5) : ∃ ns, r = .sm ns := by
  cases r with
  | sm ns => exact ⟨_, rfl⟩
  | vd k n v x => rcases k with _ | _ | k <;> cases h
  | _ => cases h
theorem kind_cl {r : Rw} (h : r.kind = 6) : ∃ os nd xs, r = .cl os nd xs := by
  cases r with
  | cl a b c => exact ⟨_, _, _, rfl⟩
  | vd k n v x => rcases k with _ | _ | k <;> cases h
  | _ => cases h
/-- the row's second thing, where it tells one name -/
theorem row_one {H : Hp} {r : Rw} {u : V} (h : RowAt H r u) (hk : r.kind = 0 ∨ r.kind = 1 ∨ r.kind = 2 ∨ r.kind = 3 ∨ r.kind = 4) : ∃ a xs n, u = .ref a ∧ H a = some (.tup (.str r.word :: .str n :: xs)) ∧ r.tells = [n] := by
  cases r with
  | pl n t => obtain ⟨a, w, h1, h2, h3⟩ := h; exact ⟨a, _, _, h1, h2, rfl⟩
  | vd k n v x => obtain ⟨a, h1, h2⟩ := h; exact ⟨a, _, _, h1, h2, rfl⟩
  | wh n x y => obtain ⟨a, h1, h2⟩ := h; exact ⟨a, _, _, h1, h2, rfl⟩
  | sm ns => simp [Rw.kind] at hk
  | cl a b c => simp [Rw.kind] at hk
theorem at_hd {x : V} {xs : List V} : atI (x :: xs) 0 = some x := atI_nat (j := 0) rfl
theorem at_1 {x y : V} {xs : List V} : atI (x :: y :: xs) 1 = some y := atI_nat (j := 1) rfl
theorem ok_Equation_tells (T : Txt K mg Z) : FnOk P w K mg base CX0 1 Z.f_Equation_tells Z.fd_Equation_tells ["self"] (spE Z (fun r => r.kind = 0 ∨ r.kind = 1 ∨ r.kind = 2 ∨ r.kind = 3 ∨ r.kind = 4) Re_tells) := by
  refine T.F_Equation_tells.ok sc_Equation_tells (fun vs H Q E h => ?_) (fun cdv AA outer s H vs Q E hr h => ?_)
  · obtain ⟨r, v, u, rfl, _⟩ := h
    rfl
  · obtain ⟨r, v, u, rfl, ⟨a, dx, fs, rfl, ha, hr2, hrow, hoff, htm⟩, hg, hS, k⟩ := h
    have TX := tcE T r.kind_lt
    obtain ⟨b, xs, n, rfl, hb, ht⟩ := row_one hr2 hS
    refine ⟨_, (pss_one (ps_ret (pe_lst (pa_cons (pe_ix ix_tup (pe_fld (pv 0) (by rfl)) pe_int (fun _ _ => rfl)) pa_nil)))), ?_⟩
    walk_at "ss"
    refine ⟨_, _, _, _, _, rfl, ha, TX.1, TX.2.1, hrow, ?_⟩
    walk_at "ss"
    refine c_ixT (SqT.of hb) at_1 ?_
    walk_at "ss"
    unfold Re_tells at k
    rw [ht] at k
    exact newL k
theorem ok_Same_tells (T : Txt K mg Z) : FnOk P w K mg base CX0 1 Z.f_Same_tells Z.fd_Same_tells ["self"] (spE Z (fun r => r.kind = 5) Re_tells) := by
  refine T.F_Same_tells.ok sc_Same_tells (fun vs H Q E h => ?_) (fun cdv AA outer s H vs Q E hr h => ?_)
  · obtain ⟨r, v, u, rfl, _⟩ := h
    rfl
  · obtain ⟨r, v, u, rfl, ⟨a, dx, fs, rfl, ha, hr2, hrow, hoff, htm⟩, hg, hS, k⟩ := h
    have TX := tcE T r.kind_lt
    obtain ⟨ns, rfl⟩ := kind_sm hS
    refine ⟨_, (pss_one (ps_ret (pe_lst pa_nil))), ?_⟩
    walk_at "ss"
    exact newL k
theorem ok_Call_tells (T : Txt K mg Z) : FnOk P w K mg base CX0 1 Z.f_Call_tells Z.fd_Call_tells ["self"] (spE Z (fun r => r.kind = 6) Re_tells) := by
  refine T.F_Call_tells.ok sc_Call_tells (fun vs H Q E h => ?_) (fun cdv AA outer s H vs Q E hr h => ?_)
  · obtain ⟨r, v, u, rfl, _⟩ := h
    rfl
  · obtain ⟨r, v, u, rfl, ⟨a, dx, fs, rfl, ha, hr2, hrow, hoff, htm⟩, hg, hS, k⟩ := h
    have TX := tcE T r.kind_lt
    obtain ⟨os, nd, xs, rfl⟩ := kind_cl hS
    obtain ⟨b, p, q, rfl, hb, hp, hq⟩ := hr2
    refine ⟨_, (pss_one (ps_ret (pe_callTy call_list_of (by rfl) T.n_list (by decide +kernel) (pa_cons (pe_ix ix_tup (pe_fld (pv 0) (by rfl)) pe_int (fun _ _ => rfl)) pa_nil)))), ?_⟩
    walk_at "ss"
    refine ⟨_, _, _, _, _, rfl, ha, TX.1, TX.2.1, hrow, ?_⟩
    walk_at "ss"
    refine c_ixT (SqT.of hb) rfl ?_
    walk_at "ss"
    refine ⟨_, _, rfl, .inr (SqT.of hp), fun l hl => ?_⟩
    exact k l _ hl (Ex.new hl) upd_same
theorem ok_Equation_names (T : Txt K mg Z) : FnOk P w K mg base CX0 1 Z.f_Equation_names Z.fd_Equation_names ["self"] (spE Z (fun r => r.kind = 1 ∨ r.kind = 2 ∨ r.kind = 3) Re_names) := by
  refine T.F_Equation_names.ok sc_Equation_names (fun vs H Q E h => ?_) (fun cdv AA outer s H vs Q E hr h => ?_)
  · obtain ⟨r, v, u, rfl, _⟩ := h
    rfl
  · obtain ⟨r, v, u, rfl, ⟨a, dx, fs, rfl, ha, hr2, hrow, hoff, htm⟩, hg, hS, k⟩ := h
    have TX := tcE T r.kind_lt
    obtain ⟨kk, n, w0, x, rfl⟩ := kind_vd hS
    obtain ⟨b, rfl, hb⟩ := hr2
    refine ⟨_, (pss_one (ps_ret (pe_lst (pa_cons (pe_ix ix_tup (pe_fld (pv 0) (by rfl)) pe_int (fun _ _ => rfl)) pa_nil)))), ?_⟩
    walk_at "ss"
    refine ⟨_, _, _, _, _, rfl, ha, TX.1, TX.2.1, hrow, ?_⟩
    walk_at "ss"
    refine c_ixT (SqT.of hb) rfl ?_
    walk_at "ss"
    exact newL k
theorem ok_Plain_names (T : Txt K mg Z)  : FnOk P w K mg base CX0 (9) Z.f_Plain_names Z.fd_Plain_names ["self"] (spE Z (fun r => r.kind = 0) Re_names) := by
  refine T.F_Plain_names.ok sc_Plain_names (fun vs H Q E h => ?_) (fun cdv AA outer s H vs Q E hr h => ?_)
  · obtain ⟨r, v, u, rfl, _⟩ := h
    rfl
  · obtain ⟨r, v, u, rfl, ⟨a, dx, fs, rfl, ha, hr2, hrow, hoff, htm⟩, hg, hS, k⟩ := h
    have TX := tcE T r.kind_lt
    obtain ⟨n, t, rfl⟩ := kind_pl hS
    obtain ⟨tv, hk, htv⟩ := htm n t rfl
    have GM_names := gm_names (P := P) (w := w) (base := base) T 5
    refine ⟨_, (pss_one (ps_ret (pe_methP0 (pe_fld (pv 0) (by rfl)) GM_names (hr.mono (by omega)) pass0))), ?_⟩
    walk_at "ss"
    refine ⟨_, _, _, _, _, rfl, ha, TX.1, TX.2.2.1 rfl, hk, ?_⟩
    obtain ⟨a2, dx2, fs2, rfl, ha2, l1, l2, l3, l4⟩ := htv.cls
    refine ⟨a2, _, dx2, fs2, rfl, ha2, clsT_MC Z t, l2, ?_⟩
    walk_at "ss"
    have h5 := hg.2.2
    exact ⟨t, _, rfl, htv, rfl, h5, by omega, k⟩
theorem ok_When_names (T : Txt K mg Z) : FnOk P w K mg base CX0 2 Z.f_When_names Z.fd_When_names ["self"] (spE Z (fun r => r.kind = 4) Re_names) := by
  have G_each_once := ok_each_once (P := P) (w := w) (base := base) T
  refine T.F_When_names.ok sc_When_names (fun vs H Q E h => ?_) (fun cdv AA outer s H vs Q E hr h => ?_)
  · obtain ⟨r, v, u, rfl, _⟩ := h
    rfl
  · obtain ⟨r, v, u, rfl, ⟨a, dx, fs, rfl, ha, hr2, hrow, hoff, htm⟩, hg, hS, k⟩ := h
    have TX := tcE T r.kind_lt
    obtain ⟨n, x, y, rfl⟩ := kind_wh hS
    obtain ⟨b, rfl, hb⟩ := hr2
    refine ⟨_, (pss_one (ps_ret (pe_call G_each_once (hr.mono (by omega)) rfl T.g_each_once T.F_each_once.kp T.b_each_once .nil pass0 (pa_cons (pe_callTy call_list_of (by rfl) T.n_list (by decide +kernel) (pa_cons (pe_slice sl_tup (pe_fld (pv 0) (by rfl)) (po_some pe_int) po_none) pa_nil)) pa_nil)))), ?_⟩
    walk_at "ss"
    refine ⟨_, _, _, _, _, rfl, ha, TX.1, TX.2.1, hrow, ?_⟩
    walk_at "ss"
    refine ⟨b, _, rfl, SqT.of hb, fun z => absurd (show (2 : Nat) = 0 from z.1) (by decide), fun p2 hp2 => ?_⟩
    walk_at "ss"
    refine ⟨_, _, rfl, .inr (SqT.of upd_same), fun l hl => ?_⟩
    walk_at "ss"
    refine ⟨l, [x, y], rfl, upd_same, by simp, RetL.up k ((Ex.new hp2).trans (Ex.new hl))⟩
theorem ok_Same_names (T : Txt K mg Z)  : FnOk P w K mg base CX0 (2) Z.f_Same_names Z.fd_Same_names ["self"] (spE Z (fun r => r.kind = 5) Re_names) := by
  refine T.F_Same_names.ok sc_Same_names (fun vs H Q E h => ?_) (fun cdv AA outer s H vs Q E hr h => ?_)
  · obtain ⟨r, v, u, rfl, _⟩ := h
    rfl
  · obtain ⟨r, v, u, rfl, ⟨a, dx, fs, rfl, ha, hr2, hrow, hoff, htm⟩, hg, hS, k⟩ := h
    have TX := tcE T r.kind_lt
    obtain ⟨ns, rfl⟩ := kind_sm hS
    obtain ⟨b, p, rfl, hb, hp⟩ := hr2
    have G_each_once := ok_each_onceT (P := P) (w := w) (base := base) T
    refine ⟨_, (pss_one (ps_ret (pe_call G_each_once (hr.mono (by omega)) rfl T.g_each_once T.F_each_once.kp T.b_each_once .nil pass0 (pa_cons (pe_ix ix_tup (pe_fld (pv 0) (by rfl)) pe_int (fun _ _ => rfl)) pa_nil)))), ?_⟩
    walk_at "ss"
    refine ⟨_, _, _, _, _, rfl, ha, TX.1, TX.2.1, hrow, ?_⟩
    walk_at "ss"
    refine c_ixT (SqT.of hb) rfl ?_
    walk_at "ss"
    have hlen := hg.2.1
    exact ⟨p, ns, rfl, hp, by omega, k⟩
theorem ok_Call_names (T : Txt K mg Z)  : FnOk P w K mg base CX0 (2) Z.f_Call_names Z.fd_Call_names ["self"] (spE Z (fun r => r.kind = 6) Re_names) := by
  refine T.F_Call_names.ok sc_Call_names (fun vs H Q E h => ?_) (fun cdv AA outer s H vs Q E hr h => ?_)
  · obtain ⟨r, v, u, rfl, _⟩ := h
    rfl
  · obtain ⟨r, v, u, rfl, ⟨a, dx, fs, rfl, ha, hr2, hrow, hoff, htm⟩, hg, hS, k⟩ := h
    have TX := tcE T r.kind_lt
    obtain ⟨os, nd, xs, rfl⟩ := kind_cl hS
    obtain ⟨b, q, p, rfl, hb, hq, hp⟩ := hr2
    have G_each_once := ok_each_onceT (P := P) (w := w) (base := base) T
    refine ⟨_, (pss_one (ps_ret (pe_call G_each_once (hr.mono (by omega)) rfl T.g_each_once T.F_each_once.kp T.b_each_once .nil pass0 (pa_cons (pe_ix ix_tup (pe_fld (pv 0) (by rfl)) pe_int (fun _ _ => rfl)) pa_nil)))), ?_⟩
    walk_at "ss"
    refine ⟨_, _, _, _, _, rfl, ha, TX.1, TX.2.1, hrow, ?_⟩
    walk_at "ss"
    refine c_ixT (SqT.of hb) rfl ?_
    walk_at "ss"
    have hlen := hg.2.2.2.2.2.1
    exact ⟨p, xs, rfl, hp, by omega, k⟩
theorem ok_Equation_term (T : Txt K mg Z) : FnOk P w K mg base CX0 1 Z.f_Equation_term Z.fd_Equation_term ["self"] (spE Z (fun r => r.kind = 1 ∨ r.kind = 2 ∨ r.kind = 3 ∨ r.kind = 4 ∨ r.kind = 5 ∨ r.kind = 6) (Re_term Z)) := by
  refine T.F_Equation_term.ok sc_Equation_term (fun vs H Q E h => ?_) (fun cdv AA outer s H vs Q E hr h => ?_)
  · obtain ⟨r, v, u, rfl, _⟩ := h
    rfl
  · obtain ⟨r, v, u, rfl, ⟨a, dx, fs, rfl, ha, hr2, hrow, hoff, htm⟩, hg, hS, k⟩ := h
    have TX := tcE T r.kind_lt
    refine ⟨_, (pss_one (ps_ret pe_non)), ?_⟩
    walk_at "ss"
    cases r with
    | pl n t => simp [Rw.kind] at hS
    | _ => exact k
theorem ok_Plain_term (T : Txt K mg Z) : FnOk P w K mg base CX0 1 Z.f_Plain_term Z.fd_Plain_term ["self"] (spE Z (fun r => r.kind = 0) (Re_term Z)) := by
  refine T.F_Plain_term.ok sc_Plain_term (fun vs H Q E h => ?_) (fun cdv AA outer s H vs Q E hr h => ?_)
  · obtain ⟨r, v, u, rfl, _⟩ := h
    rfl
  · obtain ⟨r, v, u, rfl, ⟨a, dx, fs, rfl, ha, hr2, hrow, hoff, htm⟩, hg, hS, k⟩ := h
    have TX := tcE T r.kind_lt
    obtain ⟨n, t, rfl⟩ := kind_pl hS
    obtain ⟨tv, hk, htv⟩ := htm n t rfl
    refine ⟨_, (pss_one (ps_ret (pe_fld (pv 0) (by rfl)))), ?_⟩
    walk_at "ss"
    exact ⟨_, _, _, _, _, rfl, ha, TX.1, TX.2.2.1 rfl, hk, k tv htv⟩
theorem ok_Equation_is_call (T : Txt K mg Z) : FnOk P w K mg base CX0 1 Z.f_Equation_is_call Z.fd_Equation_is_call ["self"] (spE Z (fun r => r.kind = 0 ∨ r.kind = 1 ∨ r.kind = 2 ∨ r.kind = 3 ∨ r.kind = 4 ∨ r.kind = 5) Re_is_call) := by
  refine T.F_Equation_is_call.ok sc_Equation_is_call (fun vs H Q E h => ?_) (fun cdv AA outer s H vs Q E hr h => ?_)
  · obtain ⟨r, v, u, rfl, _⟩ := h
    rfl
  · obtain ⟨r, v, u, rfl, ⟨a, dx, fs, rfl, ha, hr2, hrow, hoff, htm⟩, hg, hS, k⟩ := h
    have TX := tcE T r.kind_lt
    refine ⟨_, (pss_one (ps_ret pe_bl)), ?_⟩
    walk_at "ss"
    have e : decide (r.kind = 6) = false := decide_eq_false (by omega)
    unfold Re_is_call at k
    rw [e] at k
    exact k
theorem ok_Call_is_call (T : Txt K mg Z) : FnOk P w K mg base CX0 1 Z.f_Call_is_call Z.fd_Call_is_call ["self"] (spE Z (fun r => r.kind = 6) Re_is_call) := by
  refine T.F_Call_is_call.ok sc_Call_is_call (fun vs H Q E h => ?_) (fun cdv AA outer s H vs Q E hr h => ?_)
  · obtain ⟨r, v, u, rfl, _⟩ := h
    rfl
  · obtain ⟨r, v, u, rfl, ⟨a, dx, fs, rfl, ha, hr2, hrow, hoff, htm⟩, hg, hS, k⟩ := h
    have TX := tcE T r.kind_lt
    refine ⟨_, (pss_one (ps_ret pe_bl)), ?_⟩
    walk_at "ss"
    have e : decide (r.kind = 6) = true := decide_eq_true hS
    unfold Re_is_call at k
    rw [e] at k
    exact k
theorem gmE_told (T : Txt K mg Z) : ∀ C, MCE Z C → MOk P w K mg base CX0 1 C "told" (spmE_told Z C) := by
  rintro C ⟨i, hi, rfl⟩
  have hi' : i = 0 ∨ i = 1 ∨ i = 2 ∨ i = 3 ∨ i = 4 ∨ i = 5 ∨ i = 6 := by omega
  rcases hi' with rfl | rfl | rfl | rfl | rfl | rfl | rfl
  · exact ⟨(tcB_ok T.x_Plain).cl, _, _, _, ⟨T.h_told_Plain, T.y_Equation_told, T.F_Equation_told.kp⟩, ((ok_Equation_told (P := P) (w := w) (base := base) T).mono (by decide)).imp fun vs H Q E ⟨r, v, u, e, h, hg, hc, k⟩ => ⟨r, v, u, e, h, hg, True.intro, k⟩, T.b_Equation_told⟩
  · exact ⟨(tcB_ok T.x_Before).cl, _, _, _, ⟨T.h_told_Before, T.y_Equation_told, T.F_Equation_told.kp⟩, ((ok_Equation_told (P := P) (w := w) (base := base) T).mono (by decide)).imp fun vs H Q E ⟨r, v, u, e, h, hg, hc, k⟩ => ⟨r, v, u, e, h, hg, True.intro, k⟩, T.b_Equation_told⟩
  · exact ⟨(tcB_ok T.x_Hold).cl, _, _, _, ⟨T.h_told_Hold, T.y_Equation_told, T.F_Equation_told.kp⟩, ((ok_Equation_told (P := P) (w := w) (base := base) T).mono (by decide)).imp fun vs H Q E ⟨r, v, u, e, h, hg, hc, k⟩ => ⟨r, v, u, e, h, hg, True.intro, k⟩, T.b_Equation_told⟩
  · exact ⟨(tcB_ok T.x_Like).cl, _, _, _, ⟨T.h_told_Like, T.y_Equation_told, T.F_Equation_told.kp⟩, ((ok_Equation_told (P := P) (w := w) (base := base) T).mono (by decide)).imp fun vs H Q E ⟨r, v, u, e, h, hg, hc, k⟩ => ⟨r, v, u, e, h, hg, True.intro, k⟩, T.b_Equation_told⟩
  · exact ⟨(tcB_ok T.x_When).cl, _, _, _, ⟨T.h_told_When, T.y_Equation_told, T.F_Equation_told.kp⟩, ((ok_Equation_told (P := P) (w := w) (base := base) T).mono (by decide)).imp fun vs H Q E ⟨r, v, u, e, h, hg, hc, k⟩ => ⟨r, v, u, e, h, hg, True.intro, k⟩, T.b_Equation_told⟩
  · exact ⟨(tcB_ok T.x_Same).cl, _, _, _, ⟨T.h_told_Same, T.y_Equation_told, T.F_Equation_told.kp⟩, ((ok_Equation_told (P := P) (w := w) (base := base) T).mono (by decide)).imp fun vs H Q E ⟨r, v, u, e, h, hg, hc, k⟩ => ⟨r, v, u, e, h, hg, True.intro, k⟩, T.b_Equation_told⟩
  · exact ⟨(tcB_ok T.x_Call).cl, _, _, _, ⟨T.h_told_Call, T.y_Equation_told, T.F_Equation_told.kp⟩, ((ok_Equation_told (P := P) (w := w) (base := base) T).mono (by decide)).imp fun vs H Q E ⟨r, v, u, e, h, hg, hc, k⟩ => ⟨r, v, u, e, h, hg, True.intro, k⟩, T.b_Equation_told⟩
theorem gmE_tells (T : Txt K mg Z) : ∀ C, MCE Z C → MOk P w K mg base CX0 1 C "tells" (spmE_tells Z C) := by
  rintro C ⟨i, hi, rfl⟩
  have hi' : i = 0 ∨ i = 1 ∨ i = 2 ∨ i = 3 ∨ i = 4 ∨ i = 5 ∨ i = 6 := by omega
  rcases hi' with rfl | rfl | rfl | rfl | rfl | rfl | rfl
  · exact ⟨(tcB_ok T.x_Plain).cl, _, _, _, ⟨T.h_tells_Plain, T.y_Equation_tells, T.F_Equation_tells.kp⟩, ((ok_Equation_tells (P := P) (w := w) (base := base) T).mono (by decide)).imp fun vs H Q E ⟨r, v, u, e, h, hg, hc, k⟩ => ⟨r, v, u, e, h, hg, (by have := clsK_inj T r.kind_lt hi hc; omega), k⟩, T.b_Equation_tells⟩
  · exact ⟨(tcB_ok T.x_Before).cl, _, _, _, ⟨T.h_tells_Before, T.y_Equation_tells, T.F_Equation_tells.kp⟩, ((ok_Equation_tells (P := P) (w := w) (base := base) T).mono (by decide)).imp fun vs H Q E ⟨r, v, u, e, h, hg, hc, k⟩ => ⟨r, v, u, e, h, hg, (by have := clsK_inj T r.kind_lt hi hc; omega), k⟩, T.b_Equation_tells⟩
  · exact ⟨(tcB_ok T.x_Hold).cl, _, _, _, ⟨T.h_tells_Hold, T.y_Equation_tells, T.F_Equation_tells.kp⟩, ((ok_Equation_tells (P := P) (w := w) (base := base) T).mono (by decide)).imp fun vs H Q E ⟨r, v, u, e, h, hg, hc, k⟩ => ⟨r, v, u, e, h, hg, (by have := clsK_inj T r.kind_lt hi hc; omega), k⟩, T.b_Equation_tells⟩
  · exact ⟨(tcB_ok T.x_Like).cl, _, _, _, ⟨T.h_tells_Like, T.y_Equation_tells, T.F_Equation_tells.kp⟩, ((ok_Equation_tells (P := P) (w := w) (base := base) T).mono (by decide)).imp fun vs H Q E ⟨r, v, u, e, h, hg, hc, k⟩ => ⟨r, v, u, e, h, hg, (by have := clsK_inj T r.kind_lt hi hc; omega), k⟩, T.b_Equation_tells⟩
  · exact ⟨(tcB_ok T.x_When).cl, _, _, _, ⟨T.h_tells_When, T.y_Equation_tells, T.F_Equation_tells.kp⟩, ((ok_Equation_tells (P := P) (w := w) (base := base) T).mono (by decide)).imp fun vs H Q E ⟨r, v, u, e, h, hg, hc, k⟩ => ⟨r, v, u, e, h, hg, (by have := clsK_inj T r.kind_lt hi hc; omega), k⟩, T.b_Equation_tells⟩
  · exact ⟨(tcB_ok T.x_Same).cl, _, _, _, ⟨T.h_tells_Same, T.y_Same_tells, T.F_Same_tells.kp⟩, ((ok_Same_tells (P := P) (w := w) (base := base) T).mono (by decide)).imp fun vs H Q E ⟨r, v, u, e, h, hg, hc, k⟩ => ⟨r, v, u, e, h, hg, (by have := clsK_inj T r.kind_lt hi hc; omega), k⟩, T.b_Same_tells⟩
  · exact ⟨(tcB_ok T.x_Call).cl, _, _, _, ⟨T.h_tells_Call, T.y_Call_tells, T.F_Call_tells.kp⟩, ((ok_Call_tells (P := P) (w := w) (base := base) T).mono (by decide)).imp fun vs H Q E ⟨r, v, u, e, h, hg, hc, k⟩ => ⟨r, v, u, e, h, hg, (by have := clsK_inj T r.kind_lt hi hc; omega), k⟩, T.b_Call_tells⟩
theorem gmE_names (T : Txt K mg Z) : ∀ C, MCE Z C → MOk P w K mg base CX0 9 C "names" (spmE_names Z C) := by
  rintro C ⟨i, hi, rfl⟩
  have hi' : i = 0 ∨ i = 1 ∨ i = 2 ∨ i = 3 ∨ i = 4 ∨ i = 5 ∨ i = 6 := by omega
  rcases hi' with rfl | rfl | rfl | rfl | rfl | rfl | rfl
  · exact ⟨(tcB_ok T.x_Plain).cl, _, _, _, ⟨T.h_names_Plain, T.y_Plain_names, T.F_Plain_names.kp⟩, ((ok_Plain_names (P := P) (w := w) (base := base) T).mono (by decide)).imp fun vs H Q E ⟨r, v, u, e, h, hg, hc, k⟩ => ⟨r, v, u, e, h, hg, (by have := clsK_inj T r.kind_lt hi hc; omega), k⟩, T.b_Plain_names⟩
  · exact ⟨(tcB_ok T.x_Before).cl, _, _, _, ⟨T.h_names_Before, T.y_Equation_names, T.F_Equation_names.kp⟩, ((ok_Equation_names (P := P) (w := w) (base := base) T).mono (by decide)).imp fun vs H Q E ⟨r, v, u, e, h, hg, hc, k⟩ => ⟨r, v, u, e, h, hg, (by have := clsK_inj T r.kind_lt hi hc; omega), k⟩, T.b_Equation_names⟩
  · exact ⟨(tcB_ok T.x_Hold).cl, _, _, _, ⟨T.h_names_Hold, T.y_Equation_names, T.F_Equation_names.kp⟩, ((ok_Equation_names (P := P) (w := w) (base := base) T).mono (by decide)).imp fun vs H Q E ⟨r, v, u, e, h, hg, hc, k⟩ => ⟨r, v, u, e, h, hg, (by have := clsK_inj T r.kind_lt hi hc; omega), k⟩, T.b_Equation_names⟩
  · exact ⟨(tcB_ok T.x_Like).cl, _, _, _, ⟨T.h_names_Like, T.y_Equation_names, T.F_Equation_names.kp⟩, ((ok_Equation_names (P := P) (w := w) (base := base) T).mono (by decide)).imp fun vs H Q E ⟨r, v, u, e, h, hg, hc, k⟩ => ⟨r, v, u, e, h, hg, (by have := clsK_inj T r.kind_lt hi hc; omega), k⟩, T.b_Equation_names⟩
  · exact ⟨(tcB_ok T.x_When).cl, _, _, _, ⟨T.h_names_When, T.y_When_names, T.F_When_names.kp⟩, ((ok_When_names (P := P) (w := w) (base := base) T).mono (by decide)).imp fun vs H Q E ⟨r, v, u, e, h, hg, hc, k⟩ => ⟨r, v, u, e, h, hg, (by have := clsK_inj T r.kind_lt hi hc; omega), k⟩, T.b_When_names⟩
  · exact ⟨(tcB_ok T.x_Same).cl, _, _, _, ⟨T.h_names_Same, T.y_Same_names, T.F_Same_names.kp⟩, ((ok_Same_names (P := P) (w := w) (base := base) T).mono (by decide)).imp fun vs H Q E ⟨r, v, u, e, h, hg, hc, k⟩ => ⟨r, v, u, e, h, hg, (by have := clsK_inj T r.kind_lt hi hc; omega), k⟩, T.b_Same_names⟩
  · exact ⟨(tcB_ok T.x_Call).cl, _, _, _, ⟨T.h_names_Call, T.y_Call_names, T.F_Call_names.kp⟩, ((ok_Call_names (P := P) (w := w) (base := base) T).mono (by decide)).imp fun vs H Q E ⟨r, v, u, e, h, hg, hc, k⟩ => ⟨r, v, u, e, h, hg, (by have := clsK_inj T r.kind_lt hi hc; omega), k⟩, T.b_Call_names⟩
theorem gmE_term (T : Txt K mg Z) : ∀ C, MCE Z C → MOk P w K mg base CX0 1 C "term" (spmE_term Z C) := by
  rintro C ⟨i, hi, rfl⟩
  have hi' : i = 0 ∨ i = 1 ∨ i = 2 ∨ i = 3 ∨ i = 4 ∨ i = 5 ∨ i = 6 := by omega
  rcases hi' with rfl | rfl | rfl | rfl | rfl | rfl | rfl
  · exact ⟨(tcB_ok T.x_Plain).cl, _, _, _, ⟨T.h_term_Plain, T.y_Plain_term, T.F_Plain_term.kp⟩, ((ok_Plain_term (P := P) (w := w) (base := base) T).mono (by decide)).imp fun vs H Q E ⟨r, v, u, e, h, hg, hc, k⟩ => ⟨r, v, u, e, h, hg, (by have := clsK_inj T r.kind_lt hi hc; omega), k⟩, T.b_Plain_term⟩
  · exact ⟨(tcB_ok T.x_Before).cl, _, _, _, ⟨T.h_term_Before, T.y_Equation_term, T.F_Equation_term.kp⟩, ((ok_Equation_term (P := P) (w := w) (base := base) T).mono (by decide)).imp fun vs H Q E ⟨r, v, u, e, h, hg, hc, k⟩ => ⟨r, v, u, e, h, hg, (by have := clsK_inj T r.kind_lt hi hc; omega), k⟩, T.b_Equation_term⟩
  · exact ⟨(tcB_ok T.x_Hold).cl, _, _, _, ⟨T.h_term_Hold, T.y_Equation_term, T.F_Equation_term.kp⟩, ((ok_Equation_term (P := P) (w := w) (base := base) T).mono (by decide)).imp fun vs H Q E ⟨r, v, u, e, h, hg, hc, k⟩ => ⟨r, v, u, e, h, hg, (by have := clsK_inj T r.kind_lt hi hc; omega), k⟩, T.b_Equation_term⟩
  · exact ⟨(tcB_ok T.x_Like).cl, _, _, _, ⟨T.h_term_Like, T.y_Equation_term, T.F_Equation_term.kp⟩, ((ok_Equation_term (P := P) (w := w) (base := base) T).mono (by decide)).imp fun vs H Q E ⟨r, v, u, e, h, hg, hc, k⟩ => ⟨r, v, u, e, h, hg, (by have := clsK_inj T r.kind_lt hi hc; omega), k⟩, T.b_Equation_term⟩
  · exact ⟨(tcB_ok T.x_When).cl, _, _, _, ⟨T.h_term_When, T.y_Equation_term, T.F_Equation_term.kp⟩, ((ok_Equation_term (P := P) (w := w) (base := base) T).mono (by decide)).imp fun vs H Q E ⟨r, v, u, e, h, hg, hc, k⟩ => ⟨r, v, u, e, h, hg, (by have := clsK_inj T r.kind_lt hi hc; omega), k⟩, T.b_Equation_term⟩
  · exact ⟨(tcB_ok T.x_Same).cl, _, _, _, ⟨T.h_term_Same, T.y_Equation_term, T.F_Equation_term.kp⟩, ((ok_Equation_term (P := P) (w := w) (base := base) T).mono (by decide)).imp fun vs H Q E ⟨r, v, u, e, h, hg, hc, k⟩ => ⟨r, v, u, e, h, hg, (by have := clsK_inj T r.kind_lt hi hc; omega), k⟩, T.b_Equation_term⟩
  · exact ⟨(tcB_ok T.x_Call).cl, _, _, _, ⟨T.h_term_Call, T.y_Equation_term, T.F_Equation_term.kp⟩, ((ok_Equation_term (P := P) (w := w) (base := base) T).mono (by decide)).imp fun vs H Q E ⟨r, v, u, e, h, hg, hc, k⟩ => ⟨r, v, u, e, h, hg, (by have := clsK_inj T r.kind_lt hi hc; omega), k⟩, T.b_Equation_term⟩
theorem gmE_is_call (T : Txt K mg Z) : ∀ C, MCE Z C → MOk P w K mg base CX0 1 C "is_call" (spmE_is_call Z C) := by
  rintro C ⟨i, hi, rfl⟩
  have hi' : i = 0 ∨ i = 1 ∨ i = 2 ∨ i = 3 ∨ i = 4 ∨ i = 5 ∨ i = 6 := by omega
  rcases hi' with rfl | rfl | rfl | rfl | rfl | rfl | rfl
  · exact ⟨(tcB_ok T.x_Plain).cl, _, _, _, ⟨T.h_is_call_Plain, T.y_Equation_is_call, T.F_Equation_is_call.kp⟩, ((ok_Equation_is_call (P := P) (w := w) (base := base) T).mono (by decide)).imp fun vs H Q E ⟨r, v, u, e, h, hg, hc, k⟩ => ⟨r, v, u, e, h, hg, (by have := clsK_inj T r.kind_lt hi hc; omega), k⟩, T.b_Equation_is_call⟩
  · exact ⟨(tcB_ok T.x_Before).cl, _, _, _, ⟨T.h_is_call_Before, T.y_Equation_is_call, T.F_Equation_is_call.kp⟩, ((ok_Equation_is_call (P := P) (w := w) (base := base) T).mono (by decide)).imp fun vs H Q E ⟨r, v, u, e, h, hg, hc, k⟩ => ⟨r, v, u, e, h, hg, (by have := clsK_inj T r.kind_lt hi hc; omega), k⟩, T.b_Equation_is_call⟩
  · exact ⟨(tcB_ok T.x_Hold).cl, _, _, _, ⟨T.h_is_call_Hold, T.y_Equation_is_call, T.F_Equation_is_call.kp⟩, ((ok_Equation_is_call (P := P) (w := w) (base := base) T).mono (by decide)).imp fun vs H Q E ⟨r, v, u, e, h, hg, hc, k⟩ => ⟨r, v, u, e, h, hg, (by have := clsK_inj T r.kind_lt hi hc; omega), k⟩, T.b_Equation_is_call⟩
  · exact ⟨(tcB_ok T.x_Like).cl, _, _, _, ⟨T.h_is_call_Like, T.y_Equation_is_call, T.F_Equation_is_call.kp⟩, ((ok_Equation_is_call (P := P) (w := w) (base := base) T).mono (by decide)).imp fun vs H Q E ⟨r, v, u, e, h, hg, hc, k⟩ => ⟨r, v, u, e, h, hg, (by have := clsK_inj T r.kind_lt hi hc; omega), k⟩, T.b_Equation_is_call⟩
  · exact ⟨(tcB_ok T.x_When).cl, _, _, _, ⟨T.h_is_call_When, T.y_Equation_is_call, T.F_Equation_is_call.kp⟩, ((ok_Equation_is_call (P := P) (w := w) (base := base) T).mono (by decide)).imp fun vs H Q E ⟨r, v, u, e, h, hg, hc, k⟩ => ⟨r, v, u, e, h, hg, (by have := clsK_inj T r.kind_lt hi hc; omega), k⟩, T.b_Equation_is_call⟩
  · exact ⟨(tcB_ok T.x_Same).cl, _, _, _, ⟨T.h_is_call_Same, T.y_Equation_is_call, T.F_Equation_is_call.kp⟩, ((ok_Equation_is_call (P := P) (w := w) (base := base) T).mono (by decide)).imp fun vs H Q E ⟨r, v, u, e, h, hg, hc, k⟩ => ⟨r, v, u, e, h, hg, (by have := clsK_inj T r.kind_lt hi hc; omega), k⟩, T.b_Equation_is_call⟩
  · exact ⟨(tcB_ok T.x_Call).cl, _, _, _, ⟨T.h_is_call_Call, T.y_Call_is_call, T.F_Call_is_call.kp⟩, ((ok_Call_is_call (P := P) (w := w) (base := base) T).mono (by decide)).imp fun vs H Q E ⟨r, v, u, e, h, hg, hc, k⟩ => ⟨r, v, u, e, h, hg, (by have := clsK_inj T r.kind_lt hi hc; omega), k⟩, T.b_Call_is_call⟩

/-! ### rows made -/
theorem TermAt.keepM {H H2 : Hp} (e : ∀ a C dx fs, MC Z C → H a = some (.ins C dx fs) → H2 a = some (.ins C dx fs)) : ∀ {t : Tm} {v : V}, TermAt Z H t v → TermAt Z H2 t v := by
  intro t
  induction t with
  | nm s => rintro v ⟨a, dx, h1, h2⟩; exact ⟨a, dx, h1, e _ _ _ _ (clsT_MC Z (.nm s)) h2⟩
  | vl x => rintro v ⟨a, dx, h1, h2⟩; exact ⟨a, dx, h1, e _ _ _ _ (clsT_MC Z (.vl x)) h2⟩
  | two op p q ihp ihq => rintro v ⟨a, dx, v1, v2, h1, h2, h3, h4⟩; exact ⟨a, dx, v1, v2, h1, e _ _ _ _ (clsT_MC Z (.two op p q)) h2, ihp h3, ihq h4⟩
  | nt p ihp => rintro v ⟨a, dx, v1, h1, h2, h3⟩; exact ⟨a, dx, v1, h1, e _ _ _ _ (clsT_MC Z (.nt p)) h2, ihp h3⟩
  | pk c p q ihc ihp ihq => rintro v ⟨a, dx, v0, v1, v2, h1, h2, h3, h4, h5⟩; exact ⟨a, dx, v0, v1, v2, h1, e _ _ _ _ (clsT_MC Z (.pk c p q)) h2, ihc h3, ihp h4, ihq h5⟩
theorem MC_ne (T : Txt K mg Z) {C : Addr} (h : MC Z C) : C ≠ Z.c_Plain := by
  rcases h with rfl | rfl | rfl | rfl | rfl
  · exact (difB_ne (i := 0) (j := 1) T.fact_difT rfl rfl (by decide)).symm
  · exact (difB_ne (i := 0) (j := 2) T.fact_difT rfl rfl (by decide)).symm
  · exact (difB_ne (i := 0) (j := 3) T.fact_difT rfl rfl (by decide)).symm
  · exact (difB_ne (i := 0) (j := 4) T.fact_difT rfl rfl (by decide)).symm
  · exact (difB_ne (i := 0) (j := 5) T.fact_difT rfl rfl (by decide)).symm
def RetE (Z : Adr) (r : Rw) (u : V) (H : Hp) (Q : VK) : Prop := ∀ v H2, Ex H H2 → EqAt Z H2 r v u → Q v H2
theorem RetE.up {r : Rw} {u : V} {H0 H : Hp} {Q : VK} (k : RetE Z r u H0 Q) (e : Ex H0 H) : RetE Z r u H Q := fun v H2 e2 => k v H2 (e.trans e2)
def sp_Equation_init (Z : Adr) : Sp := fun vs H Q _ => ∃ x dx i v, vs = [.ref x, v] ∧ i < 7 ∧ H x = some (.ins (clsK Z i) dx []) ∧ Q .non (upd H x (.ins (clsK Z i) dx [("told_row", v)]))
theorem ok_Equation_init (T : Txt K mg Z) : FnOk P w K mg base CX0 1 Z.f_Equation_init Z.fd_Equation_init ["self", "row"] (sp_Equation_init Z) := by
  refine T.F_Equation_init.ok sc_Equation_init (fun vs H Q E h => ?_) (fun cdv AA outer s H vs Q E hr h => ?_)
  · obtain ⟨x, dx, i, v, rfl, _⟩ := h
    rfl
  · obtain ⟨x, dx, i, v, rfl, hi, hx, k⟩ := h
    have TX := tcE T hi
    refine ⟨_, (pss_one (ps_fld (pv 0) (pv 1) (by rfl))), ?_⟩
    walk_at "ss"
    refine ⟨x, _, dx, _, rfl, hx, TX.1, TX.2.1, by simp, ?_⟩
    walk_at "ss"
    exact k
def sp_Plain_init (Z : Adr) : Sp := fun vs H Q _ => ∃ x dx n t u H0, vs = [.ref x, u] ∧ H x = some (.ins Z.c_Plain dx []) ∧ H0 x = none ∧ Ex H0 H ∧ RowAt H0 (.pl n t) u ∧ t.good ∧ t.dep ≤ 5 ∧
  ∀ H2 tv, Ex H0 H2 → H2 x = some (.ins Z.c_Plain dx [("told_row", u), ("kept_term", tv)]) → TermAt Z H2 t tv → Q .non H2
theorem ok_Plain_init (T : Txt K mg Z)  : FnOk P w K mg base CX0 (20) Z.f_Plain_init Z.fd_Plain_init ["self", "row"] (sp_Plain_init Z) := by
  have G_Equation_init := ok_Equation_init (P := P) (w := w) (base := base) T
  have G_term_of := ok_term_of (P := P) (w := w) (base := base) T
  refine T.F_Plain_init.ok sc_Plain_init (fun vs H Q E h => ?_) (fun cdv AA outer s H vs Q E hr h => ?_)
  · obtain ⟨x, dx, n, t, u, H0, rfl, _⟩ := h
    rfl
  · obtain ⟨x, dx, n, t, u, H0, rfl, hx, h0, e0, ⟨b, tw, rfl, hb, hw⟩, hg, hd, k⟩ := h
    have TX := tcE T (i := 0) (by decide)
    refine ⟨_, (pss_cons (ps_expr (pe_cm rfl T.m_Equation (cmB_ok T.fact_cm_Equation) G_Equation_init (hr.mono (by omega)) T.F_Equation_init.kp T.b_Equation_init pass0 (pa_cons (pv 0) (pa_cons (pv 1) pa_nil))))
      (pss_one (ps_fld (pv 0) (pe_call G_term_of (hr.mono (by omega)) rfl T.g_term_of T.F_term_of.kp T.b_term_of .nil pass0 (pa_cons (pe_ix ix_tup (pv 1) pe_int (fun _ _ => rfl)) pa_nil)) (by rfl)))), ?_⟩
    walk_at "ss"
    refine ⟨x, dx, 0, _, rfl, by decide, hx, ?_⟩
    have e1 : Ex H0 (upd H x (.ins (clsK Z 0) dx [("told_row", .ref b)])) := Ex.mut e0 h0
    have hx1 : upd H x (.ins (clsK Z 0) dx [("told_row", .ref b)]) x = some (.ins (clsK Z 0) dx [("told_row", .ref b)]) := upd_same
    generalize upd H x (.ins (clsK Z 0) dx [("told_row", .ref b)]) = H1 at e1 hx1
    walk_at "ss"
    refine c_ixT (SqT.of (e1 _ _ hb)) rfl ?_
    walk_at "ss"
    refine ⟨t, tw, rfl, hw.up e1, hg, hd, fun tv H2 e2 htv => ?_⟩
    walk_at "ss"
    refine ⟨x, _, dx, _, rfl, e2 _ _ hx1, TX.1, TX.2.2.1 rfl, by simp, ?_⟩
    rw [put_tl (by decide +kernel)]
    walk_at "ss"
    refine k _ tv (Ex.mut (e1.trans e2) h0) upd_same (htv.keepM fun a C dx' fs hC ha => ?_)
    rw [upd_ne]
    · exact ha
    · intro z
      subst z
      have := (e2 _ _ hx1).symm.trans ha
      injection this with this
      injection this with h1
      exact MC_ne T hC h1.symm
theorem offE1 {u : V} : offE [("told_row", u)] := by
  refine ⟨?_, ?_, ?_, ?_, ?_⟩ <;> exact lk_tl (by decide +kernel) rfl
theorem offE2 {u v : V} : offE [("told_row", u), ("kept_term", v)] := by
  refine ⟨?_, ?_, ?_, ?_, ?_⟩ <;> exact lk_tl (by decide +kernel) (lk_tl (by decide +kernel) rfl)
theorem offX1 {u : V} : offX [("told_row", u)] := by
  refine ⟨?_, ?_, ?_, ?_⟩ <;> exact lk_tl (by decide +kernel) rfl
theorem offX2 {u v : V} : offX [("told_row", u), ("kept_term", v)] := by
  refine ⟨?_, ?_, ?_, ?_⟩ <;> exact lk_tl (by decide +kernel) (lk_tl (by decide +kernel) rfl)
theorem mk_row {H : Hp} {Q : VK} {E : XK} {i : Nat} {r : Rw} {u : V} (hi : r.kind = i) (h0 : i ≠ 0) (hr : RowAt H r u) (k : RetE Z r u H Q) : MkP2 (clsK Z i) (sp_Equation_init Z) [u] H Q E := fun x dx hx hd _ => by
  have hk := r.kind_lt
  refine ⟨x, dx, i, u, rfl, by omega, upd_same, rfl, ?_⟩
  have e1 : Ex H (upd (upd (upd H dx (.own x)) x (.ins (clsK Z i) dx [])) x (.ins (clsK Z i) dx [("told_row", u)])) := Ex.mut (mk_heap hx hd) hx
  refine k _ _ e1 ⟨x, dx, _, rfl, by rw [hi]; exact upd_same, hr.up e1, lk_hd, ⟨offE1, offX1⟩, fun n t e => ?_⟩
  subst e
  exact absurd hi.symm h0
theorem mk_Plain {H : Hp} {Q : VK} {E : XK} {n : Str} {t : Tm} {u : V} (hr : RowAt H (.pl n t) u) (hg : t.good) (hd5 : t.dep ≤ 5) (k : RetE Z (.pl n t) u H Q) : MkP2 Z.c_Plain (sp_Plain_init Z) [u] H Q E := fun x dx hx hd _ =>
  ⟨x, dx, n, t, u, H, rfl, upd_same, hx, mk_heap hx hd, hr, hg, hd5, fun H2 tv e2 g2 htv => ⟨rfl, k _ _ e2 ⟨x, dx, _, rfl, g2, hr.up e2, lk_hd, ⟨offE2, offX2⟩, fun n' t' e => by cases e; exact ⟨tv, lk_tl (by decide +kernel) lk_hd, htv⟩⟩⟩⟩
/-! are_pointed .. equation_of -/
def sp_are_pointed : Sp := fun vs H Q _ => ∃ (p : Addr) (ns : List Str) (m : Int), vs = [.ref p, .int m] ∧ H p = some (.tup (ns.map V.str)) ∧ (∀ s ∈ ns, goodN s) ∧ m ≤ (ns.length : Int) ∧ ns.length ≤ 1000 ∧ RetV (.bl true) H Q
theorem ok_are_pointed (T : Txt K mg Z) : FnOk P w K mg base CX0 3 Z.f_are_pointed Z.fd_are_pointed ["thing", "least"] sp_are_pointed := by
  have G_is_pointed := ok_is_pointed (P := P) (w := w) (base := base) T
  refine T.F_are_pointed.ok sc_are_pointed (fun vs H Q E h => ?_) (fun cdv AA outer s H vs Q E hr h => ?_)
  · obtain ⟨p, ns, m, rfl, _⟩ := h
    rfl
  · obtain ⟨p, ns, m, rfl, hp, hg, hm, hl, k⟩ := h
    refine ⟨_, (pss_one (ps_ret (pe_and (pe_callB call_isi (by rfl) T.n_isinstance (by decide +kernel) (pa_cons (pv 0) (pa_cons (pe_bltn (v := .ty "tuple") (by rfl) T.n_tuple (by decide +kernel) rfl) pa_nil))) (pe_and (pe_cmpR op_ge (pe_callB call_len_seq (by rfl) T.n_len (by decide +kernel) (pa_cons (pv 0) pa_nil)) (pv 1) (nomark _)) (pe_one (pe_callB (cr_all rfl) (by rfl) T.n_all (by decide +kernel) (pa_cons (pe_lc (own := [("name", 2)]) (g := (gName 2)) (tt := tYes) (te := (tCall (sp_is_pointed K) [] E0 (tCons (tVar 2) tNil))) rfl sc_are_pointed.nd (pi_tup (pv 0)) (blkOk_by (own := [("name", 2)]) (N := N_are_pointed) (sc := defScope s_are_pointed) (by decide +kernel)) (fun _ _ _ _ _ => (pg_name (i := 2) sc_are_pointed.nd rfl (Or.inl rfl))) (fun _ _ _ _ _ => pts_nil) (fun _ _ _ _ _ => (pe_call G_is_pointed (hr.mono (by omega)) rfl T.g_is_pointed T.F_is_pointed.kp T.b_is_pointed .nil pass0 (pa_cons (pv 2) pa_nil)))) pa_nil))))))), ?_⟩
    walk_at "ss"
    refine isi (ty_tup hp) kb_tt ?_
    walk_at "ss"
    refine ⟨p, _, rfl, .inr (SqT.of hp), ?_⟩
    walk_at "ss"
    refine if_tt (decide_eq_true (by rw [List.length_map]; exact hm)) ?_
    walk_at "ss"
    refine ⟨⟨_, SqT.of hp⟩, lcT (fun i => (ns[i]?).bind fun _ => some (.bl true)) (SqT.of hp) (by rw [List.length_map]; omega) (fun i x hx => ?_) ?_⟩
    · rw [List.getElem?_map] at hx
      obtain ⟨s, hs, rfl⟩ := Option.map_eq_some_iff.mp hx
      have hgs := hg s (List.mem_of_getElem? hs)
      have := hgs.2.1
      intro H2 e2 R hR
      walk_at "ss"
      refine ⟨_, rfl, .inl ⟨s, rfl, by omega, fun H3 e3 => ?_⟩⟩
      rw [hgs.1]
      rw [hs] at hR
      exact hR _ e3
    rw [List.length_map, fm_range, fm_some]
    intro p2 H2 hp2 e2 g2
    walk_at "ss"
    refine ⟨p2, ns.map fun _ => true, rfl, SqL.of (by rw [g2, List.map_map]; rfl), ?_⟩
    have ea : (ns.map fun _ => true).all id = true := by
      rw [List.all_eq_true]
      intro b hb
      obtain ⟨_, _, rfl⟩ := List.mem_map.mp hb
      rfl
    rw [ea]
    exact k _ e2
/-- a row with a value, or one whose name is none -/
def sp_is_valued : Sp := fun vs H Q _ => ∃ a w n v x, vs = [.ref a] ∧ H a = some (.tup [.str w, .str n, v, .str x]) ∧ n.length ≤ 1000 ∧ ((isPointed n = true ∧ isVal v = true ∧ goodN x ∧ RetV (.bl true) H Q) ∨ (isPointed n = false ∧ RetV (.bl false) H Q))
theorem ok_is_valued (T : Txt K mg Z) : FnOk P w K mg base CX0 4 Z.f_is_valued Z.fd_is_valued ["row"] sp_is_valued := by
  have G_is_pointed := ok_is_pointed (P := P) (w := w) (base := base) T
  have G_is_value := ok_is_value (P := P) (w := w) (base := base) T
  refine T.F_is_valued.ok sc_is_valued (fun vs H Q E h => ?_) (fun cdv AA outer s H vs Q E hr h => ?_)
  · obtain ⟨a, w0, n, v, x, rfl, _⟩ := h
    rfl
  · obtain ⟨a, w0, n, v, x, rfl, ha, hn, h⟩ := h
    refine ⟨_, (pss_one (ps_ret (pe_and (pe_cmpR op_eq (pe_callB call_len_seq (by rfl) T.n_len (by decide +kernel) (pa_cons (pv 0) pa_nil)) pe_int (nomark _)) (pe_and (pe_call G_is_pointed (hr.mono (by omega)) rfl T.g_is_pointed T.F_is_pointed.kp T.b_is_pointed .nil pass0 (pa_cons (pe_ix ix_tup (pv 0) pe_int (fun _ _ => rfl)) pa_nil)) (pe_and (pe_call G_is_value (hr.mono (by omega)) rfl T.g_is_value T.F_is_value.kp T.b_is_value .nil pass0 (pa_cons (pe_ix ix_tup (pv 0) pe_int (fun _ _ => rfl)) pa_nil)) (pe_one (pe_call G_is_pointed (hr.mono (by omega)) rfl T.g_is_pointed T.F_is_pointed.kp T.b_is_pointed .nil pass0 (pa_cons (pe_ix ix_tup (pv 0) pe_int (fun _ _ => rfl)) pa_nil)))))))), ?_⟩
    walk_at "ss"
    refine ⟨a, _, rfl, .inr (SqT.of ha), ?_⟩
    walk_at "ss"
    refine if_tt rfl ?_
    walk_at "ss"
    refine c_ixT (SqT.of ha) rfl ?_
    walk_at "ss"
    refine ⟨_, rfl, .inl ⟨n, rfl, by omega, fun H1 e1 => ?_⟩⟩
    rcases h with ⟨h1, h2, h3, k⟩ | ⟨h1, k⟩
    · rw [h1]
      walk_at "ss"
      refine c_ixT (SqT.of (e1 _ _ ha)) rfl ?_
      walk_at "ss"
      refine is_val h2 ?_
      walk_at "ss"
      refine c_ixT (SqT.of (e1 _ _ ha)) rfl ?_
      walk_at "ss"
      have := h3.2.1
      refine ⟨_, rfl, .inl ⟨x, rfl, by omega, fun H2 e2 => ?_⟩⟩
      rw [h3.1]
      exact k _ (e1.trans e2)
    · rw [h1]
      walk_at "ss"
      exact k _ e1
def sp_plain_of (Z : Adr) : Sp := fun vs H Q _ => ∃ n t u, vs = [u] ∧ RowAt H (.pl n t) u ∧ Rw.good (.pl n t) ∧ RetE Z (.pl n t) u H Q
theorem ok_plain_of (T : Txt K mg Z) : FnOk P w K mg base CX0 22 Z.f_plain_of Z.fd_plain_of ["row"] (sp_plain_of Z) := by
  have G_is_pointed := ok_is_pointed (P := P) (w := w) (base := base) T
  have G_Plain_init := ok_Plain_init (P := P) (w := w) (base := base) T
  refine T.F_plain_of.ok sc_plain_of (fun vs H Q E h => ?_) (fun cdv AA outer s H vs Q E hr h => ?_)
  · obtain ⟨n, t, u, rfl, _⟩ := h
    rfl
  · obtain ⟨n, t, u, rfl, hr2, hg, k⟩ := h
    have hr3 := hr2
    obtain ⟨a, tw, rfl, ha, hw⟩ := hr2
    refine ⟨_, (pss_cons (ps_if (PW.pt (pw_or (pt_cmpR op_ne (pe_callB call_len_seq (by rfl) T.n_len (by decide +kernel) (pa_cons (pv 0) pa_nil)) pe_int (nomark _)) (pw_or1 (pt_not (pt_val (pe_call G_is_pointed (hr.mono (by omega)) rfl T.g_is_pointed T.F_is_pointed.kp T.b_is_pointed .nil pass0 (pa_cons (pe_ix ix_tup (pv 0) pe_int (fun _ _ => rfl)) pa_nil))))))) (pss_one (ps_ret pe_non)) pss_nil)
      (pss_one (ps_try_thru0 (pss_one (ps_ret (pe_make ⟨(tcB_ok T.x_Plain).makes, T.i_Plain, T.y_Plain_init, (tcB_ok T.x_Plain).kp⟩ G_Plain_init (hr.mono (by omega)) rfl T.m_Plain T.b_Plain_init .nil pass0 (pa_cons (pv 0) pa_nil))))))), ?_⟩
    walk_at "ss"
    refine ⟨a, _, rfl, .inr (SqT.of ha), ?_⟩
    walk_at "ss"
    refine if_ff rfl ?_
    walk_at "ss"
    refine c_ixT (SqT.of ha) rfl ?_
    walk_at "ss"
    have := hg.1.2.1
    refine ⟨_, rfl, .inl ⟨n, rfl, by omega, fun H1 e1 => ?_⟩⟩
    rw [hg.1.1]
    walk_at "ss"
    exact mk_Plain (hr3.up e1) hg.2.1 hg.2.2 (k.up e1)
def badV (H : Hp) (u : V) : Prop := ∃ a n v x, u = .ref a ∧ H a = some (.tup [.str "before", .str n, v, .str x]) ∧ n.length ≤ 1000 ∧ isPointed n = false
def sp_valued_of (Z : Adr) : Sp := fun vs H Q _ => ∃ u, vs = [u] ∧ ((∃ kk n v x, RowAt H (.vd kk n v x) u ∧ Rw.good (.vd kk n v x) ∧ RetE Z (.vd kk n v x) u H Q) ∨ (badV H u ∧ RetV .non H Q))
theorem ok_valued_of (T : Txt K mg Z) : FnOk P w K mg base CX0 5 Z.f_valued_of Z.fd_valued_of ["row"] (sp_valued_of Z) := by
  have G_Equation_init := ok_Equation_init (P := P) (w := w) (base := base) T
  have G_is_valued := ok_is_valued (P := P) (w := w) (base := base) T
  refine T.F_valued_of.ok sc_valued_of (fun vs H Q E h => ?_) (fun cdv AA outer s H vs Q E hr h => ?_)
  · obtain ⟨u, rfl, _⟩ := h
    rfl
  · obtain ⟨u, rfl, h⟩ := h
    refine ⟨_, (pss_cons (ps_if (pt_not (pt_val (pe_call G_is_valued (hr.mono (by omega)) rfl T.g_is_valued T.F_is_valued.kp T.b_is_valued .nil pass0 (pa_cons (pv 0) pa_nil)))) (pss_one (ps_ret pe_non)) pss_nil)
      (pss_cons (ps_if (pt_cmpR op_eq (pe_ix ix_tup (pv 0) pe_int (fun _ _ => rfl)) pe_str (nomark _)) (pss_one (ps_ret (pe_make ⟨(tcB_ok T.x_Before).makes, T.i_Before, T.y_Equation_init, (tcB_ok T.x_Before).kp⟩ G_Equation_init (hr.mono (by omega)) rfl T.m_Before T.b_Equation_init .nil pass0 (pa_cons (pv 0) pa_nil)))) pss_nil)
      (pss_cons (ps_if (pt_cmpR op_eq (pe_ix ix_tup (pv 0) pe_int (fun _ _ => rfl)) pe_str (nomark _)) (pss_one (ps_ret (pe_make ⟨(tcB_ok T.x_Hold).makes, T.i_Hold, T.y_Equation_init, (tcB_ok T.x_Hold).kp⟩ G_Equation_init (hr.mono (by omega)) rfl T.m_Hold T.b_Equation_init .nil pass0 (pa_cons (pv 0) pa_nil)))) pss_nil)
      (pss_one (ps_ret (pe_make ⟨(tcB_ok T.x_Like).makes, T.i_Like, T.y_Equation_init, (tcB_ok T.x_Like).kp⟩ G_Equation_init (hr.mono (by omega)) rfl T.m_Like T.b_Equation_init .nil pass0 (pa_cons (pv 0) pa_nil))))))), ?_⟩
    rcases h with ⟨kk, n, v, x, hr2, hg, k⟩ | ⟨⟨a, n, v, x, rfl, ha, hn, hb⟩, k⟩
    · have hr3 := hr2
      obtain ⟨a, rfl, ha⟩ := hr2
      have h80 := hg.2.1.2.1
      walk_at "ss"
      refine ⟨a, _, n, v, x, rfl, ha, by omega, .inl ⟨hg.2.1.1, hg.2.2.1, hg.2.2.2, fun H1 e1 => ?_⟩⟩
      have ha1 := e1 _ _ ha
      walk_at "ss"
      refine c_ixT (SqT.of ha1) rfl ?_
      walk_at "ss"
      have hk3 := hg.1
      have hk : kk = 0 ∨ kk = 1 ∨ kk = 2 := by omega
      rcases hk with rfl | rfl | rfl
      · refine if_tt (str_eq rfl) ?_
        walk_at "ss"
        exact mk_row (i := 1) rfl (by decide) (hr3.up e1) (k.up e1)
      · refine if_ff (str_ne (by decide +kernel)) ?_
        walk_at "ss"
        refine c_ixT (SqT.of ha1) rfl ?_
        walk_at "ss"
        refine if_tt (str_eq rfl) ?_
        walk_at "ss"
        exact mk_row (i := 2) rfl (by decide) (hr3.up e1) (k.up e1)
      · refine if_ff (str_ne (by decide +kernel)) ?_
        walk_at "ss"
        refine c_ixT (SqT.of ha1) rfl ?_
        walk_at "ss"
        refine if_ff (str_ne (by decide +kernel)) ?_
        walk_at "ss"
        exact mk_row (i := 3) rfl (by decide) (hr3.up e1) (k.up e1)
    · walk_at "ss"
      refine ⟨a, _, n, v, x, rfl, ha, by omega, .inr ⟨hb, fun H1 e1 => ?_⟩⟩
      walk_at "ss"
      exact k _ e1
def sp_call_of (Z : Adr) : Sp := fun vs H Q _ => ∃ os nd xs u, vs = [u] ∧ RowAt H (.cl os nd xs) u ∧ Rw.good (.cl os nd xs) ∧ RetE Z (.cl os nd xs) u H Q
theorem ok_call_of (T : Txt K mg Z) : FnOk P w K mg base CX0 4 Z.f_call_of Z.fd_call_of ["row"] (sp_call_of Z) := by
  have G_is_name := ok_is_name (P := P) (w := w) (base := base) T
  have G_Equation_init := ok_Equation_init (P := P) (w := w) (base := base) T
  have G_are_pointed := ok_are_pointed (P := P) (w := w) (base := base) T
  refine T.F_call_of.ok sc_call_of (fun vs H Q E h => ?_) (fun cdv AA outer s H vs Q E hr h => ?_)
  · obtain ⟨os, nd, xs, u, rfl, _⟩ := h
    rfl
  · obtain ⟨os, nd, xs, u, rfl, hr2, hg, k⟩ := h
    have hr3 := hr2
    obtain ⟨a, p, q, rfl, ha, hp, hq⟩ := hr2
    obtain ⟨g1, g2, g3, ⟨g4, g5, g6⟩, g7, g8, g9⟩ := hg
    refine ⟨_, (pss_cons (ps_if (PW.pt (pw_or (pt_cmpR op_ne (pe_callB call_len_seq (by rfl) T.n_len (by decide +kernel) (pa_cons (pv 0) pa_nil)) pe_int (nomark _)) (pw_or (pt_not (pt_val (pe_call G_are_pointed (hr.mono (by omega)) rfl T.g_are_pointed T.F_are_pointed.kp T.b_are_pointed .nil pass0 (pa_cons (pe_ix ix_tup (pv 0) pe_int (fun _ _ => rfl)) (pa_cons pe_int pa_nil))))) (pw_or (pt_not (pt_val (pe_call G_is_name (hr.mono (by omega)) rfl T.g_is_name T.F_is_name.kp T.b_is_name .nil pass0 (pa_cons (pe_ix ix_tup (pv 0) pe_int (fun _ _ => rfl)) pa_nil)))) (pw_or1 (pt_not (pt_val (pe_call G_are_pointed (hr.mono (by omega)) rfl T.g_are_pointed T.F_are_pointed.kp T.b_are_pointed .nil pass0 (pa_cons (pe_ix ix_tup (pv 0) pe_int (fun _ _ => rfl)) (pa_cons pe_int pa_nil)))))))))) (pss_one (ps_ret pe_non)) pss_nil)
      (pss_one (ps_ret (pe_make ⟨(tcB_ok T.x_Call).makes, T.i_Call, T.y_Equation_init, (tcB_ok T.x_Call).kp⟩ G_Equation_init (hr.mono (by omega)) rfl T.m_Call T.b_Equation_init .nil pass0 (pa_cons (pv 0) pa_nil))))), ?_⟩
    walk_at "ss"
    refine ⟨a, _, rfl, .inr (SqT.of ha), ?_⟩
    walk_at "ss"
    refine if_ff rfl ?_
    walk_at "ss"
    refine c_ixT (SqT.of ha) rfl ?_
    walk_at "ss"
    refine ⟨p, os, 1, rfl, hp, g3, by omega, by omega, fun H1 e1 => ?_⟩
    walk_at "ss"
    refine c_ixT (SqT.of (e1 _ _ ha)) rfl ?_
    walk_at "ss"
    refine ⟨_, rfl, .inl ⟨nd, rfl, by omega, fun H2 e2 => ?_⟩⟩
    rw [g4]
    walk_at "ss"
    have e12 := e1.trans e2
    refine c_ixT (SqT.of (e12 _ _ ha)) rfl ?_
    walk_at "ss"
    refine ⟨q, xs, 1, rfl, e12 _ _ hq, g9, by omega, by omega, fun H3 e3 => ?_⟩
    walk_at "ss"
    exact mk_row (i := 6) rfl (by decide) (hr3.up (e12.trans e3)) (k.up (e12.trans e3))
def sp_made_of (Z : Adr) : Sp := fun vs H Q _ => ∃ u, vs = [u] ∧ ((∃ r, RowAt H r u ∧ r.good ∧ RetE Z r u H Q) ∨ (badV H u ∧ RetV .non H Q))
theorem in_vw (k : Nat) : inV (.str (vword k)) [.str "before", .str "hold", .str "like"] = true := by
  rcases vword_in k with e | e | e <;> (rw [e]; decide +kernel)
theorem vw_ne {k : Nat} : vword k ≠ "plain" := by
  rcases vword_in k with e | e | e <;> (rw [e]; decide +kernel)
theorem ok_made_of (T : Txt K mg Z) : FnOk P w K mg base CX0 23 Z.f_made_of Z.fd_made_of ["row"] (sp_made_of Z) := by
  have G_Equation_init := ok_Equation_init (P := P) (w := w) (base := base) T
  have G_are_pointed := ok_are_pointed (P := P) (w := w) (base := base) T
  have G_plain_of := ok_plain_of (P := P) (w := w) (base := base) T
  have G_valued_of := ok_valued_of (P := P) (w := w) (base := base) T
  have G_call_of := ok_call_of (P := P) (w := w) (base := base) T
  refine T.F_made_of.ok sc_made_of (fun vs H Q E h => ?_) (fun cdv AA outer s H vs Q E hr h => ?_)
  · obtain ⟨u, rfl, _⟩ := h
    rfl
  · obtain ⟨u, rfl, h⟩ := h
    refine ⟨_, (pss_cons (ps_if (pt_cmpR op_eq (pe_ix ix_tup (pv 0) pe_int (fun _ _ => rfl)) pe_str (nomark _)) (pss_one (ps_ret (pe_call G_plain_of (hr.mono (by omega)) rfl T.g_plain_of T.F_plain_of.kp T.b_plain_of .nil pass0 (pa_cons (pv 0) pa_nil)))) pss_nil)
      (pss_cons (ps_if (pt_cmpR op_in_seq (pe_ix ix_tup (pv 0) pe_int (fun _ _ => rfl)) (pe_tup (pa_cons pe_str (pa_cons pe_str (pa_cons pe_str pa_nil)))) (by rfl)) (pss_one (ps_ret (pe_call G_valued_of (hr.mono (by omega)) rfl T.g_valued_of T.F_valued_of.kp T.b_valued_of .nil pass0 (pa_cons (pv 0) pa_nil)))) pss_nil)
      (pss_cons (ps_if (pt_cmpR op_eq (pe_ix ix_tup (pv 0) pe_int (fun _ _ => rfl)) pe_str (nomark _)) (pss_one (ps_ret (pe_call G_call_of (hr.mono (by omega)) rfl T.g_call_of T.F_call_of.kp T.b_call_of .nil pass0 (pa_cons (pv 0) pa_nil)))) pss_nil)
      (pss_cons (ps_if (PW.pt (pw_and (pt_cmpR op_eq (pe_ix ix_tup (pv 0) pe_int (fun _ _ => rfl)) pe_str (nomark _)) (pw_and (pt_cmpR op_eq (pe_callB call_len_seq (by rfl) T.n_len (by decide +kernel) (pa_cons (pv 0) pa_nil)) pe_int (nomark _)) (pw_and1 (pt_val (pe_call G_are_pointed (hr.mono (by omega)) rfl T.g_are_pointed T.F_are_pointed.kp T.b_are_pointed .nil pass0 (pa_cons (pe_slice sl_tup (pv 0) (po_some pe_int) po_none) (pa_cons pe_int pa_nil)))))))) (pss_one (ps_ret (pe_make ⟨(tcB_ok T.x_When).makes, T.i_When, T.y_Equation_init, (tcB_ok T.x_When).kp⟩ G_Equation_init (hr.mono (by omega)) rfl T.m_When T.b_Equation_init .nil pass0 (pa_cons (pv 0) pa_nil)))) pss_nil)
      (pss_cons (ps_if (PW.pt (pw_and (pt_cmpR op_eq (pe_ix ix_tup (pv 0) pe_int (fun _ _ => rfl)) pe_str (nomark _)) (pw_and (pt_cmpR op_eq (pe_callB call_len_seq (by rfl) T.n_len (by decide +kernel) (pa_cons (pv 0) pa_nil)) pe_int (nomark _)) (pw_and1 (pt_val (pe_call G_are_pointed (hr.mono (by omega)) rfl T.g_are_pointed T.F_are_pointed.kp T.b_are_pointed .nil pass0 (pa_cons (pe_ix ix_tup (pv 0) pe_int (fun _ _ => rfl)) (pa_cons pe_int pa_nil)))))))) (pss_one (ps_ret (pe_make ⟨(tcB_ok T.x_Same).makes, T.i_Same, T.y_Equation_init, (tcB_ok T.x_Same).kp⟩ G_Equation_init (hr.mono (by omega)) rfl T.m_Same T.b_Equation_init .nil pass0 (pa_cons (pv 0) pa_nil)))) pss_nil)
      (pss_one (ps_ret pe_non))))))), ?_⟩
    rcases h with ⟨r, hr2, hg, k⟩ | ⟨⟨a, n, v, x, rfl, ha, hn, hb⟩, k⟩
    · have hr3 := hr2
      cases r with
      | pl n t =>
        obtain ⟨a, tw, rfl, ha, hw⟩ := hr2
        walk_at "ss"
        refine c_ixT (SqT.of ha) rfl ?_
        walk_at "ss"
        rw [str_eq rfl]
        walk_at "ss"
        exact ⟨n, t, _, rfl, hr3, hg, k⟩
      | vd kk n v x =>
        obtain ⟨a, rfl, ha⟩ := hr2
        walk_at "ss"
        refine c_ixT (SqT.of ha) rfl ?_
        walk_at "ss"
        rw [str_ne vw_ne]
        walk_at "ss"
        refine c_ixT (SqT.of ha) rfl ?_
        walk_at "ss"
        refine newT fun p1 H1 hp1 e1 g1 => ?_
        refine c_in (.inr (SqT.of g1)) rfl rfl ?_
        rw [in_vw]
        walk_at "ss"
        exact ⟨_, rfl, .inl ⟨kk, n, v, x, hr3.up e1, hg, k.up e1⟩⟩
      | cl os nd xs =>
        obtain ⟨a, p, q, rfl, ha, hp, hq⟩ := hr2
        walk_at "ss"
        refine c_ixT (SqT.of ha) rfl ?_
        walk_at "ss"
        rw [str_ne (by decide +kernel)]
        walk_at "ss"
        refine c_ixT (SqT.of ha) rfl ?_
        walk_at "ss"
        refine newT fun p1 H1 hp1 e1 g1 => ?_
        refine c_in (.inr (SqT.of g1)) rfl rfl ?_
        rw [show inV (V.str "call") [.str "before", .str "hold", .str "like"] = false from by decide +kernel]
        walk_at "ss"
        refine c_ixT (SqT.of (e1 _ _ ha)) rfl ?_
        walk_at "ss"
        rw [str_eq rfl]
        walk_at "ss"
        exact ⟨os, nd, xs, _, rfl, hr3.up e1, hg, k.up e1⟩
      | wh n x y =>
        obtain ⟨a, rfl, ha⟩ := hr2
        walk_at "ss"
        refine c_ixT (SqT.of ha) rfl ?_
        walk_at "ss"
        rw [str_ne (by decide +kernel)]
        walk_at "ss"
        refine c_ixT (SqT.of ha) rfl ?_
        walk_at "ss"
        refine newT fun p1 H1 hp1 e1 g1 => ?_
        refine c_in (.inr (SqT.of g1)) rfl rfl ?_
        rw [show inV (V.str "when") [.str "before", .str "hold", .str "like"] = false from by decide +kernel]
        have ha1 := e1 _ _ ha
        walk_at "ss"
        refine c_ixT (SqT.of ha1) rfl ?_
        walk_at "ss"
        rw [str_ne (by decide +kernel)]
        walk_at "ss"
        refine c_ixT (SqT.of ha1) rfl ?_
        walk_at "ss"
        rw [str_eq rfl]
        walk_at "ss"
        refine ⟨a, _, rfl, .inr (SqT.of ha1), ?_⟩
        walk_at "ss"
        refine if_tt rfl ?_
        walk_at "ss"
        refine ⟨a, _, rfl, SqT.of ha1, fun z => absurd (show (1 : Nat) = 0 from z.1) (by decide), fun p2 hp2 => ?_⟩
        walk_at "ss"
        have e2 := Ex.new (H := H1) (p := p2) (o := .tup ([n, x, y].map V.str)) hp2
        refine ⟨p2, [n, x, y], 3, rfl, upd_same, fun s hs => ?_, by simp, by simp, fun H3 e3 => ?_⟩
        · simp only [List.mem_cons, List.not_mem_nil, or_false] at hs
          rcases hs with rfl | rfl | rfl
          · exact hg.1
          · exact hg.2.1
          · exact hg.2.2
        walk_at "ss"
        exact mk_row (i := 4) rfl (by decide) (hr3.up (e1.trans (e2.trans e3))) (k.up (e1.trans (e2.trans e3)))
      | sm ns =>
        obtain ⟨a, p, rfl, ha, hp⟩ := hr2
        walk_at "ss"
        refine c_ixT (SqT.of ha) rfl ?_
        walk_at "ss"
        rw [str_ne (by decide +kernel)]
        walk_at "ss"
        refine c_ixT (SqT.of ha) rfl ?_
        walk_at "ss"
        refine newT fun p1 H1 hp1 e1 g1 => ?_
        refine c_in (.inr (SqT.of g1)) rfl rfl ?_
        rw [show inV (V.str "same") [.str "before", .str "hold", .str "like"] = false from by decide +kernel]
        have ha1 := e1 _ _ ha
        walk_at "ss"
        refine c_ixT (SqT.of ha1) rfl ?_
        walk_at "ss"
        rw [str_ne (by decide +kernel)]
        walk_at "ss"
        refine c_ixT (SqT.of ha1) rfl ?_
        walk_at "ss"
        rw [str_ne (by decide +kernel)]
        walk_at "ss"
        refine c_ixT (SqT.of ha1) rfl ?_
        walk_at "ss"
        rw [str_eq rfl]
        walk_at "ss"
        refine ⟨a, _, rfl, .inr (SqT.of ha1), ?_⟩
        walk_at "ss"
        refine if_tt rfl ?_
        walk_at "ss"
        refine c_ixT (SqT.of ha1) rfl ?_
        walk_at "ss"
        have g1' := hg.1
        have g2' := hg.2.1
        refine ⟨p, ns, 2, rfl, e1 _ _ hp, hg.2.2, by omega, by omega, fun H3 e3 => ?_⟩
        walk_at "ss"
        exact mk_row (i := 5) rfl (by decide) (hr3.up (e1.trans e3)) (k.up (e1.trans e3))
    · walk_at "ss"
      refine c_ixT (SqT.of ha) rfl ?_
      walk_at "ss"
      rw [str_ne (by decide +kernel)]
      walk_at "ss"
      refine c_ixT (SqT.of ha) rfl ?_
      walk_at "ss"
      refine newT fun p1 H1 hp1 e1 g1 => ?_
      refine c_in (.inr (SqT.of g1)) rfl rfl ?_
      rw [show inV (V.str "before") [.str "before", .str "hold", .str "like"] = true from by decide +kernel]
      walk_at "ss"
      exact ⟨_, rfl, .inr ⟨⟨a, n, v, x, rfl, e1 _ _ ha, hn, hb⟩, k.up e1⟩⟩
theorem ne_empty {H : Hp} {Q : VK} {a p : Addr} {d : PyData} {ds : List PyData} {D B : Nat} (h : Dp K H (.ref a) (.tuple (d :: ds))) (r : RpOk D B (.tuple (d :: ds))) (hD : D ≤ 64) (g : H p = some (.tup [])) (q : Q (.bl true) H) : rNeD K (.ref a) (.ref p) H Q := by
  refine ⟨_, .tuple [], h, .tup (SqT.of g) .nil, r.shaped hD, by decide +kernel, ?_⟩
  rw [show PyData.eqv (.tuple (d :: ds)) (.tuple []) = false from by simp [PyData.eqv, PyData.eqvAll]]
  exact q
theorem Rw.data_cons (r : Rw) : ∃ d ds, r.data = .tuple (d :: ds) := by cases r <;> exact ⟨_, _, rfl⟩
def sp_equation_of (Z : Adr) : Sp := fun vs H Q _ => ∃ r u, vs = [u] ∧ RowAt H r u ∧ r.good ∧ RetE Z r u H Q
theorem ok_equation_of (T : Txt K mg Z) : FnOk P w K mg base CX0 24 Z.f_equation_of Z.fd_equation_of ["told"] (sp_equation_of Z) := by
  have G_made_of := ok_made_of (P := P) (w := w) (base := base) T
  refine T.F_equation_of.ok sc_equation_of (fun vs H Q E h => ?_) (fun cdv AA outer s H vs Q E hr h => ?_)
  · obtain ⟨r, u, rfl, _⟩ := h
    rfl
  · obtain ⟨r, u, rfl, hr2, hg, k⟩ := h
    have hr3 := hr2
    obtain ⟨a, xs, rfl, ha⟩ := hr2.hd
    refine ⟨_, (pss_cons (ps_set (i := 1) sc_equation_of.nd rfl (Or.inl rfl) pe_non)
      (pss_cons (ps_if (PW.pt (pw_and (pt_val (pe_callB call_isi (by rfl) T.n_isinstance (by decide +kernel) (pa_cons (pv 0) (pa_cons (pe_bltn (v := .ty "tuple") (by rfl) T.n_tuple (by decide +kernel) rfl) pa_nil)))) (pw_and (pt_cmpR (op_neD hr.units) (pv 0) (pe_tup pa_nil) (nomark _)) (pw_and1 (pt_val (pe_callB call_isi (by rfl) T.n_isinstance (by decide +kernel) (pa_cons (pe_ix ix_tup (pv 0) pe_int (fun _ _ => rfl)) (pa_cons (pe_bltn (v := .ty "str") (by rfl) T.n_str (by decide +kernel) rfl) pa_nil)))))))) (pss_one (ps_set (i := 1) sc_equation_of.nd rfl (Or.inl rfl) (pe_call G_made_of (hr.mono (by omega)) rfl T.g_made_of T.F_made_of.kp T.b_made_of .nil pass0 (pa_cons (pv 0) pa_nil)))) pss_nil)
      (pss_cons (ps_if (pt_cmpR op_isN (pv 1) pe_non (nomark _)) (pss_one ps_never) pss_nil)
      (pss_one (ps_ret (pv 1)))))), ?_⟩
    walk_at "ss"
    refine isi (ty_tup ha) kb_tt ?_
    walk_at "ss"
    refine newT fun p1 H1 hp1 e1 g1 => ?_
    obtain ⟨d, ds, hdd⟩ := r.data_cons
    have hdp := (hr3.up e1).dp (K := K) hg
    have hrp := Rw.rp hg
    rw [hdd] at hdp hrp
    refine ne_empty hdp hrp (by decide) g1 ?_
    walk_at "ss"
    refine c_ixT (SqT.of (e1 _ _ ha)) at_hd ?_
    walk_at "ss"
    refine isi (ty_str _) kb_ss ?_
    walk_at "ss"
    refine ⟨_, rfl, .inl ⟨r, hr3.up e1, hg, fun v H2 e2 hv => ?_⟩⟩
    walk_at "ss"
    have nv : decide (v = V.non) = false := by
      obtain ⟨aa, _, _, rfl, _⟩ := hv
      rfl
    rw [nv]
    walk_at "ss"
    exact k _ _ (e1.trans e2) hv

/-! ### plain facts about rows (printed by mk_rowf.py) -/
def Tm.flat : Tm → List Str
  | .nm s => [s]
  | .vl _ => []
  | .two _ a b => a.flat ++ b.flat
  | .nt a => a.flat
  | .pk c a b => c.flat ++ a.flat ++ b.flat
theorem snoc_ind {P : List Str → Prop} (h0 : P []) (h1 : ∀ y n, P y → P (y ++ [n])) : ∀ y, P y := by
  intro y
  have h : ∀ z : List Str, P z.reverse := by
    intro z
    induction z with
    | nil => exact h0
    | cons a z ih => rw [List.reverse_cons]; exact h1 _ _ ih
  have h2 := h y.reverse
  rw [List.reverse_reverse] at h2
  exact h2
theorem once_go (y : List Str) : ∀ (A : List Str), y.foldl (fun acc n => addN acc [n]) A = addN A (once y) := by
  intro A
  refine snoc_ind (P := fun y => y.foldl (fun acc n => addN acc [n]) A = addN A (once y)) ?_ (fun y n ih => ?_) y
  · show A = addN A []
    simp [addN]
  · rw [List.foldl_append, ih, once_app]
    show addN (addN A (once y)) [n] = addN A (addN (once y) [n])
    have m1 : (addN A (once y)).contains n = (A.contains n || (once y).contains n) := by
      rw [Bool.eq_iff_iff, Bool.or_eq_true, List.contains_iff_mem, List.contains_iff_mem, List.contains_iff_mem]
      constructor
      · intro h
        rcases List.mem_append.mp h with h | h
        · exact .inl h
        · exact .inr (List.mem_filter.mp h).1
      · intro h
        by_cases hA : n ∈ A
        · exact List.mem_append_left _ hA
        · rcases h with h | h
          · exact absurd h hA
          · refine List.mem_append_right _ (List.mem_filter.mpr ⟨h, ?_⟩)
            rw [Bool.not_eq_true']
            cases hc : A.contains n with
            | false => rfl
            | true => exact absurd (List.contains_iff_mem.mp hc) hA
    rw [addN_one, addN_one, m1]
    cases h1 : (once y).contains n with
    | true => rw [Bool.or_true, if_pos rfl, if_pos rfl]
    | false =>
      simp only [Bool.or_false, Bool.false_eq_true, ↓reduceIte]
      unfold addN
      rw [List.filter_append]
      cases h2 : A.contains n with
      | true =>
        have h3 : [n].filter (fun m => !A.contains m) = [] := by rw [List.filter_cons, h2]; rfl
        rw [h3, List.append_nil, if_pos rfl]
      | false =>
        have h3 : [n].filter (fun m => !A.contains m) = [n] := by rw [List.filter_cons, h2]; rfl
        rw [h3, if_neg (by decide), List.append_assoc]
theorem once_cat (x y : List Str) : once (x ++ y) = addN (once x) (once y) := by
  have : once (x ++ y) = y.foldl (fun acc n => addN acc [n]) (once x) := by
    unfold once
    rw [List.foldl_append]
  rw [this, once_go]
theorem addN_nil (l : List Str) : addN [] l = l := by
  unfold addN
  rw [List.nil_append]
  exact List.filter_eq_self.mpr fun a _ => rfl
theorem Tm.names_once (t : Tm) : once t.flat = t.names := by
  induction t with
  | nm s => exact addN_nil [s]
  | vl v => rfl
  | two op a b iha ihb =>
    show once (a.flat ++ b.flat) = addN (addN [] a.names) b.names
    rw [once_cat, iha, ihb, addN_nil]
  | nt a iha =>
    show once a.flat = addN [] a.names
    rw [iha, addN_nil]
  | pk c a b ihc iha ihb =>
    show once (c.flat ++ a.flat ++ b.flat) = addN (addN (addN [] c.names) a.names) b.names
    rw [once_cat, once_cat, ihc, iha, ihb, addN_nil]
theorem addN_mem {a b : List Str} {s : Str} (h : s ∈ addN a b) : s ∈ a ∨ s ∈ b := by
  rcases List.mem_append.mp h with h | h
  · exact .inl h
  · exact .inr (List.mem_filter.mp h).1
theorem once_mem {l : List Str} {s : Str} (h : s ∈ once l) : s ∈ l := by
  refine snoc_ind (P := fun l => s ∈ once l → s ∈ l) (fun h => by cases h) (fun y n ih h => ?_) l h
  rw [once_app] at h
  rcases addN_mem h with h | h
  · exact List.mem_append_left _ (ih h)
  · exact List.mem_append_right _ h
theorem once_sub {l : List Str} {s : Str} (h : s ∈ l) : s ∈ once l := by
  revert h
  refine snoc_ind (P := fun l => s ∈ l → s ∈ once l) (fun h => by cases h) (fun y n ih h => ?_) l
  rw [once_app, addN_one]
  rcases List.mem_append.mp h with h | h
  · split
    · exact ih h
    · exact List.mem_append_left _ (ih h)
  · have e : s = n := by simpa using h
    subst e
    split
    · rename_i hc; exact List.contains_iff_mem.mp hc
    · exact List.mem_append_right _ (by simp)
theorem flat_names {t : Tm} {s : Str} (h : s ∈ t.flat) : s ∈ t.names := by rw [← Tm.names_once]; exact once_sub h
theorem names_flat {t : Tm} {s : Str} (h : s ∈ t.names) : s ∈ t.flat := by rw [← Tm.names_once] at h; exact once_mem h
theorem Tm.flat_len (t : Tm) : t.flat.length ≤ 3 ^ t.dep := by
  induction t with
  | nm s => simp [Tm.flat, Tm.dep]
  | vl v => simp [Tm.flat, Tm.dep]
  | two op a b iha ihb =>
    have p1 : 3 ^ a.dep ≤ 3 ^ max a.dep b.dep := Nat.pow_le_pow_right (by decide) (by omega)
    have p2 : 3 ^ b.dep ≤ 3 ^ max a.dep b.dep := Nat.pow_le_pow_right (by decide) (by omega)
    have e : 3 ^ (1 + max a.dep b.dep) = 3 * 3 ^ max a.dep b.dep := by rw [Nat.pow_add]
    show (a.flat ++ b.flat).length ≤ 3 ^ (1 + max a.dep b.dep)
    rw [e, List.length_append]
    omega
  | nt a iha =>
    have e : 3 ^ (1 + a.dep) = 3 * 3 ^ a.dep := by rw [Nat.pow_add]
    show a.flat.length ≤ 3 ^ (1 + a.dep)
    rw [e]
    omega
  | pk c a b ihc iha ihb =>
    have p0 : 3 ^ c.dep ≤ 3 ^ max (max c.dep a.dep) b.dep := Nat.pow_le_pow_right (by decide) (by omega)
    have p1 : 3 ^ a.dep ≤ 3 ^ max (max c.dep a.dep) b.dep := Nat.pow_le_pow_right (by decide) (by omega)
    have p2 : 3 ^ b.dep ≤ 3 ^ max (max c.dep a.dep) b.dep := Nat.pow_le_pow_right (by decide) (by omega)
    have e : 3 ^ (1 + max (max c.dep a.dep) b.dep) = 3 * 3 ^ max (max c.dep a.dep) b.dep := by rw [Nat.pow_add]
    show (c.flat ++ a.flat ++ b.flat).length ≤ 3 ^ (1 + max (max c.dep a.dep) b.dep)
    rw [e, List.length_append, List.length_append]
    omega
theorem flat_729 {t : Tm} (h : t.dep ≤ 6) : t.flat.length ≤ 729 := by
  have h1 := t.flat_len
  have h2 : 3 ^ t.dep ≤ 3 ^ 6 := Nat.pow_le_pow_right (by decide) h
  have e : (3 : Nat) ^ 6 = 729 := rfl
  omega
def Beh (K : PySem.W.Frag) (H : Hp) : Option Tm → V → Prop
  | some q, v => ToldAt H q v
  | none, v => (∃ s, v = .str s) ∨ isVal v = true
def Tm.beh : Tm → List (Option Tm)
  | .nm _ => []
  | .vl _ => [none]
  | .two _ a b => [none, some a, some b]
  | .nt a => [some a]
  | .pk c a b => [some c, some a, some b]
def flatO : List (Option Tm) → List Str
  | [] => []
  | some q :: l => q.flat ++ flatO l
  | none :: l => flatO l
theorem flatO_app (l : List (Option Tm)) (o : Option Tm) : flatO (l ++ [o]) = flatO l ++ (match o with | some q => q.flat | none => []) := by
  induction l with
  | nil => cases o <;> simp [flatO]
  | cons a l ih => cases a <;> simp [flatO, ih]
theorem Tm.flat_beh (t : Tm) (h : ∀ s, t ≠ .nm s) : flatO t.beh = t.flat := by
  cases t with
  | nm s => exact absurd rfl (h s)
  | vl v => rfl
  | two op a b => simp [Tm.beh, flatO, Tm.flat]
  | nt a => simp [Tm.beh, flatO, Tm.flat]
  | pk c a b => simp [Tm.beh, flatO, Tm.flat]
theorem told_beh {H : Hp} {t : Tm} {u : V} (h : ToldAt H t u) (hg : t.good) (hn : ∀ s, t ≠ .nm s) : ∃ (a : Addr) (w : Str) (xs : List V), u = .ref a ∧ H a = some (.tup (.str w :: xs)) ∧ w ≠ "name" ∧ xs.length = t.beh.length ∧ cutV (.str w :: xs) (some 1) none = xs ∧ xs ≠ [] ∧
    (∀ (i : Nat) (v : V), xs[i]? = some v → ∃ o, t.beh[i]? = some o ∧ Beh K H o v) ∧ ∀ q, some q ∈ t.beh → q.good ∧ q.dep + 1 ≤ t.dep := by
  have i2 : ∀ {x y v : V} {o p : Option Tm}, Beh K H o x → Beh K H p y → ∀ i : Nat, ([x, y] : List V)[i]? = some v → ∃ z, ([o, p] : List (Option Tm))[i]? = some z ∧ Beh K H z v := by
    intro x y v o p h1 h2 i hv
    match i, hv with
    | 0, hv => cases hv; exact ⟨_, rfl, h1⟩
    | 1, hv => cases hv; exact ⟨_, rfl, h2⟩
  have i3 : ∀ {x y z v : V} {o p q : Option Tm}, Beh K H o x → Beh K H p y → Beh K H q z → ∀ i : Nat, ([x, y, z] : List V)[i]? = some v → ∃ r, ([o, p, q] : List (Option Tm))[i]? = some r ∧ Beh K H r v := by
    intro x y z v o p q h1 h2 h3 i hv
    match i, hv with
    | 0, hv => cases hv; exact ⟨_, rfl, h1⟩
    | 1, hv => cases hv; exact ⟨_, rfl, h2⟩
    | 2, hv => cases hv; exact ⟨_, rfl, h3⟩
  cases t with
  | nm s => exact absurd rfl (hn s)
  | vl x =>
    obtain ⟨a, rfl, ha⟩ := h
    refine ⟨a, _, _, rfl, ha, by decide +kernel, rfl, rfl, by simp, fun i v hv => ?_, fun q hq => by simp [Tm.beh] at hq⟩
    match i, hv with
    | 0, hv => cases hv; exact ⟨none, rfl, .inr hg⟩
  | two op p q =>
    obtain ⟨a, v1, v2, rfl, ha, h1, h2⟩ := h
    refine ⟨a, _, _, rfl, ha, by decide +kernel, rfl, rfl, by simp, fun i v hv => i3 (o := none) (p := some p) (q := some q) (.inl ⟨_, rfl⟩) h1 h2 i hv, fun z hz => ?_⟩
    simp only [Tm.beh, List.mem_cons, reduceCtorEq, Option.some.injEq, List.not_mem_nil, or_false, false_or] at hz
    rcases hz with rfl | rfl
    · exact ⟨hg.2.1, Tm.dep_part (by simp [Tm.parts])⟩
    · exact ⟨hg.2.2, Tm.dep_part (by simp [Tm.parts])⟩
  | nt p =>
    obtain ⟨a, v1, rfl, ha, h1⟩ := h
    refine ⟨a, _, _, rfl, ha, by decide +kernel, rfl, rfl, by simp, fun i v hv => ?_, fun z hz => ?_⟩
    · match i, hv with
      | 0, hv => cases hv; exact ⟨some p, rfl, h1⟩
    · simp only [Tm.beh, List.mem_cons, Option.some.injEq, List.not_mem_nil, or_false] at hz
      subst hz
      exact ⟨hg, Tm.dep_part (by simp [Tm.parts])⟩
  | pk c p q =>
    obtain ⟨a, v0, v1, v2, rfl, ha, h0, h1, h2⟩ := h
    refine ⟨a, _, _, rfl, ha, by decide +kernel, rfl, rfl, by simp, fun i v hv => i3 (o := some c) (p := some p) (q := some q) h0 h1 h2 i hv, fun z hz => ?_⟩
    simp only [Tm.beh, List.mem_cons, Option.some.injEq, List.not_mem_nil, or_false] at hz
    rcases hz with rfl | rfl | rfl
    · exact ⟨hg.1, Tm.dep_part (by simp [Tm.parts])⟩
    · exact ⟨hg.2.1, Tm.dep_part (by simp [Tm.parts])⟩
    · exact ⟨hg.2.2, Tm.dep_part (by simp [Tm.parts])⟩
theorem kb_st : kitB "str" "tuple" = some false := by decide +kernel
theorem kb_it : kitB "int" "tuple" = some false := by decide +kernel
theorem kb_bt : kitB "bool" "tuple" = some false := by decide +kernel
theorem beh_none {H : Hp} {v : V} (h : Beh K H none v) : ∃ n : String, TyX K H v (.type n) ∧ kitB n "tuple" = some false := by
  rcases h with ⟨s, rfl⟩ | h
  · exact ⟨_, ty_str s, kb_st⟩
  · cases v with
    | bl b => exact ⟨_, ty_bl b, kb_bt⟩
    | int i => exact ⟨_, ty_int i, kb_it⟩
    | _ => exact absurd h Bool.false_ne_true
theorem Told_tup {H : Hp} {t : Tm} {v : V} (h : ToldAt H t v) : ∃ a xs, v = .ref a ∧ H a = some (.tup xs) := by
  cases t with
  | nm s => obtain ⟨a, h1, h2⟩ := h; exact ⟨a, _, h1, h2⟩
  | vl s => obtain ⟨a, h1, h2⟩ := h; exact ⟨a, _, h1, h2⟩
  | two op p q => obtain ⟨a, _, _, h1, h2, _⟩ := h; exact ⟨a, _, h1, h2⟩
  | nt p => obtain ⟨a, _, h1, h2, _⟩ := h; exact ⟨a, _, h1, h2⟩
  | pk c p q => obtain ⟨a, _, _, _, h1, h2, _⟩ := h; exact ⟨a, _, h1, h2⟩
theorem nat_pow6 {t : Tm} (l : List (Option Tm)) (h : ∀ q, some q ∈ l → q.dep ≤ 6) (hl : l.length ≤ 3) : (flatO l).length ≤ l.length * 729 := by
  induction l with
  | nil => simp [flatO]
  | cons o l ih =>
    have ih' := ih (fun q hq => h q (List.mem_cons_of_mem _ hq)) (by rw [List.length_cons] at hl; omega)
    cases o with
    | none => simp only [flatO, List.length_cons, Nat.succ_mul]; omega
    | some q =>
      have := flat_729 (h q List.mem_cons_self)
      simp only [flatO, List.length_append, List.length_cons, Nat.succ_mul]
      omega
theorem beh_len (t : Tm) : t.beh.length ≤ 3 := by cases t <;> simp [Tm.beh]
theorem RowAt.tu {H H2 : Hp} (e : ∀ a xs, H a = some (.tup xs) → H2 a = some (.tup xs)) {r : Rw} {u : V} (h : RowAt H r u) : RowAt H2 r u := by
  cases r with
  | pl n t => obtain ⟨a, w, h1, h2, h3⟩ := h; exact ⟨a, w, h1, e _ _ h2, h3.keep e⟩
  | vd k n v x => obtain ⟨a, h1, h2⟩ := h; exact ⟨a, h1, e _ _ h2⟩
  | wh n x y => obtain ⟨a, h1, h2⟩ := h; exact ⟨a, h1, e _ _ h2⟩
  | sm ns => obtain ⟨a, p, h1, h2, h3⟩ := h; exact ⟨a, p, h1, e _ _ h2, e _ _ h3⟩
  | cl os nd xs => obtain ⟨a, p, q, h1, h2, h3, h4⟩ := h; exact ⟨a, p, q, h1, e _ _ h2, e _ _ h3, e _ _ h4⟩
theorem str_ok {l : List Str} (h : ∀ s ∈ l, goodN s) : (l.map V.str).all okV = true := by
  rw [List.all_eq_true]
  intro x hx
  obtain ⟨s, hs, rfl⟩ := List.mem_map.mp hx
  exact okT_V (h s hs).2.2
theorem Tm.good_flat : ∀ {t : Tm}, t.good → ∀ s ∈ t.flat, goodN s := by
  intro t
  induction t with
  | nm z => intro g s hs; have : s = z := (by simpa [Tm.flat] using hs); rw [this]; exact g
  | vl v => intro _ s hs; cases hs
  | two op a b iha ihb => intro g s hs; exact (List.mem_append.mp hs).elim (iha g.2.1 s) (ihb g.2.2 s)
  | nt a iha => intro g s hs; exact iha g s hs
  | pk c a b ihc iha ihb => intro g s hs; exact (List.mem_append.mp hs).elim (fun h => (List.mem_append.mp h).elim (ihc g.1 s) (iha g.2.1 s)) (ihb g.2.2 s)
theorem Rw.good_all {r : Rw} (g : r.good) : ∀ s ∈ r.all, goodN s := by
  intro s hs
  cases r with
  | pl n t =>
    rcases List.mem_append.mp hs with h | h
    · have : s = n := by simpa [Rw.tells] using h
      rw [this]; exact g.1
    · exact Tm.good_flat g.2.1 s (names_flat h)
  | vd k n v x =>
    rcases List.mem_append.mp hs with h | h
    · have : s = n := by simpa [Rw.tells] using h
      rw [this]; exact g.2.1
    · have : s = x := by simpa [Rw.names] using h
      rw [this]; exact g.2.2.2
  | wh n x y =>
    rcases List.mem_append.mp hs with h | h
    · have : s = n := by simpa [Rw.tells] using h
      rw [this]; exact g.1
    · have h2 : s ∈ [x, y] := once_mem h
      simp only [List.mem_cons, List.not_mem_nil, or_false] at h2
      rcases h2 with rfl | rfl
      · exact g.2.1
      · exact g.2.2
  | sm ns =>
    rcases List.mem_append.mp hs with h | h
    · cases h
    · exact g.2.2 s (once_mem h)
  | cl os nd xs =>
    rcases List.mem_append.mp hs with h | h
    · exact g.2.2.1 s h
    · exact g.2.2.2.2.2.2 s (once_mem h)
theorem eqL_strs : ∀ {F : List Str}, eqL (F.map V.str) (F.map V.str) = true
  | [] => rfl
  | a :: F => by
    rw [List.map_cons, eqL, eqL_strs, Bool.and_true]
    show (a == a) = true
    exact beq_self_eq_true a
theorem Rw.all_len {r : Rw} (g : r.good) : r.all.length ≤ 1000 := by
  unfold Rw.all
  rw [List.length_append]
  cases r with
  | pl n t => have := names_729 (t := t) (by have := g.2.2; omega); simp only [Rw.tells, Rw.names, List.length_cons, List.length_nil]; omega
  | vd k n v x => simp [Rw.tells, Rw.names]
  | wh n x y => have := once_len [x, y]; simp only [Rw.tells, Rw.names, List.length_cons, List.length_nil] at this ⊢; omega
  | sm ns => have := once_len ns; have := g.2.1; simp only [Rw.tells, Rw.names, List.length_nil]; omega
  | cl os nd xs => have := once_len xs; have := g.2.1; have := g.2.2.2.2.2.1; simp only [Rw.tells, Rw.names]; omega

/-! ### nodes: the plain side -/
open TL (tl)
theorem kb_tl : kitB "tuple" "list" = some false := by decide +kernel
theorem kb_ll : kitB "list" "list" = some true := by decide +kernel
/-- isinstance(x, (list, tuple)) -/
theorem isiLT {H : Hp} {Q : VK} {x : V} {tp : Addr} (h : TyX K H x (.type "tuple") ∨ TyX K H x (.type "list")) (ht : H tp = some (.tup [.ty "list", .ty "tuple"])) (q : Q (.bl true) H) : rIsiT K [x, .ref tp] H Q := by
  rcases h with h | h
  · refine ⟨x, tp, _, _, [.type "list", .type "tuple"], _, rfl, ht, .cons (.ty _) (.cons (.ty _) .nil), h, ?_, q⟩
    exact kitAny_cons (kit_ty kb_tl) (fun _ => kitAny_cons (kit_ty kb_tt) (fun z => by cases z) (fun _ => rfl)) (fun z => by cases z)
  · refine ⟨x, tp, _, _, [.type "list", .type "tuple"], _, rfl, ht, .cons (.ty _) (.cons (.ty _) .nil), h, ?_, q⟩
    exact kitAny_cons (kit_ty kb_ll) (fun z => by cases z) (fun _ => rfl)
theorem forT {H : Hp} {σ : St} {D : Ends} {g : L2.TG} {tb : TS} {a : Addr} {xs : List V} (Pv : Nat → St → Hp → Prop) (h0 : Pv 0 σ H) (hl : ∀ i σ' H', i ≤ xs.length → Pv i σ' H' → SqT K H' a xs)
    (hs : ∀ i x σ' H', xs[i]? = some x → Pv i σ' H' → g x σ' H' fun σ2 H2 => tb { D with nx := Pv (i + 1), ct := Pv (i + 1), bk := D.nx } σ2 H2) (hd : ∀ σ' H', Pv xs.length σ' H' → D.nx σ' H') : ForI (Itt K a) g tb D σ H := for_tup Pv h0 hl hs hd
theorem nodup_take {l : List Str} {i : Nat} {s : Str} (h : (l.take i).Nodup) (hs : l[i]? = some s) (hn : s ∉ l.take i) : (l.take (i + 1)).Nodup := by
  rw [List.take_add_one, hs, List.nodup_append]
  refine ⟨h, by simp, fun a ha b hb e => hn ?_⟩
  have : b = s := by simpa using hb
  rw [← this, ← e]
  exact ha
/-! a list or a tuple of these -/
def sqO (kb : Bool) (xs : List V) : HO := cond kb (.lst xs) (.tup xs)
def iLTn (K : PySem.W.Frag) (t : L2.TE) : L2.TI := fun σ H R => iList K t σ H R ∨ iTup K t σ H R
theorem pi_ltn {X : Cx} {tg e : Expr} {t : L2.TE} (h : PE X e t) : PI X tg e (iLTn X.K t) := ⟨fun pins s σ H R I hw => hw.elim (fun q => (pi_list h).run pins s σ H R I q) fun q => (pi_tup h).run pins s σ H R I q⟩
theorem c_forX {kb : Bool} {H : Hp} {σ : St} {D : Ends} {g : L2.TG} {tb : TS} {t : L2.TE} {a : Addr} {xs : List V} (ht : ∀ Q : VK, Q (.ref a) H → t σ H Q) (hx : H a = some (sqO kb xs)) (Pv : Nat → St → Hp → Prop) (h0 : Pv 0 σ H) (hl : ∀ i σ' H', i ≤ xs.length → Pv i σ' H' → H' a = some (sqO kb xs))
    (hs : ∀ i x σ' H', xs[i]? = some x → Pv i σ' H' → g x σ' H' fun σ2 H2 => tb { D with nx := Pv (i + 1), ct := Pv (i + 1), bk := D.nx } σ2 H2) (hd : ∀ σ' H', Pv xs.length σ' H' → D.nx σ' H') : tFor (iLTn K t) g tb D σ H := by
  cases kb with
  | true => exact Or.inl (ht _ ⟨a, rfl, ⟨_, SqL.of hx⟩, for_list Pv h0 (fun i σ' H' h p => SqL.of (hl i σ' H' h p)) hs hd⟩)
  | false => exact Or.inr (ht _ ⟨a, rfl, ⟨_, SqT.of hx⟩, for_tup Pv h0 (fun i σ' H' h p => SqT.of (hl i σ' H' h p)) hs hd⟩)
theorem isiB {H : Hp} {Q : VK} {kb : Bool} {p : Addr} {xs : List V} {tp : Addr} (h : H p = some (sqO kb xs)) (ht : H tp = some (.tup [.ty "list", .ty "tuple"])) (q : Q (.bl true) H) : rIsiT K [.ref p, .ref tp] H Q := by
  cases kb with
  | true => exact isiLT (.inr (ty_lst h)) ht q
  | false => exact isiLT (.inl (ty_tup h)) ht q
theorem sqB {H : Hp} {kb : Bool} {p : Addr} {xs : List V} (h : H p = some (sqO kb xs)) : SqL K H p xs ∨ SqT K H p xs := by
  cases kb with
  | true => exact .inl (SqL.of h)
  | false => exact .inr (SqT.of h)
/-! unlike names -/
def sp_need_names : Sp := fun vs H Q _ => ∃ (p : Addr) (ns : List Str) (kb : Bool), vs = [.ref p] ∧ H p = some (sqO kb (ns.map V.str)) ∧ 0 < ns.length ∧ ns.length ≤ 300 ∧ (∀ s ∈ ns, goodN s) ∧ ns.Nodup ∧ RetV .non H Q
theorem ok_need_names (T : Txt K mg Z) : FnOk P w K mg base CX0 3 Z.f_need_names Z.fd_need_names ["things"] sp_need_names := by
  have G_is_pointed := ok_is_pointed (P := P) (w := w) (base := base) T
  refine T.F_need_names.ok sc_need_names (fun vs H Q E h => ?_) (fun cdv AA outer s H vs Q E hr h => ?_)
  · obtain ⟨p, ns, kb, rfl, _⟩ := h
    rfl
  · obtain ⟨p, ns, kb, rfl, gp, h0, hl, hg, hnd, k⟩ := h
    refine ⟨_, (pss_cons (ps_if (PW.pt (pw_or (pt_not (pt_val (pe_callB call_isiT (by rfl) T.n_isinstance (by decide +kernel) (pa_cons (pv 0) (pa_cons (pe_tup (pa_cons (pe_bltn (v := .ty "list") (by rfl) T.n_list (by decide +kernel) rfl) (pa_cons (pe_bltn (v := .ty "tuple") (by rfl) T.n_tuple (by decide +kernel) rfl) pa_nil))) pa_nil))))) (pw_or1 (pt_cmpR op_eq (pe_callB call_len_seq (by rfl) T.n_len (by decide +kernel) (pa_cons (pv 0) pa_nil)) pe_int (nomark _))))) (pss_one ps_never) pss_nil)
      (pss_cons (ps_set (i := 1) sc_need_names.nd rfl (Or.inl rfl) pe_dnewK)
      (pss_one (ps_for PassesOwn.never rfl (pi_ltn (pv 0)) (pg_name (i := 2) sc_need_names.nd rfl (Or.inl rfl)) (pss_cons (ps_if (pt_not (pt_val (pe_call G_is_pointed (hr.mono (by omega)) rfl T.g_is_pointed T.F_is_pointed.kp T.b_is_pointed .nil pass0 (pa_cons (pv 2) pa_nil)))) (pss_one ps_never) pss_nil)
      (pss_cons (ps_if (pt_cmpR (op_inDk (hu_of hr)) (pv 2) (pv 1) (by rfl)) (pss_one ps_never) pss_nil)
      (pss_one (ps_dput (hu_of hr) (pv 1) (pv 2) pe_bl rfl)))))))), ?_⟩
    walk_at "ss"
    refine newT fun tp H1 htp e1 g1 => ?_
    walk_at "ss"
    refine isiB (e1 _ _ gp) g1 ?_
    walk_at "ss"
    refine ⟨p, _, rfl, sqB (e1 _ _ gp), ?_⟩
    walk_at "ss"
    rw [List.length_map]
    refine if_ff (decide_eq_false (fun z => by have := V.int.inj z; omega)) ?_
    walk_at "ss"
    intro ad had
    have e2 : Ex H1 (upd H1 ad (.dK [])) := Ex.new had
    have g2 : upd H1 ad (.dK []) ad = some (.dK []) := upd_same
    generalize upd H1 ad (.dK []) = H2 at e2 g2
    have e12 := e1.trans e2
    have hadH : H ad = none := fresh_back e1 had
    walk_at "ss"
    refine c_forX (a := p) (fun _ q => c_var (by with_unfolding_all rfl) q) (e12 _ _ gp) (xs := ns.map V.str) (fun i σ' G => (∃ v2, σ' = [some (.ref p), some (.ref ad), v2]) ∧ Ex H G ∧ ∃ ka, G ad = some (.dK ka) ∧ ka.length ≤ i ∧ ∀ z, (valV ka (.inr z)).isSome = decide (z ∈ ns.take i)) ⟨⟨_, rfl⟩, e12, [], g2, Nat.le_refl _, fun z => by simp [valV]⟩ (fun i σ' G _ q => q.2.1 _ _ gp) ?_ ?_
    · rintro i x σ' G hx ⟨⟨v2, rfl⟩, eG, ka, ga, hkl, hka⟩
      rw [List.getElem?_map] at hx
      obtain ⟨s, hs, rfl⟩ := Option.map_eq_some_iff.mp hx
      have hil := (List.getElem?_eq_some_iff.mp hs).1
      have hgs := hg s (List.mem_of_getElem? hs)
      have hsl := hgs.2.1
      have hm : s ∉ ns.take i := fun z => nodup_at hnd hs z (Nat.le_refl _) rfl
      walk_at "ss"
      refine ⟨_, rfl, .inl ⟨s, rfl, by omega, fun H3 e3 => ?_⟩⟩
      rw [hgs.1]
      walk_at "ss"
      refine ⟨ad, _, rfl, dgetK (e3 _ _ ga), ?_⟩
      walk_at "ss"
      rw [hka]
      refine if_ff (decide_eq_false hm) ?_
      walk_at "ss"
      refine ⟨ad, _, rfl, .inl ⟨ka, .inr s, e3 _ _ ga, rfl, Evl.sz_lt (by omega), rfl⟩, ?_⟩
      walk_at "ss"
      have hpl := putK_len ka (.inr s) (.bl true)
      refine ⟨⟨_, rfl⟩, Ex.mut (eG.trans e3) hadH, _, upd_same, by omega, fun z => ?_⟩
      rw [valV_put, List.take_add_one, hs]
      by_cases hz : z = s
      · rw [if_pos (by rw [hz])]
        simp [hz]
      · rw [if_neg (fun e => hz (Sum.inr.inj e)), hka]
        congr 1
        simp [hz]
    · rintro σ' G ⟨⟨v2, rfl⟩, eG, ka, ga, hkl, hka⟩
      walk_at "ss"
      exact k _ eG
/-! the rows -/
def sp_equations_of (Z : Adr) : Sp := fun vs H Q _ => ∃ (p : Addr) (rs : List Rw) (us : List V) (kb : Bool), vs = [.ref p] ∧ H p = some (sqO kb us) ∧ Paired (RowAt H) rs us ∧ rs.length ≤ 300 ∧ (∀ r ∈ rs, r.good ∧ (r.kind = 0 → r.names ≠ [])) ∧
  ∀ l evs H2, H l = none → Ex H H2 → H2 l = some (.lst evs) → Paired (fun r (q : V × V) => EqAt Z H2 r q.1 q.2) rs (evs.zip us) → evs.length = us.length → Q (.ref l) H2
theorem paired_ix {α β : Type} {F : α → β → Prop} : ∀ {l : List α} {m : List β}, Paired F l m → ∀ {i : Nat} {b : β}, m[i]? = some b → ∃ a, l[i]? = some a ∧ F a b
  | _, _, .nil, i, b, h => by simp at h
  | _, _, .cons (a := a0) (b := b0) p q, 0, b, h => by
    have e : b0 = b := by simpa using h
    subst e
    exact ⟨a0, rfl, p⟩
  | _, _, .cons p q, i + 1, b, h => by
    obtain ⟨a, h1, h2⟩ := paired_ix q (i := i) (b := b) (by simpa using h)
    exact ⟨a, by simpa using h1, h2⟩
theorem EqAt.cls {H : Hp} {r : Rw} {v u : V} (h : EqAt Z H r v u) : ∃ a dx fs, v = .ref a ∧ H a = some (.ins (clsK Z r.kind) dx fs) ∧ MCE Z (clsK Z r.kind) ∧ offE fs := by
  obtain ⟨a, dx, fs, h1, h2, _, _, h5, _⟩ := h
  exact ⟨a, dx, fs, h1, h2, ⟨_, r.kind_lt, rfl⟩, h5.1⟩
theorem row_names_good {r : Rw} (g : r.good) : ∀ s ∈ r.names, goodN s := fun s hs => Rw.good_all g s (List.mem_append_right _ hs)
theorem row_tells_good {r : Rw} (g : r.good) : ∀ s ∈ r.tells, goodN s := fun s hs => Rw.good_all g s (List.mem_append_left _ hs)
theorem re_term0 {r : Rw} {v u : V} {H : Hp} {Q : VK} (hk : r.kind ≠ 0) (q : Q .non H) : Re_term Z r v u H Q := by
  cases r with
  | pl n t => exact absurd rfl hk
  | _ => exact q
theorem re_term1 {r : Rw} {v u : V} {H : Hp} {Q : VK} (hk : r.kind = 0) (q : ∀ a, Q (.ref a) H) : Re_term Z r v u H Q := by
  cases r with
  | pl n t =>
    intro tv htv
    obtain ⟨a, dx, fs, rfl, _⟩ := htv.cls
    exact q a
  | vd k n v x => rcases k with _ | _ | k <;> cases hk
  | _ => cases hk
theorem paired_take {α β : Type} {F : α → β → Prop} : ∀ {l : List α} {m : List β}, Paired F l m → ∀ i : Nat, Paired F (l.take i) (m.take i)
  | _, _, .nil, i => by simp; exact .nil
  | _, _, .cons p q, 0 => .nil
  | _, _, .cons p q, i + 1 => .cons p (paired_take q i)
theorem ok_equations_of (T : Txt K mg Z)  : FnOk P w K mg base CX0 (26) Z.f_equations_of Z.fd_equations_of ["rows"] (sp_equations_of Z) := by
  have G_equation_of := ok_equation_of (P := P) (w := w) (base := base) T
  refine T.F_equations_of.ok sc_equations_of (fun vs H Q E h => ?_) (fun cdv AA outer s H vs Q E hr h => ?_)
  · obtain ⟨p, rs, us, kb, rfl, _⟩ := h
    rfl
  · obtain ⟨p, rs, us, kb, rfl, gp, hp, hl, hg, k⟩ := h
    have GME_term := gmE_term (P := P) (w := w) (base := base) T
    have GME_names := gmE_names (P := P) (w := w) (base := base) T
    refine ⟨_, (pss_cons (ps_if (pt_not (pt_val (pe_callB call_isiT (by rfl) T.n_isinstance (by decide +kernel) (pa_cons (pv 0) (pa_cons (pe_tup (pa_cons (pe_bltn (v := .ty "list") (by rfl) T.n_list (by decide +kernel) rfl) (pa_cons (pe_bltn (v := .ty "tuple") (by rfl) T.n_tuple (by decide +kernel) rfl) pa_nil))) pa_nil))))) (pss_one ps_never) pss_nil)
      (pss_cons (ps_set (i := 1) sc_equations_of.nd rfl (Or.inl rfl) (pe_lst pa_nil))
      (pss_cons (ps_for PassesOwn.never rfl (pi_ltn (pv 0)) (pg_name (i := 2) sc_equations_of.nd rfl (Or.inl rfl)) (pss_cons (ps_set (i := 3) sc_equations_of.nd rfl (Or.inl rfl) (pe_call G_equation_of (hr.mono (by omega)) rfl T.g_equation_of T.F_equation_of.kp T.b_equation_of .nil pass0 (pa_cons (pv 2) pa_nil)))
      (Evl.pss_cut (ps_if (PW.pt (pw_and (pt_cmpR op_notN (pe_methP0 (pv 3) GME_term (hr.mono (by omega)) pass0) pe_non (nomark _)) (pw_and1 (pt_cmpR (op_eqD hr.units) (pe_methP0 (pv 3) GME_names (hr.mono (by omega)) pass0) (pe_lst pa_nil) (nomark _))))) (pss_one ps_never) pss_nil)
      (pss_one (ps_expr (pe_bm PySem.F.plainAttrs_list PySem.F.slot_list_append PySem.F.type_list_append mt_append (pv 1) (pa_cons (pv 3) pa_nil)))))))
      (pss_one (ps_ret (pv 1)))))), ?_⟩
    walk_at "ss"
    refine newT fun tp H1 htp e1 g1 => ?_
    walk_at "ss"
    refine isiB (e1 _ _ gp) g1 ?_
    walk_at "ss"
    refine newL fun fd H2 hfd e2 g2 => ?_
    have e12 := e1.trans e2
    have hfdH : H fd = none := fresh_back e1 hfd
    walk_at "ss"
    refine c_forX (a := p) (fun _ q => c_var (by with_unfolding_all rfl) q) (e12 _ _ gp) (xs := us) (fun i σ' G => (∃ v2 v3, σ' = [some (.ref p), some (.ref fd), v2, v3]) ∧ Ex H G ∧ ∃ evs, G fd = some (.lst evs) ∧ evs.length = i ∧ Paired (fun r (q : V × V) => EqAt Z G r q.1 q.2) (rs.take i) (evs.zip (us.take i))) ⟨⟨_, _, rfl⟩, e12, [], g2, rfl, .nil⟩ (fun i σ' G _ q => q.2.1 _ _ gp) ?_ ?_
    · rintro i x σ' G hx ⟨⟨v2, v3, rfl⟩, eG, evs, gf, hel, hpr⟩
      obtain ⟨r, hr2, hR⟩ := paired_ix hp hx
      obtain ⟨hgr, hpl⟩ := hg r (List.mem_of_getElem? hr2)
      have hil := (List.getElem?_eq_some_iff.mp hr2).1
      walk_at "ss"
      refine ⟨r, x, rfl, hR.up eG, hgr, fun v H3 e3 hE => ?_⟩
      walk_at "ss"
      obtain ⟨a, dx, fs, rfl, ha, hM, o1, o2, o3, o4, o5⟩ := hE.cls
      refine c_cut (M := fun σ' G' => σ' = [some (.ref p), some (.ref fd), some x, some (.ref a)] ∧ Ex H3 G') ?_ ?_
      · walk_at "ss"
        refine ⟨a, _, dx, fs, rfl, ha, hM, o4, ?_⟩
        walk_at "ss"
        refine ⟨r, _, _, rfl, hE, hgr, rfl, ?_⟩
        by_cases hk0 : r.kind = 0
        · refine re_term1 hk0 fun tv => ?_
          walk_at "ss"
          refine if_tt (by rfl) ?_
          walk_at "ss"
          refine ⟨a, _, dx, fs, rfl, ha, hM, o3, ?_⟩
          walk_at "ss"
          refine ⟨r, _, _, rfl, hE, hgr, rfl, fun l2 H4 hl2 e4 g4 => ?_⟩
          walk_at "ss"
          refine newL fun l3 H5 hl3 e5 g5 => ?_
          have hno : r.names ≠ [] := hpl hk0
          have hok : (r.names.map V.str).all okV = true := by
            rw [List.all_eq_true]
            intro y hy
            obtain ⟨s, hs, rfl⟩ := List.mem_map.mp hy
            exact okT_V (row_names_good hgr s hs).2.2
          refine c_eqLs (SqL.of (e5 _ _ g4)) (SqL.of g5) hok rfl ?_
          have hf : eqL (r.names.map V.str) [] = false := by
            cases hn : r.names with
            | nil => exact absurd hn hno
            | cons a l => rfl
          rw [hf]
          walk_at "ss"
          exact e4.trans e5
        · refine re_term0 hk0 ?_
          walk_at "ss"
          refine if_ff (by rfl) ?_
          walk_at "ss"
          exact Ex.refl _
      · rintro σ' G4 ⟨rfl, e4⟩
        have e34 := e3.trans e4
        walk_at "ss"
        refine ⟨.inl ⟨rfl, _, SqL.of (e34 _ _ gf)⟩, ?_⟩
        walk_at "ss"
        refine ⟨fd, _, _, rfl, rfl, e34 _ _ gf, Evl.sz_lt (by omega), ?_⟩
        walk_at "ss"
        have NU : NL G4 (upd G4 fd (.lst (evs ++ [.ref a]))) := NL.upd (e34 _ _ gf)
        refine ⟨⟨_, _, rfl⟩, Ex.mut (eG.trans e34) hfdH, evs ++ [.ref a], upd_same, by rw [List.length_append, hel]; rfl, ?_⟩
        have hul : (us.take i).length = i := by
          rw [List.length_take]
          have := (List.getElem?_eq_some_iff.mp hx).1
          omega
        rw [List.take_add_one, hr2, List.take_add_one, hx]
        show Paired _ (rs.take i ++ [r]) ((evs ++ [V.ref a]).zip (us.take i ++ [x]))
        rw [List.zip_append (by rw [hel, hul])]
        exact paired_snoc (b := (V.ref a, x)) ((hE.up e4).nl NU) (paired_up (fun r q h => (h.up e34).nl NU) hpr)
    · rintro σ' G ⟨⟨v2, v3, rfl⟩, eG, evs, gf, hel, hpr⟩
      walk_at "ss"
      have hlen := paired_len hp
      rw [List.take_length, List.take_of_length_le (by omega)] at hpr
      exact k fd evs G hfdH eG gf hpr hel

/-! ### the class of nodes -/
open TL (tl)
structure Nd where
  nm : Str
  ins : List Str
  outs : List Str
  rows : List Rw
def Nd.told (n : Nd) : List Str := n.rows.flatMap Rw.tells
def Nd.names (n : Nd) : List Str := n.ins ++ n.told
structure Nd.good (n : Nd) : Prop where
  nm : isName n.nm = true ∧ n.nm.length ≤ 8 ∧ OkT n.nm
  in0 : 0 < n.ins.length
  in1 : n.ins.length ≤ 300
  inG : ∀ s ∈ n.ins, goodN s
  out0 : 0 < n.outs.length
  out1 : n.outs.length ≤ 300
  outG : ∀ s ∈ n.outs, goodN s ∧ s ∈ n.told
  outN : n.outs.Nodup
  all : n.names.Nodup
  all1 : n.names.length ≤ 1000
  row1 : n.rows.length ≤ 300
  row : ∀ r ∈ n.rows, r.good ∧ (r.kind = 0 → r.names ≠ []) ∧ ∀ s ∈ r.names, s ∈ n.names
def nfs (nm : Str) (li lo lr td : Addr) : List (Str × V) := [("name", .str nm), ("kept_inputs", .ref li), ("kept_outs", .ref lo), ("kept_rows", .ref lr), ("tellers", .ref td)]
/-- who tells each name -/
def telR (rs : List Rw) (evs : List V) : List (Key × V) := (rs.zip evs).flatMap fun p => p.1.tells.map fun s => ((.inr s : Key), p.2)
def telK (ins : List Str) (rs : List Rw) (evs : List V) : List (Key × V) := (ins.map fun s => ((.inr s : Key), V.non)) ++ telR rs evs
/-- the thing v is the node n -/
def NdAt (Z : Adr) (H : Hp) (n : Nd) (v : V) : Prop := ∃ a dx li lo lr td evs us, v = .ref a ∧ H a = some (.ins Z.c_Node dx (nfs n.nm li lo lr td)) ∧ H li = some (.lst (n.ins.map V.str)) ∧ H lo = some (.lst (n.outs.map V.str)) ∧ H lr = some (.lst evs) ∧ H td = some (.dK (telK n.ins n.rows evs)) ∧ Paired (fun r (q : V × V) => EqAt Z H r q.1 q.2) n.rows (evs.zip us) ∧ evs.length = us.length
theorem NdAt.up {H H2 : Hp} {n : Nd} {v : V} (h : NdAt Z H n v) (e : Ex H H2) : NdAt Z H2 n v := by
  obtain ⟨a, dx, li, lo, lr, td, evs, us, h1, h2, h3, h4, h5, h6, h7, h8⟩ := h
  exact ⟨a, dx, li, lo, lr, td, evs, us, h1, e _ _ h2, e _ _ h3, e _ _ h4, e _ _ h5, e _ _ h6, paired_up (fun r q h => h.up e) h7, h8⟩
/-- the thing u is the tuple by which the node n is told -/
def NdT (H : Hp) (n : Nd) (u : V) : Prop := ∃ a p q t us, u = .ref a ∧ H a = some (.tup [.str n.nm, .ref p, .ref q, .ref t]) ∧ H p = some (.tup (n.ins.map V.str)) ∧ H q = some (.tup (n.outs.map V.str)) ∧ H t = some (.tup us) ∧ Paired (RowAt H) n.rows us
theorem NdT.up {H H2 : Hp} {n : Nd} {u : V} (h : NdT H n u) (e : Ex H H2) : NdT H2 n u := by
  obtain ⟨a, p, q, t, us, h1, h2, h3, h4, h5, h6⟩ := h
  exact ⟨a, p, q, t, us, h1, e _ _ h2, e _ _ h3, e _ _ h4, e _ _ h5, paired_up (fun r q h => h.up e) h6⟩
theorem EqAt.it {H H2 : Hp} {r : Rw} {v u : V} (h : EqAt Z H r v u) (ei : InsK H H2) (et : TupK H H2) : EqAt Z H2 r v u := by
  obtain ⟨a, dx, fs, h1, h2, h3, h4, h5, h6⟩ := h
  refine ⟨a, dx, fs, h1, ei _ _ _ _ h2, h3.tu et, h4, h5, fun n t e => ?_⟩
  obtain ⟨tv, h7, h8⟩ := h6 n t e
  exact ⟨tv, h7, h8.keep ei⟩
theorem ins_dk {H G : Hp} {d : Addr} {kv : List (Key × V)} (x : ExB d H G) (hd : H d = some (.dK kv)) : InsK H G := fun a C dx fs h => x _ _ (ne_of h hd (fun z => by cases z)) h
theorem tup_dk {H G : Hp} {d : Addr} {kv : List (Key × V)} (x : ExB d H G) (hd : H d = some (.dK kv)) : TupK H G := fun a xs h => x _ _ (ne_of h hd (fun z => by cases z)) h
theorem lst_dk {H G : Hp} {d a : Addr} {kv : List (Key × V)} {xs : List V} (x : ExB d H G) (hd : H d = some (.dK kv)) (h : H a = some (.lst xs)) : G a = some (.lst xs) := x _ _ (ne_of h hd (fun z => by cases z)) h
/-- a node in the making -/
def NdMk (Z : Adr) (H : Hp) (n : Nd) (a li lo lr td : Addr) (evs us : List V) : Prop := (∃ dx, H a = some (.ins Z.c_Node dx (nfs n.nm li lo lr td))) ∧ H li = some (.lst (n.ins.map V.str)) ∧ H lo = some (.lst (n.outs.map V.str)) ∧ H lr = some (.lst evs) ∧ Paired (fun r (q : V × V) => EqAt Z H r q.1 q.2) n.rows (evs.zip us) ∧ evs.length = us.length
theorem NdMk.up {H H2 : Hp} {n : Nd} {a li lo lr td : Addr} {evs us : List V} (h : NdMk Z H n a li lo lr td evs us) (e : Ex H H2) : NdMk Z H2 n a li lo lr td evs us := by
  obtain ⟨⟨dx, h1⟩, h2, h3, h4, h5, h6⟩ := h
  exact ⟨⟨dx, e _ _ h1⟩, e _ _ h2, e _ _ h3, e _ _ h4, paired_up (fun r q h => h.up e) h5, h6⟩
theorem NdMk.dk {H H2 : Hp} {n : Nd} {a li lo lr td d : Addr} {evs us : List V} {kv : List (Key × V)} (h : NdMk Z H n a li lo lr td evs us) (x : ExB d H H2) (hd : H d = some (.dK kv)) : NdMk Z H2 n a li lo lr td evs us := by
  obtain ⟨⟨dx, h1⟩, h2, h3, h4, h5, h6⟩ := h
  exact ⟨⟨dx, ins_dk x hd _ _ _ _ h1⟩, lst_dk x hd h2, lst_dk x hd h3, lst_dk x hd h4, paired_up (fun r q h => h.it (ins_dk x hd) (tup_dk x hd)) h5, h6⟩
theorem tcN (T : Txt K mg Z) : Cls K Z.c_Node ∧ ∀ f ∈ (["name", "kept_inputs", "kept_outs", "kept_rows", "tellers"] : List Str), NoAttr K Z.c_Node f := ⟨(tcB_ok T.x_Node).cl, (tcB_ok T.x_Node).no⟩
theorem split_at {α : Type} {l : List α} {i : Nat} {a : α} (h : l[i]? = some a) : l = l.take i ++ a :: l.drop (i + 1) := by
  have h1 := (List.getElem?_eq_some_iff.mp h)
  obtain ⟨hl, he⟩ := h1
  conv => lhs; rw [← List.take_append_drop i l]
  rw [List.drop_eq_getElem_cons hl, he]
theorem nodup_mid {l m : List Str} {s : Str} (h : (l ++ s :: m).Nodup) : s ∉ l := fun hs => (List.nodup_append.mp h).2.2 s hs s List.mem_cons_self rfl
theorem names_split {n : Nd} {i j : Nat} {r : Rw} {s : Str} (hn : n.names.Nodup) (hi : n.rows[i]? = some r) (hj : r.tells[j]? = some s) : s ∉ n.ins ++ (n.rows.take i).flatMap Rw.tells ++ r.tells.take j := by
  refine nodup_mid (m := r.tells.drop (j + 1) ++ (n.rows.drop (i + 1)).flatMap Rw.tells) ?_
  have e : n.names = n.ins ++ (n.rows.take i).flatMap Rw.tells ++ r.tells.take j ++ s :: (r.tells.drop (j + 1) ++ (n.rows.drop (i + 1)).flatMap Rw.tells) := by
    unfold Nd.names Nd.told
    conv => lhs; rw [split_at hi]
    rw [List.flatMap_append, List.flatMap_cons]
    conv => lhs; rw [split_at hj]
    simp only [List.append_assoc, List.cons_append]
  rw [← e]
  exact hn
theorem telR_keys : ∀ {rs : List Rw} {evs : List V}, rs.length = evs.length → (telR rs evs).map (·.1) = (rs.flatMap Rw.tells).map (Sum.inr : Str → Key)
  | [], [], _ => rfl
  | r :: rs, v :: evs, h => by
    have ih := telR_keys (rs := rs) (evs := evs) (by simpa using h)
    unfold telR at ih ⊢
    rw [List.zip_cons_cons, List.flatMap_cons, List.map_append, ih, List.flatMap_cons, List.map_append, List.map_map]
    rfl
theorem telK_keys {ins : List Str} {rs : List Rw} {evs : List V} (h : rs.length = evs.length) : (telK ins rs evs).map (·.1) = (ins ++ rs.flatMap Rw.tells).map (Sum.inr : Str → Key) := by
  unfold telK
  rw [List.map_append, telR_keys h, List.map_map, List.map_append]
  rfl
theorem telK_snoc {ins : List Str} {rs : List Rw} {evs : List V} {r : Rw} {v : V} (h : rs.length = evs.length) : telK ins (rs ++ [r]) (evs ++ [v]) = telK ins rs evs ++ r.tells.map fun s => ((.inr s : Key), v) := by
  unfold telK telR
  rw [List.zip_append h, List.flatMap_append, List.append_assoc]
  simp
theorem valV_nokey {kv : List (Key × V)} {s : Str} {l : List Str} (hk : kv.map (·.1) = l.map (Sum.inr : Str → Key)) (hs : s ∉ l) : valV kv (.inr s) = none := by
  cases hv : valV kv (.inr s) with
  | none => rfl
  | some v =>
    have h1 : (Sum.inr s : Key) ∈ kv.map (·.1) := valV_in hv
    rw [hk] at h1
    obtain ⟨z, hz, he⟩ := List.mem_map.mp h1
    have : z = s := Sum.inr.inj he
    subst this
    exact absurd hz hs
def sp_take (Z : Adr) : Sp := fun vs H Q _ => ∃ n a li lo lr td evs us, vs = [.ref a] ∧ NdMk Z H n a li lo lr td evs us ∧ H td = some (.dK []) ∧ n.good ∧ ∀ H2, ExB td H H2 → H2 td = some (.dK (telK n.ins n.rows evs)) → Q .non H2
theorem ok_Node_take_tellers (T : Txt K mg Z)  : FnOk P w K mg base CX0 (12) Z.f_Node_take_tellers Z.fd_Node_take_tellers ["self"] (sp_take Z) := by
  refine T.F_Node_take_tellers.ok sc_Node_take_tellers (fun vs H Q E h => ?_) (fun cdv AA outer s H vs Q E hr h => ?_)
  · obtain ⟨n, a, li, lo, lr, td, evs, us, rfl, _⟩ := h
    rfl
  · obtain ⟨n, a, li, lo, lr, td, evs, us, rfl, hM, gtd, hg, k⟩ := h
    have GME_tells := gmE_tells (P := P) (w := w) (base := base) T
    obtain ⟨cN, nA⟩ := tcN T
    refine ⟨_, (Evl.pss_cut (ps_for PassesOwn.never rfl (pi_list (pe_fld (pv 0) (by rfl))) (pg_name (i := 1) sc_Node_take_tellers.nd rfl (Or.inl rfl)) (pss_one (ps_dput (hu_of hr) (pe_fld (pv 0) (by rfl)) (pv 1) pe_non rfl)))
      (pss_one (ps_for PassesOwn.never rfl (pi_list (pe_fld (pv 0) (by rfl))) (pg_name (i := 2) sc_Node_take_tellers.nd rfl (Or.inl rfl)) (pss_one (ps_for PassesOwn.never rfl (pi_list (pe_methP0 (pv 2) GME_tells (hr.mono (by omega)) pass0)) (pg_name (i := 1) sc_Node_take_tellers.nd rfl (Or.inl rfl)) (pss_cons (ps_if (pt_cmpR (op_inDk (hu_of hr)) (pv 1) (pe_fld (pv 0) (by rfl)) (by rfl)) (pss_one ps_never) pss_nil)
      (pss_one (ps_dput (hu_of hr) (pe_fld (pv 0) (by rfl)) (pv 1) (pv 2) rfl)))))))), ?_⟩
    walk_at "ss"
    refine c_cut (M := fun σ' G => (∃ v1 v2, σ' = [some (.ref a), v1, v2]) ∧ ExB td H G ∧ G td = some (.dK (n.ins.map fun s => ((.inr s : Key), V.non)))) ?_ ?_
    · walk_at "ss"
      obtain ⟨⟨dx, h1⟩, h2, h3, h4, h5, h6⟩ := id hM
      refine ⟨a, _, dx, _, _, rfl, h1, cN, nA _ (by simp), rfl, ?_⟩
      walk_at "ss"
      refine ⟨⟨_, SqL.of h2⟩, forL (xs := n.ins.map V.str) (fun i σ' G => (∃ v1 v2, σ' = [some (.ref a), v1, v2]) ∧ ExB td H G ∧ G td = some (.dK ((n.ins.take i).map fun s => ((.inr s : Key), V.non)))) ⟨⟨_, _, rfl⟩, ExB.refl _ _, gtd⟩ (fun i σ' G _ q => SqL.of (lst_dk q.2.1 gtd h2)) ?_ ?_⟩
      · rintro i x σ' G hx ⟨⟨v1, v2, rfl⟩, xG, gG⟩
        rw [List.getElem?_map] at hx
        obtain ⟨s, hs, rfl⟩ := Option.map_eq_some_iff.mp hx
        have hil := (List.getElem?_eq_some_iff.mp hs).1
        have h300 := hg.in1
        walk_at "ss"
        refine ⟨a, _, dx, _, _, rfl, ins_dk xG gtd _ _ _ _ h1, cN, nA _ (by simp), rfl, ?_⟩
        walk_at "ss"
        refine ⟨td, _, rfl, .inl ⟨_, .inr s, gG, rfl, Evl.sz_lt (by rw [List.length_map, List.length_take]; omega), rfl⟩, ?_⟩
        walk_at "ss"
        refine ⟨⟨_, _, rfl⟩, xG.trans ExB.upd, ?_⟩
        rw [upd_same, putK_fresh, List.take_add_one, hs, List.map_append]
        · rfl
        · intro hin
          rw [List.map_map] at hin
          obtain ⟨z, hz, he⟩ := List.mem_map.mp hin
          have : z = s := Sum.inr.inj he
          subst this
          have hnd : n.ins.Nodup := (List.nodup_append.mp hg.all).1
          exact nodup_at hnd hs hz (Nat.le_refl _) rfl
      · rintro σ' G ⟨⟨v1, v2, rfl⟩, xG, gG⟩
        rw [List.length_map, List.take_length] at gG
        walk_at "ss"
        exact ⟨⟨_, _, rfl⟩, xG, gG⟩
    · rintro σ' G1 ⟨⟨v1, v2, rfl⟩, x1, g1⟩
      obtain ⟨⟨dx, h1⟩, h2, h3, h4, h5, h6⟩ := id (hM.dk x1 gtd)
      walk_at "ss"
      refine ⟨a, _, dx, _, _, rfl, h1, cN, nA _ (by simp), rfl, ?_⟩
      walk_at "ss"
      have hlr : n.rows.length = evs.length := by have := paired_len h5; rw [List.length_zip, h6] at this; omega
      refine ⟨⟨_, SqL.of h4⟩, forL (xs := evs) (fun i σ' G => (∃ v1 v2, σ' = [some (.ref a), v1, v2]) ∧ ExB td G1 G ∧ G td = some (.dK (telK n.ins (n.rows.take i) (evs.take i)))) ⟨⟨_, _, rfl⟩, ExB.refl _ _, by rw [g1]; simp [telK, telR]⟩ (fun i σ' G _ q => SqL.of (lst_dk q.2.1 g1 h4)) ?_ ?_⟩
      · rintro i v σ' G hv ⟨⟨v1, v2, rfl⟩, xG, gG⟩
        have hil := (List.getElem?_eq_some_iff.mp hv).1
        have hz : (evs.zip us)[i]? = some (v, us[i]'(by omega)) := by
          rw [List.getElem?_zip_eq_some]
          exact ⟨hv, List.getElem?_eq_getElem (by omega)⟩
        obtain ⟨r, hr2, hE1⟩ := paired_ix h5 hz
        have hE : EqAt Z G r v _ := hE1.it (ins_dk xG g1) (tup_dk xG g1)
        have hgr := (hg.row r (List.mem_of_getElem? hr2)).1
        have hall := hg.all1
        obtain ⟨a2, dx2, fs2, rfl, ha2, hM2, o1, o2, o3, o4, o5⟩ := hE.cls
        have hrt : (n.rows.take i).length = (evs.take i).length := by rw [List.length_take, List.length_take, hlr]
        walk_at "ss"
        refine ⟨a2, _, dx2, fs2, rfl, ha2, hM2, o2, ?_⟩
        walk_at "ss"
        refine ⟨r, _, _, rfl, hE, hgr, rfl, fun l2 G2 hl2 e2 g2 => ?_⟩
        have ntl : l2 ≠ td := (ne_of_none gG hl2).symm
        walk_at "ss"
        refine ⟨⟨_, SqL.of g2⟩, forL (xs := r.tells.map V.str) (fun j σ' G' => (∃ v1, σ' = [some (.ref a), v1, some (.ref a2)]) ∧ ExB td G1 G' ∧ G' l2 = some (.lst (r.tells.map V.str)) ∧ G' td = some (.dK (telK n.ins (n.rows.take i) (evs.take i) ++ (r.tells.take j).map fun s => ((.inr s : Key), V.ref a2)))) ⟨⟨_, rfl⟩, xG.trans (ExB.of e2), g2, by rw [List.take_zero, List.map_nil, List.append_nil]; exact e2 _ _ gG⟩ (fun j σ' G' _ q => SqL.of q.2.2.1) ?_ ?_⟩
        · rintro j x σ' G' hx ⟨⟨v1, rfl⟩, xG', gl', gt'⟩
          rw [List.getElem?_map] at hx
          obtain ⟨s, hs, rfl⟩ := Option.map_eq_some_iff.mp hx
          have hkeys : (telK n.ins (n.rows.take i) (evs.take i) ++ (r.tells.take j).map fun s => ((.inr s : Key), V.ref a2)).map (·.1) = (n.ins ++ (n.rows.take i).flatMap Rw.tells ++ r.tells.take j).map (Sum.inr : Str → Key) := by
            rw [List.map_append, telK_keys hrt, List.map_map, List.map_append (l₁ := n.ins ++ (n.rows.take i).flatMap Rw.tells)]
            rfl
          have hno := valV_nokey hkeys (names_split hg.all hr2 hs)
          have hlen : (telK n.ins (n.rows.take i) (evs.take i) ++ (r.tells.take j).map fun s => ((.inr s : Key), V.ref a2)).length ≤ 1000 := by
            have h1 := congrArg List.length hkeys
            rw [List.length_map, List.length_map] at h1
            rw [h1]
            refine Nat.le_trans ?_ hall
            have e : n.names = (n.ins ++ (n.rows.take i).flatMap Rw.tells ++ r.tells.take j) ++ (r.tells.drop j ++ (n.rows.drop (i + 1)).flatMap Rw.tells) := by
              unfold Nd.names Nd.told
              conv => lhs; rw [split_at hr2]
              rw [List.flatMap_append, List.flatMap_cons]
              conv => lhs; rw [← List.take_append_drop j r.tells]
              simp only [List.append_assoc]
            rw [e, List.length_append (as := n.ins ++ (n.rows.take i).flatMap Rw.tells ++ r.tells.take j)]
            omega
          walk_at "ss"
          refine ⟨a, _, dx, _, _, rfl, ins_dk xG' g1 _ _ _ _ h1, cN, nA _ (by simp), rfl, ?_⟩
          walk_at "ss"
          refine ⟨td, _, rfl, dgetK gt', ?_⟩
          rw [hno]
          walk_at "ss"
          refine if_ff rfl ?_
          walk_at "ss"
          refine ⟨a, _, dx, _, _, rfl, ins_dk xG' g1 _ _ _ _ h1, cN, nA _ (by simp), rfl, ?_⟩
          walk_at "ss"
          refine ⟨td, _, rfl, .inl ⟨_, .inr s, gt', rfl, Evl.sz_lt (by omega), rfl⟩, ?_⟩
          walk_at "ss"
          refine ⟨⟨_, rfl⟩, xG'.trans ExB.upd, by rw [upd_ne ntl]; exact gl', ?_⟩
          rw [upd_same, putK_new _ hno, List.take_add_one, hs, List.map_append, List.append_assoc]
          rfl
        · rintro σ' G' ⟨⟨v1, rfl⟩, xG', gl', gt'⟩
          walk_at "ss"
          refine ⟨⟨_, _, rfl⟩, xG', ?_⟩
          rw [gt', List.length_map, List.take_length, List.take_add_one, hr2, List.take_add_one, hv]
          show _ = some (HO.dK (telK n.ins (n.rows.take i ++ [r]) (evs.take i ++ [V.ref a2])))
          rw [telK_snoc hrt]
      · rintro σ' G ⟨⟨v1, v2, rfl⟩, xG, gG⟩
        rw [List.take_length, ← hlr, List.take_length] at gG
        walk_at "ss"
        exact k _ (x1.trans xG) gG
/-! what is mentioned is told -/
def sp_need_told (Z : Adr) : Sp := fun vs H Q _ => ∃ n a li lo lr td evs us, vs = [.ref a] ∧ NdMk Z H n a li lo lr td evs us ∧ H td = some (.dK (telK n.ins n.rows evs)) ∧ n.good ∧ RetV .non H Q
theorem valV_haskey {kv : List (Key × V)} {s : Str} {l : List Str} (hk : kv.map (·.1) = l.map (Sum.inr : Str → Key)) (hs : s ∈ l) : ∃ v, valV kv (.inr s) = some v := by
  cases hv : valV kv (.inr s) with
  | some v => exact ⟨v, rfl⟩
  | none =>
    have h1 : (Sum.inr s : Key) ∈ kv.map (·.1) := by rw [hk]; exact List.mem_map.mpr ⟨s, hs, rfl⟩
    obtain ⟨p, hp, he⟩ := List.mem_map.mp h1
    exfalso
    clear h1 hk
    induction kv with
    | nil => cases hp
    | cons q r ih =>
      by_cases e : q.1 = (Sum.inr s : Key)
      · rw [valV_pos e] at hv
        cases hv
      · rw [valV_neg e] at hv
        rcases List.mem_cons.mp hp with hp | hp
        · subst hp
          exact e he
        · exact ih hv hp
theorem valV_mem0' {kv : List (Key × V)} {k : Key} {v : V} (h : valV kv k = some v) : (k, v) ∈ kv := by
  induction kv with
  | nil => cases h
  | cons p r ih =>
    by_cases e : p.1 = k
    · rw [valV_pos e] at h
      have : p = (k, v) := by rw [← e, ← Option.some.inj h]
      rw [this]
      exact List.mem_cons_self
    · rw [valV_neg e] at h
      exact List.mem_cons_of_mem _ (ih h)
theorem telR_ref {Z : Adr} {H : Hp} : ∀ {rs : List Rw} {evs us : List V}, Paired (fun r (q : V × V) => EqAt Z H r q.1 q.2) rs (evs.zip us) → evs.length = us.length → ∀ p ∈ telR rs evs, ∃ a, p.2 = .ref a
  | [], [], _, _, _, p, hp => by cases hp
  | r :: rs, v :: evs, u :: us, h, hl, p, hp => by
    rw [List.zip_cons_cons] at h
    cases h with
    | cons h1 h2 =>
      unfold telR at hp
      rw [List.zip_cons_cons, List.flatMap_cons] at hp
      rcases List.mem_append.mp hp with hp | hp
      · obtain ⟨s, _, rfl⟩ := List.mem_map.mp hp
        obtain ⟨a, dx, fs, e, _⟩ := h1.cls
        exact ⟨a, e⟩
      · exact telR_ref h2 (by simpa using hl) p hp
  | [], _ :: _, _ :: _, h, _, _, _ => by cases h
  | [], _ :: _, [], _, hl, _, _ => by cases hl
theorem told_ref {H : Hp} {n : Nd} {evs us : List V} {s : Str} (h : Paired (fun r (q : V × V) => EqAt Z H r q.1 q.2) n.rows (evs.zip us)) (hl : evs.length = us.length) (hn : n.names.Nodup) (hs : s ∈ n.told) : ∃ a, valV (telK n.ins n.rows evs) (.inr s) = some (.ref a) := by
  have hlr : n.rows.length = evs.length := by have := paired_len h; rw [List.length_zip, hl] at this; omega
  obtain ⟨v, hv⟩ := valV_haskey (telK_keys (ins := n.ins) hlr) (List.mem_append_right _ hs)
  have hm := valV_mem0' hv
  unfold telK at hm
  rcases List.mem_append.mp hm with hm | hm
  · obtain ⟨z, hz, he⟩ := List.mem_map.mp hm
    have : z = s := Sum.inr.inj (Prod.mk.inj he).1
    subst this
    exact absurd rfl ((List.nodup_append.mp hn).2.2 z hz z hs)
  · obtain ⟨a, e⟩ := telR_ref h hl _ hm
    have e2 : v = .ref a := e
    rw [hv, e2]
    exact ⟨a, rfl⟩
theorem ok_Node_need_told (T : Txt K mg Z)  : FnOk P w K mg base CX0 (14) Z.f_Node_need_told Z.fd_Node_need_told ["self"] (sp_need_told Z) := by
  refine T.F_Node_need_told.ok sc_Node_need_told (fun vs H Q E h => ?_) (fun cdv AA outer s H vs Q E hr h => ?_)
  · obtain ⟨n, a, li, lo, lr, td, evs, us, rfl, _⟩ := h
    rfl
  · obtain ⟨n, a, li, lo, lr, td, evs, us, rfl, hM, gtd, hg, k⟩ := h
    have GME_names := gmE_names (P := P) (w := w) (base := base) T
    obtain ⟨cN, nA⟩ := tcN T
    obtain ⟨⟨dx, h1⟩, h2, h3, h4, h5, h6⟩ := id hM
    have hlr : n.rows.length = evs.length := by have := paired_len h5; rw [List.length_zip, h6] at this; omega
    have hkeys := telK_keys (ins := n.ins) hlr
    refine ⟨_, (Evl.pss_cut (ps_for PassesOwn.never rfl (pi_list (pe_fld (pv 0) (by rfl))) (pg_name (i := 1) sc_Node_need_told.nd rfl (Or.inl rfl)) (pss_one (ps_for PassesOwn.never rfl (pi_list (pe_methP0 (pv 1) GME_names (hr.mono (by omega)) pass0)) (pg_name (i := 2) sc_Node_need_told.nd rfl (Or.inl rfl)) (pss_one (ps_if (pt_cmpR (op_notInDk (hu_of hr)) (pv 2) (pe_fld (pv 0) (by rfl)) (by rfl)) (pss_one ps_never) pss_nil)))))
      (pss_one (ps_for PassesOwn.never rfl (pi_list (pe_fld (pv 0) (by rfl))) (pg_name (i := 2) sc_Node_need_told.nd rfl (Or.inl rfl)) (pss_one (ps_if (pt_cmpR op_isN (pe_dget1 (hu_of hr) (pe_fld (pv 0) (by rfl)) (pv 2) ⟨rfl, rfl, rfl, rfl⟩) pe_non (nomark _)) (pss_one ps_never) pss_nil))))), ?_⟩
    walk_at "ss"
    refine c_cut (M := fun σ' G => (∃ v1 v2, σ' = [some (.ref a), v1, v2]) ∧ Ex H G) ?_ ?_
    · walk_at "ss"
      refine ⟨a, _, dx, _, _, rfl, h1, cN, nA _ (by simp), rfl, ?_⟩
      walk_at "ss"
      refine ⟨⟨_, SqL.of h4⟩, forL (xs := evs) (fun i σ' G => (∃ v1 v2, σ' = [some (.ref a), v1, v2]) ∧ Ex H G) ⟨⟨_, _, rfl⟩, Ex.refl _⟩ (fun i σ' G _ q => SqL.of (q.2 _ _ h4)) ?_ ?_⟩
      · rintro i v σ' G hv ⟨⟨v1, v2, rfl⟩, eG⟩
        have hil := (List.getElem?_eq_some_iff.mp hv).1
        have hz : (evs.zip us)[i]? = some (v, us[i]'(by omega)) := by
          rw [List.getElem?_zip_eq_some]
          exact ⟨hv, List.getElem?_eq_getElem (by omega)⟩
        obtain ⟨r, hr2, hE1⟩ := paired_ix h5 hz
        have hE : EqAt Z G r v _ := hE1.up eG
        obtain ⟨hgr, _, hmen⟩ := hg.row r (List.mem_of_getElem? hr2)
        obtain ⟨a2, dx2, fs2, rfl, ha2, hM2, o1, o2, o3, o4, o5⟩ := hE.cls
        walk_at "ss"
        refine ⟨a2, _, dx2, fs2, rfl, ha2, hM2, o3, ?_⟩
        walk_at "ss"
        refine ⟨r, _, _, rfl, hE, hgr, rfl, fun l2 G2 hl2 e2 g2 => ?_⟩
        walk_at "ss"
        refine ⟨⟨_, SqL.of g2⟩, forL (xs := r.names.map V.str) (fun j σ' G' => (∃ v1 v2, σ' = [some (.ref a), v1, v2]) ∧ Ex G2 G') ⟨⟨_, _, rfl⟩, Ex.refl _⟩ (fun j σ' G' _ q => SqL.of (q.2 _ _ g2)) ?_ ?_⟩
        · rintro j x σ' G' hx ⟨⟨v1, v2, rfl⟩, eG'⟩
          rw [List.getElem?_map] at hx
          obtain ⟨s, hs, rfl⟩ := Option.map_eq_some_iff.mp hx
          obtain ⟨vt, hvt⟩ := valV_haskey hkeys (hmen s (List.mem_of_getElem? hs))
          have E' := eG.trans (e2.trans eG')
          walk_at "ss"
          refine ⟨a, _, dx, _, _, rfl, E' _ _ h1, cN, nA _ (by simp), rfl, ?_⟩
          walk_at "ss"
          refine ⟨td, _, rfl, dgetK (E' _ _ gtd), ?_⟩
          rw [hvt]
          walk_at "ss"
          refine if_ff rfl ?_
          walk_at "ss"
          exact ⟨⟨_, _, rfl⟩, eG'⟩
        · rintro σ' G' ⟨⟨v1, v2, rfl⟩, eG'⟩
          walk_at "ss"
          exact ⟨⟨_, _, rfl⟩, eG.trans (e2.trans eG')⟩
      · rintro σ' G ⟨⟨v1, v2, rfl⟩, eG⟩
        walk_at "ss"
        exact ⟨⟨_, _, rfl⟩, eG⟩
    · rintro σ' G ⟨⟨v1, v2, rfl⟩, eG⟩
      walk_at "ss"
      refine ⟨a, _, dx, _, _, rfl, eG _ _ h1, cN, nA _ (by simp), rfl, ?_⟩
      walk_at "ss"
      refine ⟨⟨_, SqL.of (eG _ _ h3)⟩, forL (xs := n.outs.map V.str) (fun i σ' G => (∃ v1 v2, σ' = [some (.ref a), v1, v2]) ∧ Ex H G) ⟨⟨_, _, rfl⟩, eG⟩ (fun i σ' G _ q => SqL.of (q.2 _ _ h3)) ?_ ?_⟩
      · rintro i x σ' G hx ⟨⟨v1, v2, rfl⟩, eG⟩
        rw [List.getElem?_map] at hx
        obtain ⟨s, hs, rfl⟩ := Option.map_eq_some_iff.mp hx
        obtain ⟨at_, hat⟩ := told_ref h5 h6 hg.all (hg.outG s (List.mem_of_getElem? hs)).2
        walk_at "ss"
        refine ⟨a, _, dx, _, _, rfl, eG _ _ h1, cN, nA _ (by simp), rfl, ?_⟩
        walk_at "ss"
        refine ⟨isD (eG _ _ gtd), ?_⟩
        walk_at "ss"
        refine ⟨_, dgetK (eG _ _ gtd), ?_⟩
        rw [hat]
        walk_at "ss"
        refine if_ff (by rfl) ?_
        walk_at "ss"
        exact ⟨⟨_, _, rfl⟩, eG⟩
      · rintro σ' G ⟨⟨v1, v2, rfl⟩, eG⟩
        walk_at "ss"
        exact k _ eG

/-! ### nodes made -/
open TL (tl)
def MCN (Z : Adr) (C : Addr) : Prop := C = Z.c_Node
def spmN_take_tellers (Z : Adr) (C : Addr) : Sp := sp_take Z
def spmN_need_told (Z : Adr) (C : Addr) : Sp := sp_need_told Z
theorem gmN_take_tellers (T : Txt K mg Z) : ∀ C, MCN Z C → MOk P w K mg base CX0 12 C "take_tellers" (spmN_take_tellers Z C) := by
  rintro C rfl
  exact ⟨(tcB_ok T.x_Node).cl, _, _, _, ⟨T.h_take_tellers_Node, T.y_Node_take_tellers, T.F_Node_take_tellers.kp⟩, ok_Node_take_tellers (P := P) (w := w) (base := base) T, T.b_Node_take_tellers⟩
theorem gmN_need_told (T : Txt K mg Z) : ∀ C, MCN Z C → MOk P w K mg base CX0 14 C "need_told" (spmN_need_told Z C) := by
  rintro C rfl
  exact ⟨(tcB_ok T.x_Node).cl, _, _, _, ⟨T.h_need_told_Node, T.y_Node_need_told, T.F_Node_need_told.kp⟩, ok_Node_need_told (P := P) (w := w) (base := base) T, T.b_Node_need_told⟩
theorem MCx_ne (T : Txt K mg Z) {C : Addr} (h : MC Z C ∨ MCE Z C) : C ≠ Z.c_Node := by
  rcases h with h | ⟨i, hi, rfl⟩
  · rcases h with rfl | rfl | rfl | rfl | rfl
    · exact (difB_ne (i := 0) (j := 1) T.fact_difN1 rfl rfl (by decide)).symm
    · exact (difB_ne (i := 0) (j := 2) T.fact_difN1 rfl rfl (by decide)).symm
    · exact (difB_ne (i := 0) (j := 3) T.fact_difN1 rfl rfl (by decide)).symm
    · exact (difB_ne (i := 0) (j := 4) T.fact_difN1 rfl rfl (by decide)).symm
    · exact (difB_ne (i := 0) (j := 5) T.fact_difN1 rfl rfl (by decide)).symm
  · have hi' : i = 0 ∨ i = 1 ∨ i = 2 ∨ i = 3 ∨ i = 4 ∨ i = 5 ∨ i = 6 := by omega
    rcases hi' with rfl | rfl | rfl | rfl | rfl | rfl | rfl
    · exact (difB_ne (i := 0) (j := 1) T.fact_difN2 rfl rfl (by decide)).symm
    · exact (difB_ne (i := 0) (j := 2) T.fact_difN2 rfl rfl (by decide)).symm
    · exact (difB_ne (i := 0) (j := 3) T.fact_difN2 rfl rfl (by decide)).symm
    · exact (difB_ne (i := 0) (j := 4) T.fact_difN2 rfl rfl (by decide)).symm
    · exact (difB_ne (i := 0) (j := 5) T.fact_difN2 rfl rfl (by decide)).symm
    · exact (difB_ne (i := 0) (j := 6) T.fact_difN2 rfl rfl (by decide)).symm
    · exact (difB_ne (i := 0) (j := 7) T.fact_difN2 rfl rfl (by decide)).symm
theorem EqAt.keepE {H H2 : Hp} {r : Rw} {v u : V} (h : EqAt Z H r v u) (ei : ∀ a C dx fs, MC Z C ∨ MCE Z C → H a = some (.ins C dx fs) → H2 a = some (.ins C dx fs)) (et : TupK H H2) : EqAt Z H2 r v u := by
  obtain ⟨a, dx, fs, h1, h2, h3, h4, h5, h6⟩ := h
  refine ⟨a, dx, fs, h1, ei _ _ _ _ (.inr ⟨_, r.kind_lt, rfl⟩) h2, h3.tu et, h4, h5, fun n t e => ?_⟩
  obtain ⟨tv, h7, h8⟩ := h6 n t e
  exact ⟨tv, h7, h8.keepM fun a C dx fs hC ha => ei a C dx fs (.inl hC) ha⟩
theorem eqs_node (T : Txt K mg Z) {H : Hp} {x dx : Addr} {fs gs : List (Str × V)} {rs : List Rw} {ps : List (V × V)} (hx : H x = some (.ins Z.c_Node dx fs)) (h : Paired (fun r (q : V × V) => EqAt Z H r q.1 q.2) rs ps) : Paired (fun r (q : V × V) => EqAt Z (upd H x (.ins Z.c_Node dx gs)) r q.1 q.2) rs ps :=
  paired_up (fun r q h => h.keepE (fun a C dx' fs' hC ha => by
    rw [upd_ne]
    · exact ha
    · intro z
      subst z
      rw [hx] at ha
      injection ha with ha
      injection ha with ha
      exact MCx_ne T hC ha.symm) (fun a xs ha => by rw [upd_ne (ne_of ha hx (fun z => by cases z))]; exact ha)) h
/-- the same, its things not yet there in H0 -/
def NdFr (Z : Adr) (H0 H : Hp) (n : Nd) (v : V) : Prop := ∃ a dx li lo lr td evs us, v = .ref a ∧ H a = some (.ins Z.c_Node dx (nfs n.nm li lo lr td)) ∧ H li = some (.lst (n.ins.map V.str)) ∧ H lo = some (.lst (n.outs.map V.str)) ∧ H lr = some (.lst evs) ∧ H td = some (.dK (telK n.ins n.rows evs)) ∧ Paired (fun r (q : V × V) => EqAt Z H r q.1 q.2) n.rows (evs.zip us) ∧ evs.length = us.length ∧ H0 a = none ∧ H0 li = none ∧ H0 lo = none ∧ H0 lr = none ∧ H0 td = none
theorem NdFr.at_ {H0 H : Hp} {n : Nd} {v : V} (h : NdFr Z H0 H n v) : NdAt Z H n v := by
  obtain ⟨a, dx, li, lo, lr, td, evs, us, h1, h2, h3, h4, h5, h6, h7, h8, _⟩ := h
  exact ⟨a, dx, li, lo, lr, td, evs, us, h1, h2, h3, h4, h5, h6, h7, h8⟩
theorem NdFr.back {H00 H0 H : Hp} {n : Nd} {v : V} (h : NdFr Z H0 H n v) (e : Ex H00 H0) : NdFr Z H00 H n v := by
  obtain ⟨a, dx, li, lo, lr, td, evs, us, h1, h2, h3, h4, h5, h6, h7, h8, f1, f2, f3, f4, f5⟩ := h
  exact ⟨a, dx, li, lo, lr, td, evs, us, h1, h2, h3, h4, h5, h6, h7, h8, fresh_back e f1, fresh_back e f2, fresh_back e f3, fresh_back e f4, fresh_back e f5⟩

/-! ### nodes made: __init__ -/
open TL (tl)
def sp_Node_init (Z : Adr) : Sp := fun vs H Q _ => ∃ x dx n p q t us H0 k1 k2 k3, vs = [.ref x, .str n.nm, .ref p, .ref q, .ref t] ∧ H x = some (.ins Z.c_Node dx []) ∧ H0 x = none ∧ Ex H0 H ∧ H0 p = some (sqO k1 (n.ins.map V.str)) ∧ H0 q = some (sqO k2 (n.outs.map V.str)) ∧ H0 t = some (sqO k3 us) ∧ Paired (RowAt H0) n.rows us ∧ n.good ∧ ∀ H2, Ex H0 H2 → NdFr Z H0 H2 n (.ref x) → Q .non H2
theorem ok_Node_init (T : Txt K mg Z)  : FnOk P w K mg base CX0 (28) Z.f_Node_init Z.fd_Node_init ["self", "name", "inputs", "outs", "rows"] (sp_Node_init Z) := by
  have G_is_name := ok_is_name (P := P) (w := w) (base := base) T
  have G_need_names := ok_need_names (P := P) (w := w) (base := base) T
  have G_equations_of := ok_equations_of (P := P) (w := w) (base := base) T
  refine T.F_Node_init.ok sc_Node_init (fun vs H Q E h => ?_) (fun cdv AA outer s H vs Q E hr h => ?_)
  · obtain ⟨x, dx, n, p, q, t, us, H0, k1, k2, k3, rfl, _⟩ := h
    rfl
  · obtain ⟨x, dx, n, p, q, t, us, H0, k1, k2, k3, rfl, hx, h0, e0, gp, gq, gt, hrw, hg, k⟩ := h
    have GMN_take_tellers := gmN_take_tellers (P := P) (w := w) (base := base) T
    have GMN_need_told := gmN_need_told (P := P) (w := w) (base := base) T
    obtain ⟨cN, nA⟩ := tcN T
    have hnm := hg.nm
    have h8 := hnm.2.1
    have hin : n.ins.Nodup := (List.nodup_append.mp hg.all).1
    refine ⟨_, (pss_cons (ps_if (pt_not (pt_val (pe_call G_is_name (hr.mono (by omega)) rfl T.g_is_name T.F_is_name.kp T.b_is_name .nil pass0 (pa_cons (pv 1) pa_nil)))) (pss_one ps_never) pss_nil)
      (pss_cons (ps_expr (pe_call G_need_names (hr.mono (by omega)) rfl T.g_need_names T.F_need_names.kp T.b_need_names .nil pass0 (pa_cons (pv 2) pa_nil)))
      (pss_cons (ps_expr (pe_call G_need_names (hr.mono (by omega)) rfl T.g_need_names T.F_need_names.kp T.b_need_names .nil pass0 (pa_cons (pv 3) pa_nil)))
      (pss_cons (ps_fld (pv 0) (pv 1) (by rfl))
      (pss_cons (ps_fld (pv 0) (pe_callTy call_list_of (by rfl) T.n_list (by decide +kernel) (pa_cons (pv 2) pa_nil)) (by rfl))
      (pss_cons (ps_fld (pv 0) (pe_callTy call_list_of (by rfl) T.n_list (by decide +kernel) (pa_cons (pv 3) pa_nil)) (by rfl))
      (pss_cons (ps_fld (pv 0) (pe_call G_equations_of (hr.mono (by omega)) rfl T.g_equations_of T.F_equations_of.kp T.b_equations_of .nil pass0 (pa_cons (pv 4) pa_nil)) (by rfl))
      (pss_cons (ps_fld (pv 0) pe_dnewK (by rfl))
      (pss_cons (ps_expr (pe_methP0 (pv 0) GMN_take_tellers (hr.mono (by omega)) pass0))
      (pss_one (ps_expr (pe_methP0 (pv 0) GMN_need_told (hr.mono (by omega)) pass0)))))))))))), ?_⟩
    walk_at "ss"
    refine ⟨_, rfl, .inl ⟨n.nm, rfl, by omega, fun H1 e1 => ?_⟩⟩
    rw [hnm.1]
    walk_at "ss"
    refine ⟨p, n.ins, k1, rfl, (e0.trans e1) _ _ gp, hg.in0, hg.in1, hg.inG, hin, fun H2 e2 => ?_⟩
    walk_at "ss"
    have e02 := e0.trans (e1.trans e2)
    refine ⟨q, n.outs, k2, rfl, e02 _ _ gq, hg.out0, hg.out1, fun s hs => (hg.outG s hs).1, hg.outN, fun H3 e3 => ?_⟩
    have e03 := e02.trans e3
    walk_at "ss"
    have hx3 := (e1.trans (e2.trans e3)) _ _ hx
    refine ⟨x, _, dx, _, rfl, hx3, cN, nA _ (by simp), by simp, ?_⟩
    have f4 : Ex H0 (upd H3 x (.ins Z.c_Node dx (putF "name" (.str n.nm) []))) := Ex.mut e03 h0
    have hx4 : upd H3 x (.ins Z.c_Node dx (putF "name" (.str n.nm) [])) x = some (.ins Z.c_Node dx [("name", .str n.nm)]) := upd_same
    generalize upd H3 x (.ins Z.c_Node dx (putF "name" (.str n.nm) [])) = H4 at f4 hx4
    walk_at "ss"
    refine ⟨_, _, rfl, sqB (f4 _ _ gp), fun li hli => ?_⟩
    have f5 : Ex H4 (upd H4 li (.lst (n.ins.map V.str))) := Ex.new hli
    have g5 : upd H4 li (.lst (n.ins.map V.str)) li = some (.lst (n.ins.map V.str)) := upd_same
    generalize upd H4 li (.lst (n.ins.map V.str)) = H5 at f5 g5
    walk_at "ss"
    refine ⟨x, _, dx, _, rfl, f5 _ _ hx4, cN, nA _ (by simp), by simp, ?_⟩
    rw [put_tl (by decide +kernel)]
    have nlx : li ≠ x := (ne_of_none hx4 hli).symm
    have f6 : Ex H0 (upd H5 x (.ins Z.c_Node dx (("name", .str n.nm) :: putF "kept_inputs" (.ref li) []))) := Ex.mut (f4.trans f5) h0
    have hx6 : upd H5 x (.ins Z.c_Node dx (("name", .str n.nm) :: putF "kept_inputs" (.ref li) [])) x = some (.ins Z.c_Node dx [("name", .str n.nm), ("kept_inputs", .ref li)]) := upd_same
    have g6 : upd H5 x (.ins Z.c_Node dx (("name", .str n.nm) :: putF "kept_inputs" (.ref li) [])) li = some (.lst (n.ins.map V.str)) := by rw [upd_ne nlx]; exact g5
    generalize upd H5 x (.ins Z.c_Node dx (("name", .str n.nm) :: putF "kept_inputs" (.ref li) [])) = H6 at f6 hx6 g6
    walk_at "ss"
    refine ⟨_, _, rfl, sqB (f6 _ _ gq), fun lo hlo => ?_⟩
    have f7 : Ex H6 (upd H6 lo (.lst (n.outs.map V.str))) := Ex.new hlo
    have g7 : upd H6 lo (.lst (n.outs.map V.str)) lo = some (.lst (n.outs.map V.str)) := upd_same
    generalize upd H6 lo (.lst (n.outs.map V.str)) = H7 at f7 g7
    walk_at "ss"
    refine ⟨x, _, dx, _, rfl, f7 _ _ hx6, cN, nA _ (by simp), by simp, ?_⟩
    rw [put_tl (by decide +kernel), put_tl (by decide +kernel)]
    have nox : lo ≠ x := (ne_of_none hx6 hlo).symm
    generalize hF8 : (("name", .str n.nm) :: ("kept_inputs", .ref li) :: putF "kept_outs" (.ref lo) [] : List (Str × V)) = fs8
    have f8 : Ex H0 (upd H7 x (.ins Z.c_Node dx fs8)) := Ex.mut (f6.trans f7) h0
    have hx8 : upd H7 x (.ins Z.c_Node dx fs8) x = some (.ins Z.c_Node dx [("name", .str n.nm), ("kept_inputs", .ref li), ("kept_outs", .ref lo)]) := by rw [upd_same, ← hF8]; rfl
    have gi8 : upd H7 x (.ins Z.c_Node dx fs8) li = some (.lst (n.ins.map V.str)) := by rw [upd_ne nlx]; exact f7 _ _ g6
    have go8 : upd H7 x (.ins Z.c_Node dx fs8) lo = some (.lst (n.outs.map V.str)) := by rw [upd_ne nox]; exact g7
    generalize upd H7 x (.ins Z.c_Node dx fs8) = H8 at f8 hx8 gi8 go8
    walk_at "ss"
    refine ⟨t, n.rows, us, k3, rfl, f8 _ _ gt, paired_up (fun r u h => h.up f8) hrw, hg.row1, fun r hr => ⟨(hg.row r hr).1, (hg.row r hr).2.1⟩, fun lr evs H9 hlr f9 g9 hev hel => ?_⟩
    walk_at "ss"
    refine ⟨x, _, dx, _, rfl, f9 _ _ hx8, cN, nA _ (by simp), by simp, ?_⟩
    rw [put_tl (by decide +kernel), put_tl (by decide +kernel), put_tl (by decide +kernel)]
    have nrx : lr ≠ x := (ne_of_none hx8 hlr).symm
    generalize hF10 : (("name", .str n.nm) :: ("kept_inputs", .ref li) :: ("kept_outs", .ref lo) :: putF "kept_rows" (.ref lr) [] : List (Str × V)) = fs10
    have f10 : Ex H0 (upd H9 x (.ins Z.c_Node dx fs10)) := Ex.mut (f8.trans f9) h0
    have hev10 := eqs_node T (gs := fs10) (f9 _ _ hx8) hev
    have hx10 : upd H9 x (.ins Z.c_Node dx fs10) x = some (.ins Z.c_Node dx [("name", .str n.nm), ("kept_inputs", .ref li), ("kept_outs", .ref lo), ("kept_rows", .ref lr)]) := by rw [upd_same, ← hF10]; rfl
    have gi10 : upd H9 x (.ins Z.c_Node dx fs10) li = some (.lst (n.ins.map V.str)) := by rw [upd_ne nlx]; exact f9 _ _ gi8
    have go10 : upd H9 x (.ins Z.c_Node dx fs10) lo = some (.lst (n.outs.map V.str)) := by rw [upd_ne nox]; exact f9 _ _ go8
    have gr10 : upd H9 x (.ins Z.c_Node dx fs10) lr = some (.lst evs) := by rw [upd_ne nrx]; exact g9
    generalize upd H9 x (.ins Z.c_Node dx fs10) = H10 at f10 hx10 gi10 go10 gr10 hev10
    walk_at "ss"
    intro td htd
    have htd0 : H0 td = none := fresh_back f10 htd
    have f11 : Ex H10 (upd H10 td (.dK [])) := Ex.new htd
    have g11 : upd H10 td (.dK []) td = some (.dK []) := upd_same
    generalize upd H10 td (.dK []) = H11 at f11 g11
    walk_at "ss"
    refine ⟨x, _, dx, _, rfl, f11 _ _ hx10, cN, nA _ (by simp), by simp, ?_⟩
    rw [put_tl (by decide +kernel), put_tl (by decide +kernel), put_tl (by decide +kernel), put_tl (by decide +kernel)]
    have ntx : td ≠ x := (ne_of_none hx10 htd).symm
    generalize hF12 : (("name", .str n.nm) :: ("kept_inputs", .ref li) :: ("kept_outs", .ref lo) :: ("kept_rows", .ref lr) :: putF "tellers" (.ref td) [] : List (Str × V)) = fs12
    have f12 : Ex H0 (upd H11 x (.ins Z.c_Node dx fs12)) := Ex.mut (f10.trans f11) h0
    have hev12 := eqs_node T (gs := fs12) (f11 _ _ hx10) (paired_up (fun r q h => h.up f11) hev10)
    have hx12 : upd H11 x (.ins Z.c_Node dx fs12) x = some (.ins Z.c_Node dx (nfs n.nm li lo lr td)) := by rw [upd_same, ← hF12]; rfl
    have gi12 : upd H11 x (.ins Z.c_Node dx fs12) li = some (.lst (n.ins.map V.str)) := by rw [upd_ne nlx]; exact f11 _ _ gi10
    have go12 : upd H11 x (.ins Z.c_Node dx fs12) lo = some (.lst (n.outs.map V.str)) := by rw [upd_ne nox]; exact f11 _ _ go10
    have gr12 : upd H11 x (.ins Z.c_Node dx fs12) lr = some (.lst evs) := by rw [upd_ne nrx]; exact f11 _ _ gr10
    have gt12 : upd H11 x (.ins Z.c_Node dx fs12) td = some (.dK []) := by rw [upd_ne ntx]; exact g11
    generalize upd H11 x (.ins Z.c_Node dx fs12) = H12 at f12 hx12 gi12 go12 gr12 gt12 hev12
    have hMk : NdMk Z H12 n x li lo lr td evs us := ⟨⟨dx, hx12⟩, gi12, go12, gr12, hev12, hel⟩
    walk_at "ss"
    refine ⟨x, _, dx, _, rfl, hx12, rfl, rfl, ?_⟩
    walk_at "ss"
    refine ⟨n, x, li, lo, lr, td, evs, us, rfl, hMk, gt12, hg, fun H13 x13 g13 => ?_⟩
    have hMk13 := hMk.dk x13 gt12
    have f13 : Ex H0 H13 := fun a o ha => x13 a o (ne_of_none ha htd0) (f12 _ _ ha)
    obtain ⟨⟨dx', hx13⟩, m2, m3, m4, m5, m6⟩ := id hMk13
    walk_at "ss"
    refine ⟨x, _, dx', _, rfl, hx13, rfl, rfl, ?_⟩
    walk_at "ss"
    refine ⟨n, x, li, lo, lr, td, evs, us, rfl, hMk13, g13, hg, fun H14 f14 => ?_⟩
    walk_at "ss"
    obtain ⟨⟨dx2, hx14⟩, w2, w3, w4, w5, w6⟩ := hMk13.up f14
    exact k H14 (f13.trans f14) ⟨x, dx2, li, lo, lr, td, evs, us, rfl, hx14, w2, w3, w4, f14 _ _ g13, w5, w6, h0, fresh_back f4 hli, fresh_back f6 hlo, fresh_back f8 hlr, htd0⟩

/-! ### nodes told -/
open TL (tl)
theorem rows_of {H : Hp} : ∀ {rs : List Rw} {evs us : List V}, Paired (fun r (q : V × V) => EqAt Z H r q.1 q.2) rs (evs.zip us) → evs.length = us.length → Paired (RowAt H) rs us
  | [], [], [], _, _ => .nil
  | r :: rs, v :: evs, u :: us, h, hl => by
    rw [List.zip_cons_cons] at h
    cases h with
    | cons h1 h2 =>
      obtain ⟨_, _, _, _, _, h3, _⟩ := h1
      exact .cons h3 (rows_of h2 (by simpa using hl))
  | [], _ :: _, _ :: _, h, _ => by cases h
  | _ :: _, [], [], h, _ => by cases h
  | _, _ :: _, [], _, hl => by cases hl
  | _, [], _ :: _, _, hl => by cases hl
def spmN_told (Z : Adr) (C : Addr) : Sp := fun vs H Q _ => ∃ n v, vs = [v] ∧ NdAt Z H n v ∧ n.good ∧ ∀ u H2, Ex H H2 → NdT H2 n u → Q u H2
theorem re_told {r : Rw} {v u : V} {H : Hp} {Q : VK} (q : Q u H) : Re_told r v u H Q := q
theorem ok_Node_told (T : Txt K mg Z)  : FnOk P w K mg base CX0 (4) Z.f_Node_told Z.fd_Node_told ["self"] (spmN_told Z Z.c_Node) := by
  refine T.F_Node_told.ok sc_Node_told (fun vs H Q E h => ?_) (fun cdv AA outer s H vs Q E hr h => ?_)
  · obtain ⟨n, v, rfl, _⟩ := h
    rfl
  · obtain ⟨n, v, rfl, ⟨a, dx, li, lo, lr, td, evs, us, rfl, h1, h2, h3, h4, h5, h6, h7⟩, hg, k⟩ := h
    have GME_told := gmE_told (P := P) (w := w) (base := base) T
    obtain ⟨cN, nA⟩ := tcN T
    have hlr : n.rows.length = evs.length := by have := paired_len h6; rw [List.length_zip, h7] at this; omega
    have hrl := hg.row1
    refine ⟨_, (pss_cons (ps_set (i := 1) sc_Node_told.nd rfl (Or.inl rfl) (pe_callTy call_tuple_of (by rfl) T.n_tuple (by decide +kernel) (pa_cons (pe_lc (own := [("row", 2)]) (g := (gName 2)) (tt := tYes) (te := (tMP (MCE Z) "told" (spmE_told Z) E0 (tVar 2) tNil)) rfl sc_Node_told.nd (pi_list (pe_fld (pv 0) (by rfl))) (blkOk_by (own := [("row", 2)]) (N := N_Node_told) (sc := defScope s_Node_told) (by decide +kernel)) (fun _ _ _ _ _ => (pg_name (i := 2) sc_Node_told.nd rfl (Or.inl rfl))) (fun _ _ _ _ _ => pts_nil) (fun _ _ _ _ _ => (pe_methP0 (pv 2) GME_told (hr.mono (by omega)) pass0))) pa_nil)))
      (pss_one (ps_ret (pe_tup (pa_cons (pe_fld (pv 0) (by rfl)) (pa_cons (pe_callTy call_tuple_of (by rfl) T.n_tuple (by decide +kernel) (pa_cons (pe_fld (pv 0) (by rfl)) pa_nil)) (pa_cons (pe_callTy call_tuple_of (by rfl) T.n_tuple (by decide +kernel) (pa_cons (pe_fld (pv 0) (by rfl)) pa_nil)) (pa_cons (pv 1) pa_nil)))))))), ?_⟩
    walk_at "ss"
    refine ⟨a, _, dx, _, _, rfl, h1, cN, nA _ (by simp), rfl, ?_⟩
    walk_at "ss"
    refine ⟨⟨_, SqL.of h4⟩, ?_⟩
    refine lcLP (fun D i y G => us[i]? = some y) (fun _ _ _ _ _ _ h => h) (SqL.of h4) (by omega) (fun D i v hD hv H2 e2 _ R N hR => ?_) (fun ys p H2 hyl hy hp e2 g2 => ?_)
    · have hil := (List.getElem?_eq_some_iff.mp hv).1
      have hu : us[i]? = some (us[i]'(by omega)) := List.getElem?_eq_getElem (by omega)
      have hz : (evs.zip us)[i]? = some (v, us[i]'(by omega)) := by
        rw [List.getElem?_zip_eq_some]
        exact ⟨hv, hu⟩
      obtain ⟨r, hr2, hE1⟩ := paired_ix h6 hz
      have hE : EqAt Z H2 r v _ := hE1.up e2
      have hgr := (hg.row r (List.mem_of_getElem? hr2)).1
      obtain ⟨a2, dx2, fs2, rfl, ha2, hM2, o1, o2, o3, o4, o5⟩ := hE.cls
      walk_at "ss"
      refine ⟨a2, _, dx2, fs2, rfl, ha2, hM2, o1, ?_⟩
      walk_at "ss"
      refine ⟨r, _, _, rfl, hE, hgr, rfl, re_told ?_⟩
      exact hR _ _ (Ex.refl _) hu
    have hys : ys = us := by
      apply List.ext_getElem?
      intro i
      cases hi : ys[i]? with
      | some y => exact (hy i y hi).symm
      | none =>
        rw [List.getElem?_eq_none_iff] at hi
        rw [List.getElem?_eq_none (by omega)]
    subst hys
    walk_at "ss"
    refine ⟨_, _, rfl, .inl ⟨SqL.of g2, fun t3 ht3 => ?_⟩⟩
    have e3 : Ex H2 (upd H2 t3 (.tup ys)) := Ex.new ht3
    have g3 : upd H2 t3 (.tup ys) t3 = some (.tup ys) := upd_same
    generalize upd H2 t3 (.tup ys) = H3 at e3 g3
    have e03 := Ex.trans e2 e3
    walk_at "ss"
    refine ⟨a, _, dx, _, _, rfl, e03 _ _ h1, cN, nA _ (by simp), rfl, ?_⟩
    walk_at "ss"
    refine ⟨a, _, dx, _, _, rfl, e03 _ _ h1, cN, nA _ (by simp), rfl, ?_⟩
    walk_at "ss"
    refine ⟨_, _, rfl, .inl ⟨SqL.of (e03 _ _ h2), fun t4 ht4 => ?_⟩⟩
    have e4 : Ex H3 (upd H3 t4 (.tup (n.ins.map V.str))) := Ex.new ht4
    have g4 : upd H3 t4 (.tup (n.ins.map V.str)) t4 = some (.tup (n.ins.map V.str)) := upd_same
    generalize upd H3 t4 (.tup (n.ins.map V.str)) = H4 at e4 g4
    have e04 := e03.trans e4
    walk_at "ss"
    refine ⟨a, _, dx, _, _, rfl, e04 _ _ h1, cN, nA _ (by simp), rfl, ?_⟩
    walk_at "ss"
    refine ⟨_, _, rfl, .inl ⟨SqL.of (e04 _ _ h3), fun t5 ht5 => ?_⟩⟩
    have e5 : Ex H4 (upd H4 t5 (.tup (n.outs.map V.str))) := Ex.new ht5
    have g5 : upd H4 t5 (.tup (n.outs.map V.str)) t5 = some (.tup (n.outs.map V.str)) := upd_same
    generalize upd H4 t5 (.tup (n.outs.map V.str)) = H5 at e5 g5
    walk_at "ss"
    refine newT fun t6 H6 ht6 e6 g6 => ?_
    walk_at "ss"
    have e06 := e04.trans (e5.trans e6)
    exact k _ H6 e06 ⟨t6, t4, t5, t3, ys, rfl, g6, (e5.trans e6) _ _ g4, e6 _ _ g5, (e4.trans (e5.trans e6)) _ _ g3, paired_up (fun r u h => h.up e06) (rows_of h6 h7)⟩
theorem gmN_told (T : Txt K mg Z) : ∀ C, MCN Z C → MOk P w K mg base CX0 4 C "told" (spmN_told Z C) := by
  rintro C rfl
  exact ⟨(tcB_ok T.x_Node).cl, _, _, _, ⟨T.h_told_Node, T.y_Node_told, T.F_Node_told.kp⟩, ok_Node_told (P := P) (w := w) (base := base) T, T.b_Node_told⟩
theorem c_thru {t u : TS} {D : Ends} {σ : St} {H : Hp} (h : t { D with nx := u D } σ H) : tThru t u D σ H := h
/-! the node that a tuple tells -/
def sp_node_of (Z : Adr) : Sp := fun vs H Q _ => ∃ u n, vs = [u] ∧ NdT H n u ∧ n.good ∧ ∀ v H2, Ex H H2 → NdFr Z H H2 n v → Q v H2
theorem ok_node_of (T : Txt K mg Z)  : FnOk P w K mg base CX0 (31) Z.f_node_of Z.fd_node_of ["told"] (sp_node_of Z) := by
  have G_Node_init := ok_Node_init (P := P) (w := w) (base := base) T
  refine T.F_node_of.ok sc_node_of (fun vs H Q E h => ?_) (fun cdv AA outer s H vs Q E hr h => ?_)
  · obtain ⟨u, n, rfl, _⟩ := h
    rfl
  · obtain ⟨u, n, rfl, ⟨a, p, q, t, us, rfl, ga, gp, gq, gt, hrw⟩, hg, k⟩ := h
    refine ⟨_, (pss_cons (ps_if (PW.pt (pw_or (pt_not (pt_val (pe_callB call_isi (by rfl) T.n_isinstance (by decide +kernel) (pa_cons (pv 0) (pa_cons (pe_bltn (v := .ty "tuple") (by rfl) T.n_tuple (by decide +kernel) rfl) pa_nil))))) (pw_or1 (pt_cmpR op_ne (pe_callB call_len_seq (by rfl) T.n_len (by decide +kernel) (pa_cons (pv 0) pa_nil)) (pe_gcst rfl T.c_TOLD_THINGS) (nomark _))))) (pss_one ps_never) pss_nil)
      (pss_cons (ps_if (pt_not (pt_val (pe_callB (cr_all rfl) (by rfl) T.n_all (by decide +kernel) (pa_cons (pe_lc (own := [("thing", 1)]) (g := (gName 1)) (tt := tYes) (te := (tCB (rIsi K) (tCons (tVar 1) (tCons (tC (.ty "tuple")) tNil)))) rfl sc_node_of.nd (pi_tup (pe_slice sl_tup (pv 0) (po_some pe_int) po_none)) (blkOk_by (own := [("thing", 1)]) (N := N_node_of) (sc := defScope s_node_of) (by decide +kernel)) (fun _ _ _ _ _ => (pg_name (i := 1) sc_node_of.nd rfl (Or.inl rfl))) (fun _ _ _ _ _ => pts_nil) (fun _ _ _ _ _ => (pe_callB call_isi (by rfl) T.n_isinstance (by decide +kernel) (pa_cons (pv 1) (pa_cons (pe_bltn (v := .ty "tuple") (by rfl) T.n_tuple (by decide +kernel) rfl) pa_nil))))) pa_nil)))) (pss_one ps_never) pss_nil)
      (pss_one (ps_try_thru (pss_one (ps_set (i := 2) sc_node_of.nd rfl (Or.inl rfl) (pe_make ⟨(tcB_ok T.x_Node).makes, T.i_Node, T.y_Node_init, (tcB_ok T.x_Node).kp⟩ G_Node_init (hr.mono (by omega)) rfl T.m_Node T.b_Node_init .nil pass0 (pa_cons (pe_ix ix_tup (pv 0) pe_int (fun _ _ => rfl)) (pa_cons (pe_ix ix_tup (pv 0) pe_int (fun _ _ => rfl)) (pa_cons (pe_ix ix_tup (pv 0) pe_int (fun _ _ => rfl)) (pa_cons (pe_ix ix_tup (pv 0) pe_int (fun _ _ => rfl)) pa_nil))))))) (pss_one (ps_ret (pv 2))))))), ?_⟩
    walk_at "ss"
    refine isi (ty_tup ga) kb_tt ?_
    walk_at "ss"
    refine ⟨a, _, rfl, .inr (SqT.of ga), ?_⟩
    walk_at "ss"
    refine if_ff (by rfl) ?_
    walk_at "ss"
    refine ⟨a, _, rfl, SqT.of ga, (by
      intro z
      have h1 := z.1
      rw [show (1 : Int) = ((1 : Nat) : Int) from rfl, HT.sIx_nat] at h1
      simp at h1), fun p2 hp2 => ?_⟩
    rw [show cutV [.str n.nm, .ref p, .ref q, .ref t] (some 1) none = [.ref p, .ref q, .ref t] from rfl]
    have e2 : Ex H (upd H p2 (.tup [.ref p, .ref q, .ref t])) := Ex.new hp2
    have g2 : upd H p2 (.tup [.ref p, .ref q, .ref t]) p2 = some (.tup [.ref p, .ref q, .ref t]) := upd_same
    generalize upd H p2 (.tup [.ref p, .ref q, .ref t]) = H2 at e2 g2
    refine ⟨p2, rfl, ⟨_, SqT.of g2⟩, ?_⟩
    refine lcT (fun _ => some (.bl true)) (SqT.of g2) (by simp) (fun i x hx F2 f2 R hR => ?_) ?_
    · have hty : TyX K F2 x (.type "tuple") := by
        have e := e2.trans f2
        match i, hx with
        | 0, hx => cases hx; exact ty_tup (e _ _ gp)
        | 1, hx => cases hx; exact ty_tup (e _ _ gq)
        | 2, hx => cases hx; exact ty_tup (e _ _ gt)
      walk_at "ss"
      refine isi hty kb_tt ?_
      exact hR _ (Ex.refl _)
    intro l3 H3 hl3 e3 g3
    walk_at "ss"
    refine ⟨l3, [true, true, true], rfl, SqL.of g3, ?_⟩
    walk_at "ss"
    have e03 := e2.trans e3
    refine if_ff (by rfl) ?_
    walk_at "ss"
    refine c_thru ?_
    walk_at "ss"
    refine c_ixT (SqT.of (e03 _ _ ga)) rfl ?_
    walk_at "ss"
    refine c_ixT (SqT.of (e03 _ _ ga)) rfl ?_
    walk_at "ss"
    refine c_ixT (SqT.of (e03 _ _ ga)) rfl ?_
    walk_at "ss"
    refine c_ixT (SqT.of (e03 _ _ ga)) rfl ?_
    walk_at "ss"
    intro x dx hx hdx nxd
    have eM : Ex H3 (upd (upd H3 dx (.own x)) x (.ins Z.c_Node dx [])) := fun b o hb => by rw [upd_ne (ne_of_none hb hx), upd_ne (ne_of_none hb hdx)]; exact hb
    refine ⟨x, dx, n, p, q, t, us, H3, false, false, false, rfl, upd_same, hx, eM, e03 _ _ gp, e03 _ _ gq, e03 _ _ gt, paired_up (fun r u h => h.up e03) hrw, hg, fun H4 e4 h4 => ⟨rfl, ?_⟩⟩
    walk_at "ss"
    exact k _ H4 (e03.trans e4) (h4.back e03)

/-! ### unlike things are shown unlike -/
open TL (tl)
def plC (c : Nat) : Bool := decide (33 ≤ c ∧ c < 127 ∧ c ≠ 39 ∧ c ≠ 92)
mutual
def plD : PyData → Bool
  | .none => true
  | .bool _ => true
  | .int _ => true
  | .str s => (tl s).all plC
  | .list ds => plAll ds
  | .tuple ds => plAll ds
  | .dict _ => false
def plAll : List PyData → Bool
  | [] => true
  | d :: ds => plD d && plAll ds
end
theorem plAll_of {ds : List PyData} (h : ∀ d ∈ ds, plD d = true) : plAll ds = true := by
  induction ds with
  | nil => rfl
  | cons d ds ih => rw [plAll, h d List.mem_cons_self, ih fun x hx => h x (List.mem_cons_of_mem _ hx)]; rfl
theorem prn_all : ∀ c < 127, 33 ≤ c → PySem.Unicode.isPrintable c = true := by decide +kernel
theorem reprC_pl {c : Nat} (h : plC c = true) : Builtin.Str.reprChar 39 c = [c] := by
  unfold plC at h
  rw [decide_eq_true_eq] at h
  obtain ⟨h1, h2, h3, h4⟩ := h
  unfold Builtin.Str.reprChar
  have e1 : (c == 39 || c == 92) = false := by simp [h3, h4]
  have e2 : (c == 10) = false := by simp; omega
  have e3 : (c == 13) = false := by simp; omega
  have e4 : (c == 9) = false := by simp; omega
  simp only [e1, e2, e3, e4, prn_all c h2 h1, Bool.false_eq_true, ↓reduceIte]
theorem foldR_pl : ∀ (l : List Nat) (acc : Array Nat), (∀ c ∈ l, plC c = true) → (l.foldl (fun out c => out ++ (Builtin.Str.reprChar 39 c).toArray) acc).toList = acc.toList ++ l
  | [], acc, _ => by simp
  | c :: l, acc, h => by
    rw [List.foldl_cons, foldR_pl l _ fun x hx => h x (List.mem_cons_of_mem _ hx), reprC_pl (h c List.mem_cons_self)]
    simp
theorem repr_pl {x : Str} (h : (tl x).all plC = true) : tl (reprText x) = 39 :: (tl x ++ [39]) := by
  rw [List.all_eq_true] at h
  have hq : reprQuote x = 39 := by
    unfold reprQuote
    have hc : x.cps.contains 39 = false := by
      cases hc : x.cps.contains 39 with
      | false => rfl
      | true =>
        have : (39 : Nat) ∈ tl x := by
          have := Array.contains_iff_mem.mp hc
          exact Array.mem_toList_iff.mpr this
        have := h 39 this
        exact absurd this (by decide)
    rw [hc]
    rfl
  show ((x.cps.foldl (fun out c => out ++ (Builtin.Str.reprChar (reprQuote x) c).toArray) #[reprQuote x]).push (reprQuote x)).toList = _
  rw [hq, Array.toList_push, ← Array.foldl_toList, foldR_pl _ _ h]
  simp [tl]
def sh (d : PyData) : List Nat := tl d.shown
def tlj : List PyData → List Nat
  | [] => []
  | d :: ds => 44 :: 32 :: (sh d ++ tlj ds)
def jl : List PyData → List Nat
  | [] => []
  | d :: ds => sh d ++ tlj ds
theorem tl_sep : tl ", " = [44, 32] := by decide +kernel
theorem join_jl : ∀ ds : List PyData, tl (Str.join ", " (PyData.shownAll ds)) = jl ds
  | [] => by rw [PyData.shownAll]; rfl
  | [d] => by
    rw [PyData.shownAll, PyData.shownAll]
    show tl d.shown = sh d ++ tlj []
    rw [tlj, List.append_nil]
    rfl
  | d :: e :: ds => by
    have ih := join_jl (e :: ds)
    rw [PyData.shownAll] at ih
    rw [PyData.shownAll, PyData.shownAll, PyProof.Rows.join_cons_cons, TL.tl_append, TL.tl_append, ih, tl_sep]
    show (sh d ++ [44, 32]) ++ (sh e ++ tlj ds) = sh d ++ 44 :: 32 :: (sh e ++ tlj ds)
    rw [List.append_assoc]
    rfl
theorem sh_list (ds : List PyData) : sh (.list ds) = 91 :: (jl ds ++ [93]) := by
  unfold sh
  rw [PyData.shown, listText_eq_join, TL.tl_append, TL.tl_append, join_jl]
  have e1 : tl "[" = [91] := by decide +kernel
  have e2 : tl "]" = [93] := by decide +kernel
  rw [e1, e2]
  simp
def endT (ds : List PyData) : List Nat := if ds.length = 1 then [44, 41] else [41]
theorem sAll_len : ∀ ds : List PyData, (PyData.shownAll ds).length = ds.length
  | [] => by rw [PyData.shownAll]; rfl
  | d :: ds => by rw [PyData.shownAll, List.length_cons, List.length_cons, sAll_len ds]
theorem sh_tuple (ds : List PyData) : sh (.tuple ds) = 40 :: (jl ds ++ endT ds) := by
  unfold sh
  rw [PyData.shown]
  unfold tupleText
  rw [TL.tl_append, TL.tl_append, join_jl, sAll_len]
  have e1 : tl "(" = [40] := by decide +kernel
  have e2 : tl ",)" = [44, 41] := by decide +kernel
  have e3 : tl ")" = [41] := by decide +kernel
  unfold endT
  by_cases h : ds.length = 1
  · rw [if_pos h, if_pos (by simp [h]), e1, e2]
    simp
  · rw [if_neg h, if_neg (by simp [h]), e1, e3]
    simp
theorem sh_str {s : Str} (h : (tl s).all plC = true) : sh (.str s) = 39 :: (tl s ++ [39]) := by
  unfold sh
  rw [PyData.shown, repr_pl h]
def dgC (c : Nat) : Bool := decide (c = 45 ∨ 48 ≤ c ∧ c ≤ 57)
theorem sh_int_all (i : Int) : (sh (.int i)).all dgC = true := by
  unfold sh
  rw [PyData.shown, List.all_eq_true]
  intro c hc
  rw [TL.tl_ofString] at hc
  obtain ⟨ch, h1, rfl⟩ := List.mem_map.mp hc
  unfold dgC
  rw [decide_eq_true_eq]
  rcases PyProof.Rows.int_sign i ch h1 with h | h
  · exact .inr (PyProof.Rows.digit_range h)
  · rw [h]; exact .inl (by decide)
theorem toNat_inj {a b : Char} (h : a.toNat = b.toNat) : a = b := by
  apply Char.ext
  apply UInt32.toNat_inj.mp
  exact h
theorem map_toNat_inj : ∀ {a b : List Char}, a.map Char.toNat = b.map Char.toNat → a = b
  | [], [], _ => rfl
  | [], _ :: _, h => by cases h
  | _ :: _, [], h => by cases h
  | x :: a, y :: b, h => by
    rw [List.map_cons, List.map_cons] at h
    injection h with h1 h2
    rw [toNat_inj h1, map_toNat_inj h2]
theorem sh_int_inj {i j : Int} (h : sh (.int i) = sh (.int j)) : i = j := by
  unfold sh at h
  rw [PyData.shown, PyData.shown, TL.tl_ofString, TL.tl_ofString] at h
  have h2 := map_toNat_inj h
  have h3 : toString i = toString j := by
    apply String.toList_inj.mp
    exact h2
  exact Int.repr_injective h3
theorem sh_int_ne (i : Int) : ∃ c t, sh (.int i) = c :: t ∧ dgC c = true := by
  have ha := sh_int_all i
  cases h : sh (.int i) with
  | nil =>
    exfalso
    unfold sh at h
    rw [PyData.shown, TL.tl_ofString] at h
    have h2 : (toString i).toList = [] := List.map_eq_nil_iff.mp h
    rw [Int.toString_eq_repr, Int.repr_eq_if] at h2
    split at h2
    · rw [Nat.toList_repr] at h2
      exact Nat.toDigits_ne_nil h2
    · rw [String.toList_append] at h2
      exact absurd (List.append_eq_nil_iff.mp h2).1 (by decide)
  | cons c t =>
    rw [h, List.all_cons, Bool.and_eq_true] at ha
    exact ⟨c, t, rfl, ha.1⟩
/-- the kind of a thing, by the first sign that is shown of it -/
def kdD : PyData → Nat
  | .none => 0
  | .bool true => 1
  | .bool false => 2
  | .int _ => 3
  | .str _ => 4
  | .list _ => 5
  | .tuple _ => 6
  | .dict _ => 7
def kc (c : Nat) : Nat := if c = 78 then 0 else if c = 84 then 1 else if c = 70 then 2 else if c = 39 then 4 else if c = 91 then 5 else if c = 40 then 6 else 3
theorem kc_dg {c : Nat} (h : dgC c = true) : kc c = 3 := by
  unfold dgC at h
  rw [decide_eq_true_eq] at h
  unfold kc
  rw [if_neg (by omega), if_neg (by omega), if_neg (by omega), if_neg (by omega), if_neg (by omega), if_neg (by omega)]
theorem sh_none : sh .none = [78, 111, 110, 101] := by unfold sh; rw [PyData.shown]; decide +kernel
theorem sh_true : sh (.bool true) = [84, 114, 117, 101] := by unfold sh; rw [PyData.shown]; decide +kernel
theorem sh_false : sh (.bool false) = [70, 97, 108, 115, 101] := by unfold sh; rw [PyData.shown]; decide +kernel
theorem sh_hd : ∀ {d : PyData}, plD d = true → ∃ c t, sh d = c :: t ∧ kc c = kdD d ∧ c ≠ 41 ∧ c ≠ 93 ∧ c ≠ 44
  | .none, _ => ⟨_, _, sh_none, rfl, by decide, by decide, by decide⟩
  | .bool true, _ => ⟨_, _, sh_true, rfl, by decide, by decide, by decide⟩
  | .bool false, _ => ⟨_, _, sh_false, rfl, by decide, by decide, by decide⟩
  | .int i, _ => by
    obtain ⟨c, t, h1, h2⟩ := sh_int_ne i
    refine ⟨c, t, h1, kc_dg h2, ?_⟩
    unfold dgC at h2
    rw [decide_eq_true_eq] at h2
    omega
  | .str s, h => ⟨_, _, sh_str (by rw [plD] at h; exact h), rfl, by decide, by decide, by decide⟩
  | .list ds, _ => ⟨_, _, sh_list ds, rfl, by decide, by decide, by decide⟩
  | .tuple ds, _ => ⟨_, _, sh_tuple ds, rfl, by decide, by decide, by decide⟩
  | .dict kvs, h => by rw [plD] at h; cases h
def Stop (r : List Nat) : Prop := r = [] ∨ ∃ c t, r = c :: t ∧ (c = 44 ∨ c = 41 ∨ c = 93)
theorem cut_all {p : Nat → Bool} : ∀ {a b r s : List Nat}, a.all p = true → b.all p = true → (∀ c t, r = c :: t → p c = false) → (∀ c t, s = c :: t → p c = false) → a ++ r = b ++ s → a = b ∧ r = s
  | [], [], r, s, _, _, _, _, h => ⟨rfl, h⟩
  | [], y :: b, r, s, _, hb, hr, _, h => by
    rw [List.all_cons, Bool.and_eq_true] at hb
    have := hr y (b ++ s) h
    rw [hb.1] at this
    cases this
  | x :: a, [], r, s, ha, _, _, hs, h => by
    rw [List.all_cons, Bool.and_eq_true] at ha
    have := hs x (a ++ r) h.symm
    rw [ha.1] at this
    cases this
  | x :: a, y :: b, r, s, ha, hb, hr, hs, h => by
    rw [List.all_cons, Bool.and_eq_true] at ha hb
    rw [List.cons_append, List.cons_append] at h
    injection h with h1 h2
    obtain ⟨e1, e2⟩ := cut_all ha.2 hb.2 hr hs h2
    exact ⟨by rw [h1, e1], e2⟩
theorem Stop.dg {r : List Nat} (h : Stop r) : ∀ c t, r = c :: t → dgC c = false := by
  intro c t e
  rcases h with h | ⟨c', t', h, hc⟩
  · rw [h] at e; cases e
  · rw [h] at e
    injection e with e1 e2
    subst e1
    rcases hc with rfl | rfl | rfl <;> decide
def Ender (E : List Nat) : Prop := (∃ r, E = 44 :: 41 :: r) ∨ ∃ c r, E = c :: r ∧ (c = 41 ∨ c = 93)
theorem Ender.stop {E : List Nat} (h : Ender E) (ds : List PyData) : Stop (tlj ds ++ E) := by
  cases ds with
  | nil =>
    rcases h with ⟨r, rfl⟩ | ⟨c, r, rfl, hc⟩
    · exact .inr ⟨_, _, rfl, .inl rfl⟩
    · exact .inr ⟨_, _, rfl, .inr hc⟩
  | cons d ds => exact .inr ⟨_, _, rfl, .inl rfl⟩
theorem Ender.no32 {E : List Nat} (h : Ender E) (t : List Nat) : E ≠ 44 :: 32 :: t := by
  rcases h with ⟨r, rfl⟩ | ⟨c, r, rfl, hc⟩
  · intro e; injection e with _ e; injection e with e _; cases e
  · intro e; injection e with e _; omega
theorem endT_ender (ds : List PyData) (r : List Nat) : Ender (endT ds ++ r) := by
  unfold endT
  split
  · exact .inl ⟨r, rfl⟩
  · exact .inr ⟨41, r, rfl, .inl rfl⟩
theorem sh_kd {d e : PyData} (hd : plD d = true) (he : plD e = true) {r s : List Nat} (h : sh d ++ r = sh e ++ s) : kdD d = kdD e := by
  obtain ⟨c, t, h1, h2, _⟩ := sh_hd hd
  obtain ⟨c', t', h3, h4, _⟩ := sh_hd he
  rw [h1, h3, List.cons_append, List.cons_append] at h
  injection h with h _
  rw [← h2, ← h4, h]
theorem sh_inj0 {d e : PyData} (hd : plD d = true) (he : plD e = true) {r s : List Nat} (h : sh d ++ r = sh e ++ s) (hk : kdD d = kdD e → d = e) : d = e ∧ r = s := by
  have e1 := hk (sh_kd hd he h)
  subst e1
  exact ⟨rfl, List.append_cancel_left h⟩
mutual
theorem sh_inj : ∀ (d e : PyData), plD d = true → plD e = true → ∀ r s, Stop r → Stop s → sh d ++ r = sh e ++ s → d = e ∧ r = s
  | .none, e, hd, he, r, s, hr, hs, h => sh_inj0 hd he h (by intro hk; cases e with | none => rfl | bool b => cases b <;> cases hk | _ => cases hk)
  | .bool b, e, hd, he, r, s, hr, hs, h => sh_inj0 hd he h (by intro hk; cases e with | bool c => (cases b <;> cases c <;> first | rfl | cases hk) | _ => (cases b <;> cases hk))
  | .int i, e, hd, he, r, s, hr, hs, h => by
    have hk := sh_kd hd he h
    cases e with
    | int j =>
      obtain ⟨e1, e2⟩ := cut_all (sh_int_all i) (sh_int_all j) hr.dg hs.dg h
      exact ⟨by rw [sh_int_inj e1], e2⟩
    | bool c => cases c <;> cases hk
    | _ => cases hk
  | .str x, e, hd, he, r, s, hr, hs, h => by
    have hk := sh_kd hd he h
    cases e with
    | str y =>
      rw [plD] at hd he
      rw [sh_str hd, sh_str he, List.cons_append, List.cons_append, List.append_assoc, List.append_assoc] at h
      injection h with _ h
      have h39 : ∀ {z : Str}, (tl z).all plC = true → (tl z).all (fun c => decide (c ≠ 39)) = true := by
        intro z hz
        rw [List.all_eq_true] at hz ⊢
        intro c hc
        have := hz c hc
        unfold plC at this
        rw [decide_eq_true_eq] at this ⊢
        exact this.2.2.1
      obtain ⟨e1, e2⟩ := cut_all (h39 hd) (h39 he) (fun c t e => by injection e with e _; subst e; rfl) (fun c t e => by injection e with e _; subst e; rfl) h
      injection e2 with _ e2
      exact ⟨by rw [TL.ext_tl e1], e2⟩
    | bool c => cases c <;> cases hk
    | _ => cases hk
  | .list ds, e, hd, he, r, s, hr, hs, h => by
    have hk := sh_kd hd he h
    cases e with
    | list es =>
      rw [plD] at hd he
      rw [sh_list, sh_list, List.cons_append, List.cons_append, List.append_assoc, List.append_assoc] at h
      injection h with _ h
      obtain ⟨e1, e2⟩ := jl_inj ds es hd he _ _ (.inr ⟨93, r, rfl, .inr rfl⟩) (.inr ⟨93, s, rfl, .inr rfl⟩) h
      injection e2 with _ e2
      exact ⟨by rw [e1], e2⟩
    | bool c => cases c <;> cases hk
    | _ => cases hk
  | .tuple ds, e, hd, he, r, s, hr, hs, h => by
    have hk := sh_kd hd he h
    cases e with
    | tuple es =>
      rw [plD] at hd he
      rw [sh_tuple, sh_tuple, List.cons_append, List.cons_append, List.append_assoc, List.append_assoc] at h
      injection h with _ h
      obtain ⟨e1, e2⟩ := jl_inj ds es hd he _ _ (endT_ender ds r) (endT_ender es s) h
      subst e1
      exact ⟨rfl, List.append_cancel_left e2⟩
    | bool c => cases c <;> cases hk
    | _ => cases hk
  | .dict kvs, e, hd, he, r, s, hr, hs, h => by rw [plD] at hd; cases hd
theorem jl_inj : ∀ (ds es : List PyData), plAll ds = true → plAll es = true → ∀ E F, Ender E → Ender F → jl ds ++ E = jl es ++ F → ds = es ∧ E = F
  | [], [], _, _, E, F, _, _, h => ⟨rfl, h⟩
  | [], e :: es, _, he, E, F, hE, _, h => by
    rw [plAll, Bool.and_eq_true] at he
    obtain ⟨c, t, h1, _, h2, h3, h4⟩ := sh_hd he.1
    exfalso
    have h5 : E = c :: (t ++ tlj es ++ F) := by
      have : E = (sh e ++ tlj es) ++ F := h
      rw [h1] at this
      simpa using this
    rcases hE with ⟨r, e2⟩ | ⟨c', r, e2, hc⟩
    · rw [e2] at h5; injection h5 with h5 _; exact h4 h5.symm
    · rw [e2] at h5; injection h5 with h5 _; omega
  | d :: ds, [], hd, _, E, F, _, hF, h => by
    rw [plAll, Bool.and_eq_true] at hd
    obtain ⟨c, t, h1, _, h2, h3, h4⟩ := sh_hd hd.1
    exfalso
    have h5 : F = c :: (t ++ tlj ds ++ E) := by
      have : F = (sh d ++ tlj ds) ++ E := h.symm
      rw [h1] at this
      simpa using this
    rcases hF with ⟨r, e2⟩ | ⟨c', r, e2, hc⟩
    · rw [e2] at h5; injection h5 with h5 _; exact h4 h5.symm
    · rw [e2] at h5; injection h5 with h5 _; omega
  | d :: ds, e :: es, hd, he, E, F, hE, hF, h => by
    rw [plAll, Bool.and_eq_true] at hd he
    rw [jl, jl, List.append_assoc, List.append_assoc] at h
    obtain ⟨e1, e2⟩ := sh_inj d e hd.1 he.1 _ _ (hE.stop ds) (hF.stop es) h
    obtain ⟨e3, e4⟩ := tlj_inj ds es hd.2 he.2 E F hE hF e2
    exact ⟨by rw [e1, e3], e4⟩
theorem tlj_inj : ∀ (ds es : List PyData), plAll ds = true → plAll es = true → ∀ E F, Ender E → Ender F → tlj ds ++ E = tlj es ++ F → ds = es ∧ E = F
  | [], [], _, _, E, F, _, _, h => ⟨rfl, h⟩
  | [], e :: es, _, he, E, F, hE, _, h => absurd h (hE.no32 _)
  | d :: ds, [], hd, _, E, F, _, hF, h => absurd h.symm (hF.no32 _)
  | d :: ds, e :: es, hd, he, E, F, hE, hF, h => by
    rw [plAll, Bool.and_eq_true] at hd he
    rw [tlj, tlj, List.cons_append, List.cons_append, List.cons_append, List.cons_append, List.append_assoc, List.append_assoc] at h
    injection h with _ h
    injection h with _ h
    obtain ⟨e1, e2⟩ := sh_inj d e hd.1 he.1 _ _ (hE.stop ds) (hF.stop es) h
    obtain ⟨e3, e4⟩ := tlj_inj ds es hd.2 he.2 E F hE hF e2
    exact ⟨by rw [e1, e3], e4⟩
end
theorem shown_inj {d e : PyData} (hd : plD d = true) (he : plD e = true) (h : d.shown = e.shown) : d = e := (sh_inj d e hd he [] [] (.inl rfl) (.inl rfl) (by rw [List.append_nil, List.append_nil]; unfold sh; rw [h])).1

/-! ### (lines of p_k34e) nodes as data: what is shown of them -/
open TL (tl)
theorem spl_mem : ∀ (l acc : List Nat) (c : Nat), c ∈ acc ++ l → c = 46 ∨ ∃ p ∈ TL.spl [46] 0 acc l, c ∈ p
  | [], acc, c, h => .inr ⟨acc, by rw [TL.spl_nil]; simp, by rw [List.append_nil] at h; exact h⟩
  | x :: r, acc, c, h => by
    by_cases hx : TL.pre [46] (x :: r) = true
    · rw [TL.spl_hit hx]
      have hx46 : x = 46 := by
        simp [TL.pre] at hx
        first | exact hx.symm | exact hx
      rcases List.mem_append.mp h with h | h
      · exact .inr ⟨acc, List.mem_cons_self, h⟩
      · rcases List.mem_cons.mp h with rfl | h
        · exact .inl hx46
        · rcases spl_mem r [] c h with h | ⟨p, hp, hc⟩
          · exact .inl h
          · exact .inr ⟨p, List.mem_cons_of_mem _ hp, hc⟩
    · rw [TL.spl_miss (Bool.eq_false_iff.mpr hx)]
      exact spl_mem r (acc ++ [x]) c (by simpa using h)
theorem letC_pl {c : Nat} (h : letC c = true) : plC c = true := by
  unfold letC at h
  unfold plC
  rw [Bool.and_eq_true, decide_eq_true_eq, decide_eq_true_eq] at h
  rw [decide_eq_true_eq]
  omega
theorem isName_pl {s : Str} (h : isName s = true) : (tl s).all plC = true := by
  unfold isName at h
  rw [Bool.and_eq_true] at h
  rw [List.all_eq_true] at h ⊢
  exact fun c hc => letC_pl (h.2 c hc)
theorem goodN_pl {s : Str} (h : goodN s) : (tl s).all plC = true := by
  have hp := h.1
  unfold isPointed at hp
  rw [Bool.and_eq_true, List.all_eq_true] at hp
  rw [List.all_eq_true]
  intro c hc
  rcases spl_mem (tl s) [] c hc with rfl | ⟨p, hp2, hc2⟩
  · decide
  · have hm := TL.split_spl s "." (by decide +kernel) (TL.kind_ok (by decide +kernel))
    rw [show tl "." = [46] by decide +kernel] at hm
    rw [← hm] at hp2
    obtain ⟨t, ht, rfl⟩ := List.mem_map.mp hp2
    exact List.all_eq_true.mp (isName_pl (hp.2 t ht)) c hc2
theorem strs_pl {ns : List Str} (h : ∀ s ∈ ns, goodN s) : plD (strsD ns) = true := by
  unfold strsD
  rw [plD]
  refine plAll_of fun d hd => ?_
  obtain ⟨s, hs, rfl⟩ := List.mem_map.mp hd
  rw [plD]
  exact goodN_pl (h s hs)
theorem val_pl {v : V} (g : isVal v = true) : plD (valD v) = true := by
  cases v with
  | bl b => show plD (.bool b) = true; rw [plD]
  | int i => show plD (.int i) = true; rw [plD]
  | _ => exact absurd g Bool.false_ne_true
theorem ops_pl : ∀ op ∈ opsW, (tl op).all plC = true := by decide +kernel
theorem vword_pl (k : Nat) : (tl (vword k)).all plC = true := by
  rcases vword_in k with e | e | e <;> (rw [e]; decide +kernel)
theorem tm_pl : ∀ {t : Tm}, t.good → plD t.data = true
  | .nm s, g => by
    show plD (.tuple [.str "name", .str s]) = true
    simp only [plD, plAll, goodN_pl g, Bool.and_true]
    decide +kernel
  | .vl v, g => by
    show plD (.tuple [.str "value", valD v]) = true
    simp only [plD, plAll, val_pl g, Bool.and_true]
    decide +kernel
  | .two op a b, g => by
    show plD (.tuple [.str "two", .str op, a.data, b.data]) = true
    simp only [plD, plAll, ops_pl op g.1, tm_pl g.2.1, tm_pl g.2.2, Bool.and_true]
    decide +kernel
  | .nt a, g => by
    show plD (.tuple [.str "not", a.data]) = true
    simp only [plD, plAll, tm_pl (t := a) g, Bool.and_true]
    decide +kernel
  | .pk c a b, g => by
    show plD (.tuple [.str "pick", c.data, a.data, b.data]) = true
    simp only [plD, plAll, tm_pl g.1, tm_pl g.2.1, tm_pl g.2.2, Bool.and_true]
    decide +kernel
theorem row_pl {r : Rw} (g : r.good) : plD r.data = true := by
  cases r with
  | pl n t =>
    show plD (.tuple [.str "plain", .str n, t.data]) = true
    simp only [plD, plAll, goodN_pl g.1, tm_pl g.2.1, Bool.and_true]
    decide +kernel
  | vd k n v x =>
    show plD (.tuple [.str (vword k), .str n, valD v, .str x]) = true
    simp only [plD, plAll, vword_pl k, goodN_pl g.2.1, val_pl g.2.2.1, goodN_pl g.2.2.2, Bool.and_true]
  | wh n x y =>
    show plD (.tuple [.str "when", .str n, .str x, .str y]) = true
    simp only [plD, plAll, goodN_pl g.1, goodN_pl g.2.1, goodN_pl g.2.2, Bool.and_true]
    decide +kernel
  | sm ns =>
    show plD (.tuple [.str "same", strsD ns]) = true
    rw [plD, plAll, plAll, strs_pl g.2.2, plAll, plD]
    decide +kernel
  | cl os nd xs =>
    show plD (.tuple [.str "call", strsD os, .str nd, strsD xs]) = true
    rw [plD, plAll, plAll, plAll, plAll, plAll, strs_pl g.2.2.1, strs_pl g.2.2.2.2.2.2, plD, plD, isName_pl g.2.2.2.1.1]
    decide +kernel
/-! how great they are -/
theorem Tm.rp3 : ∀ {t : Tm}, t.good → RpOk t.dep (110 * 3 ^ t.dep - 10) t.data := by
  intro t
  induction t with
  | nm s =>
    intro g
    refine (rp_tup (rp_cons (ok_lit (n := 4) (by decide +kernel) (by decide +kernel)) (rp_cons (rp_str g.2.2) rp_nil))).mono (by show 0 + 1 ≤ 1; omega) ?_
    have := g.2.1
    show 4 + 1 + (s.length + 1 + 0) ≤ 110 * 3 ^ 1 - 10
    omega
  | vl v =>
    intro g
    exact (rp_tup (rp_cons (ok_lit (n := 5) (by decide +kernel) (by decide +kernel)) (rp_cons (rp_val g) rp_nil))).mono (by show 0 + 1 ≤ 1; omega) (by show 5 + 1 + (0 + 1 + 0) ≤ 110 * 3 ^ 1 - 10; omega)
  | two op a b iha ihb =>
    intro g
    have p1 : 3 ^ a.dep ≤ 3 ^ max a.dep b.dep := Nat.pow_le_pow_right (by decide) (by omega)
    have p2 : 3 ^ b.dep ≤ 3 ^ max a.dep b.dep := Nat.pow_le_pow_right (by decide) (by omega)
    have p3 : 1 ≤ 3 ^ max a.dep b.dep := Nat.one_le_pow _ _ (by decide)
    have e : 3 ^ (1 + max a.dep b.dep) = 3 * 3 ^ max a.dep b.dep := by rw [Nat.pow_add]
    refine (rp_tup (rp_cons (ok_lit (n := 4) (by decide +kernel) (by decide +kernel)) (rp_cons (ops_lit g.1) (rp_cons (iha g.2.1) (rp_cons (ihb g.2.2) rp_nil))))).mono ?_ ?_
    · show max 0 (max 0 (max a.dep (max b.dep 0))) + 1 ≤ 1 + max a.dep b.dep
      omega
    · show 4 + 1 + (5 + 1 + (110 * 3 ^ a.dep - 10 + 1 + (110 * 3 ^ b.dep - 10 + 1 + 0))) ≤ 110 * 3 ^ (1 + max a.dep b.dep) - 10
      rw [e]
      have q1 : 1 ≤ 3 ^ a.dep := Nat.one_le_pow _ _ (by decide)
      have q2 : 1 ≤ 3 ^ b.dep := Nat.one_le_pow _ _ (by decide)
      omega
  | nt a iha =>
    intro g
    have p3 : 1 ≤ 3 ^ a.dep := Nat.one_le_pow _ _ (by decide)
    have e : 3 ^ (1 + a.dep) = 3 * 3 ^ a.dep := by rw [Nat.pow_add]
    refine (rp_tup (rp_cons (ok_lit (n := 4) (by decide +kernel) (by decide +kernel)) (rp_cons (iha g) rp_nil))).mono ?_ ?_
    · show max 0 (max a.dep 0) + 1 ≤ 1 + a.dep
      omega
    · show 4 + 1 + (110 * 3 ^ a.dep - 10 + 1 + 0) ≤ 110 * 3 ^ (1 + a.dep) - 10
      rw [e]
      omega
  | pk c a b ihc iha ihb =>
    intro g
    have p0 : 3 ^ c.dep ≤ 3 ^ max (max c.dep a.dep) b.dep := Nat.pow_le_pow_right (by decide) (by omega)
    have p1 : 3 ^ a.dep ≤ 3 ^ max (max c.dep a.dep) b.dep := Nat.pow_le_pow_right (by decide) (by omega)
    have p2 : 3 ^ b.dep ≤ 3 ^ max (max c.dep a.dep) b.dep := Nat.pow_le_pow_right (by decide) (by omega)
    have q0 : 1 ≤ 3 ^ c.dep := Nat.one_le_pow _ _ (by decide)
    have q1 : 1 ≤ 3 ^ a.dep := Nat.one_le_pow _ _ (by decide)
    have q2 : 1 ≤ 3 ^ b.dep := Nat.one_le_pow _ _ (by decide)
    have e : 3 ^ (1 + max (max c.dep a.dep) b.dep) = 3 * 3 ^ max (max c.dep a.dep) b.dep := by rw [Nat.pow_add]
    refine (rp_tup (rp_cons (ok_lit (n := 4) (by decide +kernel) (by decide +kernel)) (rp_cons (ihc g.1) (rp_cons (iha g.2.1) (rp_cons (ihb g.2.2) rp_nil))))).mono ?_ ?_
    · show max 0 (max c.dep (max a.dep (max b.dep 0))) + 1 ≤ 1 + max (max c.dep a.dep) b.dep
      omega
    · show 4 + 1 + (110 * 3 ^ c.dep - 10 + 1 + (110 * 3 ^ a.dep - 10 + 1 + (110 * 3 ^ b.dep - 10 + 1 + 0))) ≤ 110 * 3 ^ (1 + max (max c.dep a.dep) b.dep) - 10
      rw [e]
      omega
theorem Rw.rp3 {r : Rw} (g : r.good) : RpOk 6 30000 r.data := by
  cases r with
  | pl n t =>
    have hB : 110 * 3 ^ t.dep - 10 ≤ 26720 := by
      have : 3 ^ t.dep ≤ 3 ^ 5 := Nat.pow_le_pow_right (by decide) g.2.2
      have e : (3 : Nat) ^ 5 = 243 := rfl
      omega
    have hd := g.2.2
    exact (rp_tup (rp_cons (ok_lit (n := 5) (by decide +kernel) (by decide +kernel)) (rp_cons (rp_N g.1) (rp_cons (Tm.rp3 g.2.1) rp_nil)))).mono (by omega) (by omega)
  | vd k n v x => exact (rp_tup (rp_cons (rp_vword k) (rp_cons (rp_N g.2.1) (rp_cons (rp_val g.2.2.1) (rp_cons (rp_N g.2.2.2) rp_nil))))).mono (by omega) (by omega)
  | wh n x y => exact (rp_tup (rp_cons (ok_lit (n := 5) (by decide +kernel) (by decide +kernel)) (rp_cons (rp_N g.1) (rp_cons (rp_N g.2.1) (rp_cons (rp_N g.2.2) rp_nil))))).mono (by omega) (by omega)
  | sm ns => exact (rp_tup (rp_cons (ok_lit (n := 5) (by decide +kernel) (by decide +kernel)) (rp_cons (rp_strs g.2.2 g.2.1) rp_nil))).mono (by omega) (by omega)
  | cl os nd xs => exact (rp_tup (rp_cons (ok_lit (n := 5) (by decide +kernel) (by decide +kernel)) (rp_cons (rp_strs g.2.2.1 g.2.1) (rp_cons ((rp_str g.2.2.2.1.2.2).mono (Nat.le_refl _) g.2.2.2.1.2.1) (rp_cons (rp_strs g.2.2.2.2.2.2 g.2.2.2.2.2.1) rp_nil))))).mono (by omega) (by omega)
theorem Rw.rpV {k : Nat} {n : Str} {v : V} {x : Str} (g : (Rw.vd k n v x).good) : RpOk 6 200 (Rw.vd k n v x).data := (rp_tup (rp_cons (rp_vword k) (rp_cons (rp_N g.2.1) (rp_cons (rp_val g.2.2.1) (rp_cons (rp_N g.2.2.2) rp_nil))))).mono (by omega) (by omega)
/-- the sum of what rows come to -/
def bulkR (rs : List Rw) : Nat := (rs.map fun r => r.data.bulk + 1).sum
theorem bulkR_app (a b : List Rw) : bulkR (a ++ b) = bulkR a + bulkR b := by unfold bulkR; rw [List.map_append, List.sum_append]
theorem bulkR_le {rs : List Rw} (h : ∀ r ∈ rs, r.good) : bulkR rs ≤ 30001 * rs.length := by
  induction rs with
  | nil => simp [bulkR]
  | cons r rs ih =>
    have h1 := ih fun z hz => h z (List.mem_cons_of_mem _ hz)
    have h2 := (Rw.rp3 (h r List.mem_cons_self)).2.2.2.2
    unfold bulkR at h1 ⊢
    rw [List.map_cons, List.sum_cons, List.length_cons, Nat.mul_succ]
    omega
theorem rp_rows {rs : List Rw} (h : ∀ r ∈ rs, r.good) : RpAll 6 (bulkR rs) (rs.map Rw.data) := by
  induction rs with
  | nil => exact ⟨rp_nil.1, rp_nil.2.1, rp_nil.2.2.1, Nat.le_trans rp_nil.2.2.2.1 (by decide), Nat.le_trans rp_nil.2.2.2.2 (Nat.zero_le _)⟩
  | cons r rs ih =>
    have hr := Rw.rp3 (h r List.mem_cons_self)
    obtain ⟨k1, k2, k3, k4, k5⟩ := rp_cons (B := r.data.bulk) ⟨hr.1, hr.2.1, hr.2.2.1, hr.2.2.2.1, Nat.le_refl _⟩ (ih fun z hz => h z (List.mem_cons_of_mem _ hz))
    refine ⟨k1, k2, k3, by simpa using k4, ?_⟩
    have e : bulkR (r :: rs) = r.data.bulk + 1 + bulkR rs := by unfold bulkR; rw [List.map_cons, List.sum_cons]
    rw [e]
    exact k5
theorem dp_rows {H : Hp} : ∀ {rs : List Rw} {us : List V}, (∀ r ∈ rs, r.good) → Paired (RowAt H) rs us → DpAll K H us (rs.map Rw.data)
  | [], _, _, .nil => .nil
  | r :: rs, _, hg, .cons h t => .cons (h.dp (hg r List.mem_cons_self)) (dp_rows (fun z hz => hg z (List.mem_cons_of_mem _ hz)) t)
/-- a node that is not too great to be shown -/
structure NdB (n : Nd) : Prop where
  g : n.good
  b : bulkR n.rows ≤ 900000
  i : n.ins.length ≤ 100
  o : n.outs.length ≤ 100
def Nd.dat (n : Nd) : PyData := .tuple [.str n.nm, strsD n.ins, strsD n.outs, .tuple (n.rows.map Rw.data)]
def Nd.ldat (n : Nd) : PyData := .list [.str n.nm, .list (n.ins.map PyData.str), .list (n.outs.map PyData.str), .list (n.rows.map Rw.data)]
theorem NdB.rows (h : NdB n) : ∀ r ∈ n.rows, r.good := fun r hr => (h.g.row r hr).1
theorem NdB.outs (h : NdB n) : ∀ s ∈ n.outs, goodN s := fun s hs => (h.g.outG s hs).1
theorem rp_strsL {ns : List Str} (h : ∀ s ∈ ns, goodN s) (hl : ns.length ≤ 100) : RpOk 1 8100 (.list (ns.map PyData.str)) := by
  have h1 : RpAll 0 ((ns.map PyData.str).length * (80 + 1)) (ns.map PyData.str) := rp_all fun d hd => by
    obtain ⟨s, hs, rfl⟩ := List.mem_map.mp hd
    exact rp_N (h s hs)
  rw [List.length_map] at h1
  exact (rp_lst h1).mono (Nat.le_refl _) (by omega)
theorem NdB.rp {n : Nd} (h : NdB n) : RpOk 8 1000000 n.dat := by
  have hb := h.b
  exact (rp_tup (rp_cons ((rp_str h.g.nm.2.2).mono (Nat.le_refl _) h.g.nm.2.1) (rp_cons (rp_strs h.g.inG h.i) (rp_cons (rp_strs h.outs h.o) (rp_cons (rp_tup (rp_rows h.rows)) rp_nil))))).mono (by omega) (by omega)
theorem NdB.rpl {n : Nd} (h : NdB n) : RpOk 8 1000000 n.ldat := by
  have hb := h.b
  exact (rp_lst (rp_cons ((rp_str h.g.nm.2.2).mono (Nat.le_refl _) h.g.nm.2.1) (rp_cons (rp_strsL h.g.inG h.i) (rp_cons (rp_strsL h.outs h.o) (rp_cons (rp_lst (rp_rows h.rows)) rp_nil))))).mono (by omega) (by omega)
theorem NdB.rpr {n : Nd} (h : NdB n) : RpOk 8 1000000 (.list (n.rows.map Rw.data)) := by
  have hb := h.b
  exact (rp_lst (rp_rows h.rows)).mono (by omega) (by omega)
theorem NdT.dp {H : Hp} {n : Nd} {u : V} (h : NdT H n u) (g : NdB n) : Dp K H u n.dat := by
  obtain ⟨a, p, q, t, us, rfl, h1, h2, h3, h4, h5⟩ := h
  exact .tup (SqT.of h1) (.cons (.str _) (.cons (.tup (SqT.of h2) dp_strs) (.cons (.tup (SqT.of h3) dp_strs) (.cons (.tup (SqT.of h4) (dp_rows g.rows h5)) .nil))))
theorem rows_pl {rs : List Rw} (h : ∀ r ∈ rs, r.good) : plAll (rs.map Rw.data) = true := plAll_of fun d hd => by
  obtain ⟨r, hr, rfl⟩ := List.mem_map.mp hd
  exact row_pl (h r hr)
theorem strL_pl {ns : List Str} (h : ∀ s ∈ ns, goodN s) : plAll (ns.map PyData.str) = true := by
  have := strs_pl h
  unfold strsD at this
  rw [plD] at this
  exact this
theorem NdB.pl {n : Nd} (h : NdB n) : plD n.dat = true := by
  unfold Nd.dat
  rw [plD, plAll, plAll, plAll, plAll, plAll, plD, strs_pl h.g.inG, strs_pl h.outs, plD, rows_pl h.rows, isName_pl h.g.nm.1]
  rfl
theorem NdB.pll {n : Nd} (h : NdB n) : plD n.ldat = true := by
  unfold Nd.ldat
  rw [plD, plAll, plAll, plAll, plAll, plAll, plD, plD, strL_pl h.g.inG, plD, strL_pl h.outs, plD, rows_pl h.rows, isName_pl h.g.nm.1]
  rfl
theorem dat_iff {n m : Nd} : n.dat = m.dat ↔ n.ldat = m.ldat := by
  unfold Nd.dat Nd.ldat strsD
  simp only [PyData.tuple.injEq, PyData.list.injEq, List.cons.injEq, and_true]
/-- shown alike just where alike -/
theorem shown_dat {n m : Nd} (h : NdB n) (k : NdB m) : decide (V.str n.dat.shown = V.str m.dat.shown) = true ↔ n.dat = m.dat := by
  rw [decide_eq_true_eq]
  exact ⟨fun z => shown_inj h.pl k.pl (V.str.inj z), fun z => by rw [z]⟩
theorem shown_ldat {n m : Nd} (h : NdB n) (k : NdB m) : decide (V.str n.ldat.shown = V.str m.ldat.shown) = true ↔ n.dat = m.dat := by
  rw [decide_eq_true_eq]
  exact ⟨fun z => dat_iff.mpr (shown_inj h.pll k.pll (V.str.inj z)), fun z => by rw [dat_iff.mp z]⟩

/-! ### what a program asks of nodes; the same node -/
open TL (tl)
theorem passN0 {X : Cx} : Passes (L2N.CX X.prog X.w) X E0 := fun _ _ _ _ _ _ _ ⟨_, _, _, _, _, _, _, _, _, _, _, _, h⟩ => h.elim
def spmN_inputs (Z : Adr) (C : Addr) : Sp := fun vs H Q _ => ∃ n v, vs = [v] ∧ NdAt Z H n v ∧ RetL (n.ins.map V.str) H Q
def spmN_outs (Z : Adr) (C : Addr) : Sp := fun vs H Q _ => ∃ n v, vs = [v] ∧ NdAt Z H n v ∧ RetL (n.outs.map V.str) H Q
def spmN_names (Z : Adr) (C : Addr) : Sp := fun vs H Q _ => ∃ n v, vs = [v] ∧ NdAt Z H n v ∧ RetL (n.names.map V.str) H Q
def spmN_rows (Z : Adr) (C : Addr) : Sp := fun vs H Q _ => ∃ n v, vs = [v] ∧ NdAt Z H n v ∧ ∀ l evs us H2, H l = none → Ex H H2 → H2 l = some (.lst evs) → Paired (fun r (q : V × V) => EqAt Z H2 r q.1 q.2) n.rows (evs.zip us) → evs.length = us.length → Q (.ref l) H2
theorem ok_Node_inputs (T : Txt K mg Z)  : FnOk P w K mg base CX0 (2) Z.f_Node_inputs Z.fd_Node_inputs ["self"] (spmN_inputs Z Z.c_Node) := by
  refine T.F_Node_inputs.ok sc_Node_inputs (fun vs H Q E h => ?_) (fun cdv AA outer s H vs Q E hr h => ?_)
  · obtain ⟨n, v, rfl, _⟩ := h
    rfl
  · obtain ⟨n, v, rfl, ⟨a, dx, li, lo, lr, td, evs, us, rfl, h1, h2, h3, h4, h5, h6, h7⟩, k⟩ := h
    obtain ⟨cN, nA⟩ := tcN T
    refine ⟨_, (pss_one (ps_ret (pe_callTy call_list_of (by rfl) T.n_list (by decide +kernel) (pa_cons (pe_fld (pv 0) (by rfl)) pa_nil)))), ?_⟩
    walk_at "ss"
    refine ⟨a, _, dx, _, _, rfl, h1, cN, nA _ (by simp), rfl, ?_⟩
    refine ⟨_, _, rfl, .inl (SqL.of h2), fun l hl => k l _ hl (Ex.new hl) upd_same⟩
theorem ok_Node_outs (T : Txt K mg Z)  : FnOk P w K mg base CX0 (2) Z.f_Node_outs Z.fd_Node_outs ["self"] (spmN_outs Z Z.c_Node) := by
  refine T.F_Node_outs.ok sc_Node_outs (fun vs H Q E h => ?_) (fun cdv AA outer s H vs Q E hr h => ?_)
  · obtain ⟨n, v, rfl, _⟩ := h
    rfl
  · obtain ⟨n, v, rfl, ⟨a, dx, li, lo, lr, td, evs, us, rfl, h1, h2, h3, h4, h5, h6, h7⟩, k⟩ := h
    obtain ⟨cN, nA⟩ := tcN T
    refine ⟨_, (pss_one (ps_ret (pe_callTy call_list_of (by rfl) T.n_list (by decide +kernel) (pa_cons (pe_fld (pv 0) (by rfl)) pa_nil)))), ?_⟩
    walk_at "ss"
    refine ⟨a, _, dx, _, _, rfl, h1, cN, nA _ (by simp), rfl, ?_⟩
    refine ⟨_, _, rfl, .inl (SqL.of h3), fun l hl => k l _ hl (Ex.new hl) upd_same⟩
theorem ok_Node_rows (T : Txt K mg Z)  : FnOk P w K mg base CX0 (2) Z.f_Node_rows Z.fd_Node_rows ["self"] (spmN_rows Z Z.c_Node) := by
  refine T.F_Node_rows.ok sc_Node_rows (fun vs H Q E h => ?_) (fun cdv AA outer s H vs Q E hr h => ?_)
  · obtain ⟨n, v, rfl, _⟩ := h
    rfl
  · obtain ⟨n, v, rfl, ⟨a, dx, li, lo, lr, td, evs, us, rfl, h1, h2, h3, h4, h5, h6, h7⟩, k⟩ := h
    obtain ⟨cN, nA⟩ := tcN T
    refine ⟨_, (pss_one (ps_ret (pe_callTy call_list_of (by rfl) T.n_list (by decide +kernel) (pa_cons (pe_fld (pv 0) (by rfl)) pa_nil)))), ?_⟩
    walk_at "ss"
    refine ⟨a, _, dx, _, _, rfl, h1, cN, nA _ (by simp), rfl, ?_⟩
    refine ⟨_, _, rfl, .inl (SqL.of h4), fun l hl => k l evs us _ hl (Ex.new hl) upd_same (paired_up (fun r q h => h.up (Ex.new hl)) h6) h7⟩
theorem ok_Node_names (T : Txt K mg Z)  : FnOk P w K mg base CX0 (2) Z.f_Node_names Z.fd_Node_names ["self"] (spmN_names Z Z.c_Node) := by
  refine T.F_Node_names.ok sc_Node_names (fun vs H Q E h => ?_) (fun cdv AA outer s H vs Q E hr h => ?_)
  · obtain ⟨n, v, rfl, _⟩ := h
    rfl
  · obtain ⟨n, v, rfl, ⟨a, dx, li, lo, lr, td, evs, us, rfl, h1, h2, h3, h4, h5, h6, h7⟩, k⟩ := h
    obtain ⟨cN, nA⟩ := tcN T
    have hlr : n.rows.length = evs.length := by have := paired_len h6; rw [List.length_zip, h7] at this; omega
    have hk : (telK n.ins n.rows evs).map (fun kv => kV kv.1) = n.names.map V.str := by
      have h := congrArg (List.map kV) (telK_keys (ins := n.ins) hlr)
      rw [List.map_map, List.map_map] at h
      exact h
    refine ⟨_, (pss_one (ps_ret (pe_callTy (call_listD rfl) (by rfl) T.n_list (by decide +kernel) (pa_cons (pe_fld (pv 0) (by rfl)) pa_nil)))), ?_⟩
    walk_at "ss"
    refine ⟨a, _, dx, _, _, rfl, h1, cN, nA _ (by simp), rfl, ?_⟩
    refine ⟨td, _, rfl, .inl h5, fun l hl => k l _ hl (Ex.new hl) (by rw [← hk]; exact upd_same)⟩
theorem gmN_inputs (T : Txt K mg Z) : ∀ C, MCN Z C → MOk P w K mg base CX0 2 C "inputs" (spmN_inputs Z C) := by
  rintro C rfl
  exact ⟨(tcB_ok T.x_Node).cl, _, _, _, ⟨T.h_inputs_Node, T.y_Node_inputs, T.F_Node_inputs.kp⟩, ok_Node_inputs (P := P) (w := w) (base := base) T, T.b_Node_inputs⟩
theorem gmN_outs (T : Txt K mg Z) : ∀ C, MCN Z C → MOk P w K mg base CX0 2 C "outs" (spmN_outs Z C) := by
  rintro C rfl
  exact ⟨(tcB_ok T.x_Node).cl, _, _, _, ⟨T.h_outs_Node, T.y_Node_outs, T.F_Node_outs.kp⟩, ok_Node_outs (P := P) (w := w) (base := base) T, T.b_Node_outs⟩
theorem gmN_names (T : Txt K mg Z) : ∀ C, MCN Z C → MOk P w K mg base CX0 2 C "names" (spmN_names Z C) := by
  rintro C rfl
  exact ⟨(tcB_ok T.x_Node).cl, _, _, _, ⟨T.h_names_Node, T.y_Node_names, T.F_Node_names.kp⟩, ok_Node_names (P := P) (w := w) (base := base) T, T.b_Node_names⟩
theorem gmN_rows (T : Txt K mg Z) : ∀ C, MCN Z C → MOk P w K mg base CX0 2 C "rows" (spmN_rows Z C) := by
  rintro C rfl
  exact ⟨(tcB_ok T.x_Node).cl, _, _, _, ⟨T.h_rows_Node, T.y_Node_rows, T.F_Node_rows.kp⟩, ok_Node_rows (P := P) (w := w) (base := base) T, T.b_Node_rows⟩
/-! the same node -/
def sp_same_node (Z : Adr) : Sp := fun vs H Q _ => ∃ (n m : Nd) (v u : V), vs = [v, u] ∧ NdAt Z H n v ∧ NdAt Z H m u ∧ NdB n ∧ NdB m ∧ ∀ b : Bool, (b = true ↔ n.dat = m.dat) → ∀ H2, Ex H H2 → Q (.bl b) H2
theorem ok_same_node (T : Txt K mg Z)  : FnG P w K mg base CX0 (8) Z.f_same_node Z.fd_same_node ["one", "other"] (sp_same_node Z) := by
  refine T.F_same_node.okG sc_same_node (fun vs H Q E h => ?_) (fun cdv AA outer s H vs Q E hgd hr h => ?_)
  · obtain ⟨n, m, v, u, rfl, _⟩ := h
    rfl
  · obtain ⟨n, m, v, u, rfl, hn, hm, bn, bm, k⟩ := h
    have GMN_told := gmN_told (P := P) (w := w) (base := base) T
    obtain ⟨a, dx, fs, rfl, ha, la⟩ : ∃ a dx fs, v = .ref a ∧ H a = some (.ins Z.c_Node dx fs) ∧ fs.lookup ("told" : Str) = none := by
      obtain ⟨a, dx, li, lo, lr, td, evs, us, rfl, h1, _⟩ := hn
      exact ⟨a, dx, _, rfl, h1, rfl⟩
    obtain ⟨a2, dx2, fs2, rfl, ha2, la2⟩ : ∃ a dx fs, u = .ref a ∧ H a = some (.ins Z.c_Node dx fs) ∧ fs.lookup ("told" : Str) = none := by
      obtain ⟨a, dx, li, lo, lr, td, evs, us, rfl, h1, _⟩ := hm
      exact ⟨a, dx, _, rfl, h1, rfl⟩
    refine ⟨_, (pss_one (ps_ret (pe_cmpR op_eq (pe_callB (call_reprD hgd hr) (by rfl) T.n_repr (by decide +kernel) (pa_cons (pe_methP0 (pv 0) GMN_told (hr.mono (by omega)) pass0) pa_nil)) (pe_callB (call_reprD hgd hr) (by rfl) T.n_repr (by decide +kernel) (pa_cons (pe_methP0 (pv 1) GMN_told (hr.mono (by omega)) pass0) pa_nil)) (nomark _)))), ?_⟩
    walk_at "ss"
    refine ⟨a, _, dx, fs, rfl, ha, rfl, la, ?_⟩
    walk_at "ss"
    refine ⟨n, _, rfl, hn, bn.g, fun t1 H1 e1 ht1 => ?_⟩
    walk_at "ss"
    obtain ⟨q1, _, _, _, _, rfl, _⟩ := id ht1
    refine c_repr (ht1.dp bn) bn.rp ?_ (by decide) (by decide)
    walk_at "ss"
    refine ⟨a2, _, dx2, fs2, rfl, e1 _ _ ha2, rfl, la2, ?_⟩
    walk_at "ss"
    refine ⟨m, _, rfl, hm.up e1, bm.g, fun t2 H2 e2 ht2 => ?_⟩
    walk_at "ss"
    obtain ⟨q2, _, _, _, _, rfl, _⟩ := id ht2
    refine c_repr (ht2.dp bm) bm.rp ?_ (by decide) (by decide)
    walk_at "ss"
    exact k _ (shown_dat bn bm) _ (e1.trans e2)

def RfE (C : Addr) (s : Str) (H : Hp) (E : XK) : Prop := ∀ x H2, H x = none → Ex H H2 → H2 x = some (.xd [("name", .str s)]) → E (.ref C) (some x) H2
theorem RfE.up {C : Addr} {s : Str} {H G : Hp} {E : XK} (h : RfE C s H E) (e : Ex H G) : RfE C s G E := fun x H2 hx e2 h2 => h x H2 (fresh_back e hx) (e.trans e2) h2

/-! ### programs in the making -/
open TL (tl)
theorem raise2 {H : Hp} {C : Addr} {f g : Str} {W : XK} {u v : V} (k : ∀ d H2, H d = none → Ex H H2 → H2 d = some (.xd [(g, v), (f, u)]) → W (.ref C) (some d) H2) : RaP C (sp_err2 C f g) [u, v] H W := by
  refine ⟨by simp, fun a ha => ⟨a, u, v, rfl, upd_same, fun d H2 hd nda hk h2a h2d => ⟨rfl, d, _, h2a, h2d, ?_, k d _ ?_ (fun b o hb => ?_) upd_same⟩⟩⟩
  · rw [upd_ne nda] at hd; exact hd
  · rw [upd_ne nda] at hd; exact hd
  · have nba : b ≠ a := ne_of_none hb ha
    have nbd : b ≠ d := by
      rw [upd_ne nda] at hd
      exact ne_of_none hb hd
    rw [upd_ne nbd, del_ne nba, hk b nba nbd, upd_ne nba]
    exact hb
/-- the dict of nodes by name -/
def pgK : List Nd → List V → List (Key × V)
  | n :: ns, v :: vs => ((.inr n.nm : Key), v) :: pgK ns vs
  | _, _ => []
theorem pgK_len : ∀ {ns : List Nd} {vs : List V}, (pgK ns vs).length ≤ ns.length
  | [], _ => by simp [pgK]
  | _ :: _, [] => by simp [pgK]
  | n :: ns, v :: vs => by
    have := pgK_len (ns := ns) (vs := vs)
    simp only [pgK, List.length_cons]
    omega
theorem pgK_keys : ∀ {ns : List Nd} {vs : List V}, ns.length = vs.length → (pgK ns vs).map (·.1) = (ns.map Nd.nm).map (Sum.inr : Str → Key)
  | [], [], _ => rfl
  | n :: ns, v :: vs, h => by
    simp only [pgK, List.map_cons]
    rw [pgK_keys (by simpa using h)]
  | [], _ :: _, h => by cases h
  | _ :: _, [], h => by cases h
theorem pgK_snoc : ∀ {ns : List Nd} {vs : List V} {n : Nd} {v : V}, ns.length = vs.length → pgK (ns ++ [n]) (vs ++ [v]) = pgK ns vs ++ [((.inr n.nm : Key), v)]
  | [], [], _, _, _ => rfl
  | m :: ns, u :: vs, n, v, h => by
    simp only [pgK, List.cons_append]
    rw [pgK_snoc (by simpa using h)]
  | [], _ :: _, _, _, h => by cases h
  | _ :: _, [], _, _, h => by cases h
/-- the node of that name -/
def fndN (ns : List Nd) (s : Str) : Option Nd := ns.find? fun n => decide (n.nm = s)
theorem pgK_none {ns : List Nd} {vs : List V} {s : Str} (hl : ns.length = vs.length) (h : fndN ns s = none) : valV (pgK ns vs) (.inr s) = none := by
  refine valV_nokey (pgK_keys hl) fun hm => ?_
  obtain ⟨n, hn, e⟩ := List.mem_map.mp hm
  have := List.find?_eq_none.mp h n hn
  rw [decide_eq_true e] at this
  exact this rfl
theorem pgK_some {F : Nd → V → Prop} : ∀ {ns : List Nd} {vs : List V} {s : Str} {n : Nd}, Paired F ns vs → fndN ns s = some n → ∃ v, valV (pgK ns vs) (.inr s) = some v ∧ F n v
  | _, _, _, _, .nil, h => by cases h
  | m :: ns, v :: vs, s, n, .cons p q, h => by
    unfold fndN at h
    rw [List.find?_cons] at h
    by_cases e : m.nm = s
    · rw [decide_eq_true e] at h
      cases h
      exact ⟨v, valV_pos (by rw [e]), p⟩
    · rw [decide_eq_false e] at h
      obtain ⟨u, h1, h2⟩ := pgK_some (s := s) q h
      exact ⟨u, by show valV (((.inr m.nm : Key), v) :: pgK ns vs) _ = _; rw [valV_neg (fun z => e (Sum.inr.inj z))]; exact h1, h2⟩
theorem fnd_mem {ns : List Nd} {s : Str} {n : Nd} (h : fndN ns s = some n) : n ∈ ns ∧ n.nm = s := ⟨List.mem_of_find?_eq_some h, of_decide_eq_true (by have := List.find?_some h; exact this)⟩
/-- what is wrong about a call, by the nodes known -/
def callBad (ns : List Nd) : Rw → Option (Str × Option Nat)
  | .cl os nd xs => match fndN ns nd with
    | none => some (nd, none)
    | some m => if xs.length ≠ m.ins.length then some (nd, some xs.length) else if os.length ≠ m.outs.length then some (nd, some os.length) else none
  | _ => none
def nodeBad (ns : List Nd) (n : Nd) : Option (Str × Option Nat) := n.rows.findSome? (callBad ns)
theorem find_at {α β : Type} {f : α → Option β} : ∀ {l : List α} {i : Nat} {a : α} {b : β}, l[i]? = some a → (∀ (j : Nat) (c : α), j < i → l[j]? = some c → f c = none) → f a = some b → l.findSome? f = some b
  | [], i, a, b, h, _, _ => by simp at h
  | x :: l, 0, a, b, h, _, hf => by
    have e : x = a := by simpa using h
    subst e
    rw [List.findSome?_cons, hf]
  | x :: l, i + 1, a, b, h, hb, hf => by
    rw [List.findSome?_cons, hb 0 x (by omega) rfl]
    exact find_at (i := i) (by simpa using h) (fun j c hj hc => hb (j + 1) c (by omega) (by simpa using hc)) hf
theorem find_no {α β : Type} {f : α → Option β} : ∀ {l : List α}, (∀ (j : Nat) (c : α), l[j]? = some c → f c = none) → l.findSome? f = none
  | [], _ => rfl
  | x :: l, hb => by
    rw [List.findSome?_cons, hb 0 x rfl]
    exact find_no fun j c hc => hb (j + 1) c (by simpa using hc)
def ArE (Z : Adr) (s : Str) (k : Nat) (H : Hp) (E : XK) : Prop := ∀ x H2, H x = none → Ex H H2 → H2 x = some (.xd [("many", .int (k : Nat)), ("name", .str s)]) → E (.ref Z.c_NoArgs) (some x) H2
theorem ArE.up {s : Str} {k : Nat} {H G : Hp} {E : XK} (h : ArE Z s k H E) (e : Ex H G) : ArE Z s k G E := fun x H2 hx e2 g => h x H2 (fresh_back e hx) (e.trans e2) g
/-- nothing is wrong, or this -/
def Bad (Z : Adr) (o : Option (Str × Option Nat)) (H : Hp) (E : XK) (A : Prop) : Prop := match o with
  | none => A
  | some (s, none) => RfE Z.c_NoCall s H E
  | some (s, some k) => ArE Z s k H E
theorem Bad.up {o : Option (Str × Option Nat)} {H G : Hp} {E : XK} {A B : Prop} (h : Bad Z o H E A) (e : Ex H G) (k : A → B) : Bad Z o G E B := by
  match o with
  | none => exact k h
  | some (s, none) => exact RfE.up h e
  | some (s, some j) => exact ArE.up h e
/-- no dot in a name -/
def NoDot (n : Nd) : Prop := ∀ s ∈ n.names, (46 : Nat) ∉ s.cps.toList
theorem re_is_call {r : Rw} {v u : V} {H : Hp} {Q : VK} (q : Q (.bl (decide (r.kind = 6))) H) : Re_is_call r v u H Q := q
def sp_need_calls (Z : Adr) : Sp := fun vs H Q E => ∃ (td : Addr) (ns : List Nd) (us : List V) (n : Nd) (v : V), vs = [.ref td, v] ∧ H td = some (.dK (pgK ns us)) ∧ Paired (NdAt Z H) ns us ∧ NdAt Z H n v ∧ n.good ∧ NoDot n ∧ Bad Z (nodeBad ns n) H E (RetV .non H Q)
theorem okX_need_calls (T : Txt K mg Z) : FnOk P w K mg base (L2N.CX P w) 40 Z.f_need_calls Z.fd_need_calls ["known", "node"] (sp_need_calls Z) := by
  have G_NoName_init := ok_NoName_init (P := P) (w := w) (base := base) T
  have G_NoCall_init := ok_NoCall_init (P := P) (w := w) (base := base) T
  have G_NoArgs_init := ok_NoArgs_init (P := P) (w := w) (base := base) T
  refine T.F_need_calls.okN sc_need_calls (fun vs H Q E h => ?_) (fun cdv AA outer s H vs Q E hr h => ?_)
  · obtain ⟨td, ns, us, n, v, rfl, _⟩ := h
    rfl
  · obtain ⟨td, ns, us, n, v, rfl, gtd, hns, hN, hg, hdot, k⟩ := h
    have GMN_names := gmN_names (P := P) (w := w) (base := base) T
    have GMN_rows := gmN_rows (P := P) (w := w) (base := base) T
    have GMN_inputs := gmN_inputs (P := P) (w := w) (base := base) T
    have GMN_outs := gmN_outs (P := P) (w := w) (base := base) T
    have GME_is_call := gmE_is_call (P := P) (w := w) (base := base) T
    have GME_told := gmE_told (P := P) (w := w) (base := base) T
    refine ⟨_, (Evl.pss_cut (ps_for (passes_of rfl) rfl (pi_list (pe_methP0 (pv 1) GMN_names (hr.mono (by omega)) pass0)) (pg_name (i := 2) sc_need_calls.nd rfl (Or.inl rfl)) (pss_one (ps_if (pt_cmpR op_in_sign pe_str (pv 2) (by rfl)) (pss_one (L2N.ps_raise rfl (L2N.takes_of rfl rfl rfl rfl) (pmkN_oex (exB_ok T.x_NoName).ox T.i_NoName T.y_NoName G_NoName_init (hr.mono (by omega)) T.b_NoName_init .nil pass0 rfl T.m_NoName (pa_cons (pv 2) pa_nil)))) pss_nil)))
      (pss_one (ps_for (passes_of rfl) rfl (pi_list (pe_methP0 (pv 1) GMN_rows (hr.mono (by omega)) pass0)) (pg_name (i := 3) sc_need_calls.nd rfl (Or.inl rfl)) (pss_one (ps_if (pt_truth (pe_methP0 (pv 3) GME_is_call (hr.mono (by omega)) pass0) (by intro _; rfl)) (pss_cons (ps_asg (pe_methP0 (pv 3) GME_told (hr.mono (by omega)) pass0) (pg_tup (by rfl) (pgs_cons (pg_name (i := 4) sc_need_calls.nd rfl (Or.inl rfl)) (pgs_cons (pg_name (i := 5) sc_need_calls.nd rfl (Or.inl rfl)) (pgs_cons (pg_name (i := 6) sc_need_calls.nd rfl (Or.inl rfl)) (pgs_cons (pg_name (i := 7) sc_need_calls.nd rfl (Or.inl rfl)) pgs_nil))))))
      (pss_cons (ps_if (pt_cmpR (op_notInDk (hu_of hr)) (pv 6) (pv 0) (by rfl)) (pss_one (L2N.ps_raise rfl (L2N.takes_of rfl rfl rfl rfl) (pmkN_oex (exB_ok T.x_NoCall).ox T.i_NoCall T.y_NoCall G_NoCall_init (hr.mono (by omega)) T.b_NoCall_init .nil pass0 rfl T.m_NoCall (pa_cons (pv 6) pa_nil)))) pss_nil)
      (pss_cons (ps_if (pt_cmpR op_ne (pe_callB call_len_seq (by rfl) T.n_len (by decide +kernel) (pa_cons (pv 7) pa_nil)) (pe_callB call_len_seq (by rfl) T.n_len (by decide +kernel) (pa_cons (pe_methP0 (pe_dget (hu_of hr) (pv 0) (pv 6) (fun _ _ => rfl)) GMN_inputs (hr.mono (by omega)) pass0) pa_nil)) (nomark _)) (pss_one (L2N.ps_raise rfl (L2N.takes_of rfl rfl rfl rfl) (pmkN_oex (exB_ok T.x_NoArgs).ox T.i_NoArgs T.y_NoArgs G_NoArgs_init (hr.mono (by omega)) T.b_NoArgs_init .nil pass0 rfl T.m_NoArgs (pa_cons (pv 6) (pa_cons (pe_callB call_len_seq (by rfl) T.n_len (by decide +kernel) (pa_cons (pv 7) pa_nil)) pa_nil))))) pss_nil)
      (pss_one (ps_if (pt_cmpR op_ne (pe_callB call_len_seq (by rfl) T.n_len (by decide +kernel) (pa_cons (pv 5) pa_nil)) (pe_callB call_len_seq (by rfl) T.n_len (by decide +kernel) (pa_cons (pe_methP0 (pe_dget (hu_of hr) (pv 0) (pv 6) (fun _ _ => rfl)) GMN_outs (hr.mono (by omega)) pass0) pa_nil)) (nomark _)) (pss_one (L2N.ps_raise rfl (L2N.takes_of rfl rfl rfl rfl) (pmkN_oex (exB_ok T.x_NoArgs).ox T.i_NoArgs T.y_NoArgs G_NoArgs_init (hr.mono (by omega)) T.b_NoArgs_init .nil pass0 rfl T.m_NoArgs (pa_cons (pv 6) (pa_cons (pe_callB call_len_seq (by rfl) T.n_len (by decide +kernel) (pa_cons (pv 5) pa_nil)) pa_nil))))) pss_nil))))) pss_nil))))), ?_⟩
    obtain ⟨a, dx, fs, rfl, ha, la, lb⟩ : ∃ a dx fs, v = .ref a ∧ H a = some (.ins Z.c_Node dx fs) ∧ fs.lookup ("names" : Str) = none ∧ fs.lookup ("rows" : Str) = none := by
      obtain ⟨a, dx, li, lo, lr, td, evs, us, rfl, h1, _⟩ := hN
      exact ⟨a, dx, _, rfl, h1, rfl, rfl⟩
    walk_at "ss"
    refine c_cut (M := fun σ' G => (∃ v2 v3 v4 v5 v6 v7, σ' = [some (.ref td), some (.ref a), v2, v3, v4, v5, v6, v7]) ∧ Ex H G) ?_ ?_
    · walk_at "ss"
      refine ⟨a, _, dx, fs, rfl, ha, rfl, la, ?_⟩
      walk_at "ss"
      refine ⟨n, _, rfl, hN, fun l H1 hl e1 g1 => ?_⟩
      walk_at "ss"
      refine ⟨⟨_, SqL.of g1⟩, forL (xs := n.names.map V.str) (fun i σ' G => (∃ v2, σ' = [some (.ref td), some (.ref a), v2, none, none, none, none, none]) ∧ Ex H1 G) ⟨⟨_, rfl⟩, Ex.refl _⟩ (fun i σ' G _ q => SqL.of (q.2 _ _ g1)) ?_ ?_⟩
      · rintro i x σ' G hx ⟨⟨v2, rfl⟩, eG⟩
        rw [List.getElem?_map] at hx
        obtain ⟨s, hs, rfl⟩ := Option.map_eq_some_iff.mp hx
        walk_at "ss"
        refine if_ff (decide_eq_false (hdot s (List.mem_of_getElem? hs))) ?_
        walk_at "ss"
        exact ⟨⟨_, rfl⟩, eG⟩
      · rintro σ' G ⟨⟨v2, rfl⟩, eG⟩
        walk_at "ss"
        exact ⟨⟨_, _, _, _, _, _, rfl⟩, e1.trans eG⟩
    · rintro σ' G0 ⟨⟨v2, v3, v4, v5, v6, v7, rfl⟩, e0⟩
      walk_at "ss"
      refine ⟨a, _, dx, fs, rfl, e0 _ _ ha, rfl, lb, ?_⟩
      walk_at "ss"
      refine ⟨n, _, rfl, hN.up e0, fun l evs us2 H1 hl e1 g1 hev hel => ?_⟩
      have hlr : n.rows.length = evs.length := by have := paired_len hev; rw [List.length_zip, hel] at this; omega
      have e01 := e0.trans e1
      walk_at "ss"
      refine ⟨⟨_, SqL.of g1⟩, forL (xs := evs) (fun i σ' G => (∃ v2 v3 v4 v5 v6 v7, σ' = [some (.ref td), some (.ref a), v2, v3, v4, v5, v6, v7]) ∧ Ex H1 G ∧ ∀ (j : Nat) (r : Rw), j < i → n.rows[j]? = some r → callBad ns r = none) ⟨⟨_, _, _, _, _, _, rfl⟩, Ex.refl _, fun j r h => absurd h (by omega)⟩ (fun i σ' G _ q => SqL.of (q.2.1 _ _ g1)) ?_ ?_⟩
      · rintro i x σ' G hv ⟨⟨v2, v3, v4, v5, v6, v7, rfl⟩, eG, hbf⟩
        have hil := (List.getElem?_eq_some_iff.mp hv).1
        have hz : (evs.zip us2)[i]? = some (x, us2[i]'(by omega)) := by
          rw [List.getElem?_zip_eq_some]
          exact ⟨hv, List.getElem?_eq_getElem (by omega)⟩
        obtain ⟨r, hr2, hE1⟩ := paired_ix hev hz
        have hE : EqAt Z G r x _ := hE1.up eG
        have hgr := (hg.row r (List.mem_of_getElem? hr2)).1
        have eHG := e01.trans eG
        obtain ⟨a2, dx2, fs2, rfl, ha2, hM2, o1, o2, o3, o4, o5⟩ := hE.cls
        have fin : callBad ns r = none → ∀ (j : Nat) (r' : Rw), j < i + 1 → n.rows[j]? = some r' → callBad ns r' = none := by
          intro hb j r' hj hr'
          rcases Nat.lt_succ_iff_lt_or_eq.mp hj with h | h
          · exact hbf j r' h hr'
          · subst h
            rw [hr2] at hr'
            cases hr'
            exact hb
        walk_at "ss"
        refine ⟨a2, _, dx2, fs2, rfl, ha2, hM2, o5, ?_⟩
        walk_at "ss"
        refine ⟨r, _, _, rfl, hE, hgr, rfl, re_is_call ?_⟩
        by_cases hk : r.kind = 6
        · rw [decide_eq_true hk]
          obtain ⟨os, nd, xs, rfl⟩ := kind_cl hk
          have hE0 := hE
          obtain ⟨_, _, _, _, _, hrow, _⟩ := hE0
          obtain ⟨b, p, q, hub, hb, hp, hq⟩ := hrow
          refine ⟨_, rfl, ?_⟩
          walk_at "ss"
          refine ⟨a2, _, dx2, fs2, rfl, ha2, hM2, o1, ?_⟩
          walk_at "ss"
          refine ⟨_, _, _, rfl, hE, hgr, rfl, re_told ?_⟩
          rw [hub]
          refine c_gTup (SqT.of hb) rfl ?_
          walk_at "ss"
          refine ⟨td, _, rfl, dgetK (eHG _ _ gtd), ?_⟩
          have hnl := paired_len hns
          cases hf : fndN ns nd with
          | none =>
            rw [pgK_none hnl hf]
            walk_at "ss"
            refine if_tt rfl ?_
            walk_at "ss"
            have hB : callBad ns (.cl os nd xs) = some (nd, none) := by
              show (match fndN ns nd with
                | none => some (nd, none)
                | some m => _) = _
              rw [hf]
            rw [show nodeBad ns n = _ from find_at hr2 hbf hB] at k
            exact raise1 fun x H4 hx4 e4 g4 => RfE.up k eHG x H4 hx4 e4 g4
          | some m =>
            obtain ⟨mv, hmv, hmN⟩ := pgK_some hns hf
            have hmN2 := hmN.up eHG
            obtain ⟨am, dxm, fsm, rfl, ham, lm1, lm2⟩ : ∃ a dx fs, mv = .ref a ∧ G a = some (.ins Z.c_Node dx fs) ∧ fs.lookup ("inputs" : Str) = none ∧ fs.lookup ("outs" : Str) = none := by
              obtain ⟨a, dx, li, lo, lr, td, evs, us, rfl, h1, _⟩ := hmN2
              exact ⟨a, dx, _, rfl, h1, rfl, rfl⟩
            rw [hmv]
            walk_at "ss"
            refine if_ff rfl ?_
            walk_at "ss"
            have hcb : callBad ns (.cl os nd xs) = (if xs.length ≠ m.ins.length then some (nd, some xs.length) else if os.length ≠ m.outs.length then some (nd, some os.length) else none) := by
              show (match fndN ns nd with
                | none => some (nd, none)
                | some m => if xs.length ≠ m.ins.length then some (nd, some xs.length) else if os.length ≠ m.outs.length then some (nd, some os.length) else none) = _
              rw [hf]
            refine ⟨q, _, rfl, .inr (SqT.of hq), ?_⟩
            walk_at "ss"
            refine ⟨td, _, rfl, by rw [← hmv]; exact dgetK (eHG _ _ gtd), ?_⟩
            refine ⟨am, _, dxm, fsm, rfl, ham, rfl, lm1, ?_⟩
            walk_at "ss"
            refine ⟨m, _, rfl, hmN2, fun l3 G3 hl3 e3 g3 => ?_⟩
            walk_at "ss"
            refine ⟨l3, _, rfl, .inl (SqL.of g3), ?_⟩
            walk_at "ss"
            have l1 : (xs.map V.str).length = xs.length := List.length_map _
            have l2 : (m.ins.map V.str).length = m.ins.length := List.length_map _
            have l3' : (os.map V.str).length = os.length := List.length_map _
            have l4 : (m.outs.map V.str).length = m.outs.length := List.length_map _
            rw [l1, l2]
            refine if_cs (fun hc => ?_) (fun hc => ?_)
            · have hne : xs.length ≠ m.ins.length := fun e => by simp [e] at hc
              rw [if_pos hne] at hcb
              rw [show nodeBad ns n = _ from find_at hr2 hbf hcb] at k
              walk_at "ss"
              refine ⟨q, _, rfl, .inr (SqT.of (e3 _ _ hq)), ?_⟩
              rw [l1]
              exact raise2 fun x H4 hx4 e4 g4 => ArE.up k (eHG.trans e3) x H4 hx4 e4 g4
            have heq : xs.length = m.ins.length := by simp at hc; omega
            rw [if_neg (fun z => z heq)] at hcb
            walk_at "ss"
            refine ⟨p, _, rfl, .inr (SqT.of (e3 _ _ hp)), ?_⟩
            walk_at "ss"
            refine ⟨td, _, rfl, by rw [← hmv]; exact dgetK ((eHG.trans e3) _ _ gtd), ?_⟩
            refine ⟨am, _, dxm, fsm, rfl, e3 _ _ ham, rfl, lm2, ?_⟩
            walk_at "ss"
            refine ⟨m, _, rfl, hmN2.up e3, fun l5 G5 hl5 e5 g5 => ?_⟩
            walk_at "ss"
            refine ⟨l5, _, rfl, .inl (SqL.of g5), ?_⟩
            walk_at "ss"
            rw [l3', l4]
            refine if_cs (fun hc => ?_) (fun hc => ?_)
            · have hne : os.length ≠ m.outs.length := fun e => by simp [e] at hc
              rw [if_pos hne] at hcb
              rw [show nodeBad ns n = _ from find_at hr2 hbf hcb] at k
              walk_at "ss"
              refine ⟨p, _, rfl, .inr (SqT.of ((e3.trans e5) _ _ hp)), ?_⟩
              rw [l3']
              exact raise2 fun x H4 hx4 e4 g4 => ArE.up k (eHG.trans (e3.trans e5)) x H4 hx4 e4 g4
            have heq2 : os.length = m.outs.length := by simp at hc; omega
            rw [if_neg (fun z => z heq2)] at hcb
            walk_at "ss"
            exact ⟨⟨_, _, _, _, _, _, rfl⟩, eG.trans (e3.trans e5), fin hcb⟩
        · rw [decide_eq_false hk]
          refine ⟨_, rfl, ?_⟩
          walk_at "ss"
          have hB : callBad ns r = none := by
            cases r with
            | cl os nd xs => exact absurd rfl hk
            | _ => rfl
          exact ⟨⟨_, _, _, _, _, _, rfl⟩, eG, fin hB⟩
      · rintro σ' G ⟨⟨v2, v3, v4, v5, v6, v7, rfl⟩, eG, hbf⟩
        walk_at "ss"
        rw [show nodeBad ns n = none from find_no fun j r hr => hbf j r (by have := (List.getElem?_eq_some_iff.mp hr).1; omega) hr] at k
        exact k _ (e01.trans eG)

/-! ### programs made, or refused -/
open TL (tl)
theorem isiNd {H : Hp} {Q : VK} {n : Nd} {v : V} (T : Txt K mg Z) (h : NdAt Z H n v) (q : Q (.bl true) H) : rIsi K [v, .ref Z.c_Node] H Q := by
  obtain ⟨a, dx, li, lo, lr, td, evs, us, rfl, h1, _⟩ := h
  exact ⟨_, _, _, _, true, rfl, .own _, (tcB_ok T.x_Node).ty h1, T.fact_kitNN, q⟩
def sp_need_nodes (Z : Adr) : Sp := fun vs H Q _ => ∃ (p : Addr) (ns : List Nd) (us : List V) (kb : Bool), vs = [.ref p] ∧ H p = some (sqO kb us) ∧ 0 < us.length ∧ us.length ≤ 300 ∧ Paired (NdAt Z H) ns us ∧ (ns.map Nd.nm).Nodup ∧ RetV .non H Q
theorem ok_need_nodes (T : Txt K mg Z)  : FnOk P w K mg base CX0 (4) Z.f_need_nodes Z.fd_need_nodes ["thing"] (sp_need_nodes Z) := by
  refine T.F_need_nodes.ok sc_need_nodes (fun vs H Q E h => ?_) (fun cdv AA outer s H vs Q E hr h => ?_)
  · obtain ⟨p, ns, us, kb, rfl, _⟩ := h
    rfl
  · obtain ⟨p, ns, us, kb, rfl, gp, h0, hl, hp, hnd, k⟩ := h
    obtain ⟨cN, nA⟩ := tcN T
    have hpl := paired_len hp
    refine ⟨_, (pss_cons (ps_if (PW.pt (pw_or (pt_not (pt_val (pe_callB call_isiT (by rfl) T.n_isinstance (by decide +kernel) (pa_cons (pv 0) (pa_cons (pe_tup (pa_cons (pe_bltn (v := .ty "list") (by rfl) T.n_list (by decide +kernel) rfl) (pa_cons (pe_bltn (v := .ty "tuple") (by rfl) T.n_tuple (by decide +kernel) rfl) pa_nil))) pa_nil))))) (pw_or1 (pt_cmpR op_eq (pe_callB call_len_seq (by rfl) T.n_len (by decide +kernel) (pa_cons (pv 0) pa_nil)) pe_int (nomark _))))) (pss_one ps_never) pss_nil)
      (pss_cons (ps_for PassesOwn.never rfl (pi_ltn (pv 0)) (pg_name (i := 1) sc_need_nodes.nd rfl (Or.inl rfl)) (pss_one (ps_if (pt_not (pt_val (pe_callB call_isi (by rfl) T.n_isinstance (by decide +kernel) (pa_cons (pv 1) (pa_cons (pe_gcst (v := .ref Z.c_Node) rfl ⟨_, T.m_Node, rfl⟩) pa_nil))))) (pss_one ps_never) pss_nil)))
      (pss_cons (ps_set (i := 2) sc_need_nodes.nd rfl (Or.inl rfl) pe_dnewK)
      (pss_one (ps_for PassesOwn.never rfl (pi_ltn (pv 0)) (pg_name (i := 1) sc_need_nodes.nd rfl (Or.inl rfl)) (pss_cons (ps_if (pt_cmpR (op_inDk (hu_of hr)) (pe_fld (pv 1) (by rfl)) (pv 2) (by rfl)) (pss_one ps_never) pss_nil)
      (pss_one (ps_dput (hu_of hr) (pv 2) (pe_fld (pv 1) (by rfl)) pe_bl rfl)))))))), ?_⟩
    walk_at "ss"
    refine newT fun tp H1 htp e1 g1 => ?_
    walk_at "ss"
    refine isiB (e1 _ _ gp) g1 ?_
    walk_at "ss"
    refine ⟨p, _, rfl, sqB (e1 _ _ gp), ?_⟩
    walk_at "ss"
    refine if_ff (decide_eq_false (fun z => by have := V.int.inj z; omega)) ?_
    walk_at "ss"
    refine c_forX (a := p) (fun _ q => c_var (by with_unfolding_all rfl) q) (e1 _ _ gp) (xs := us) (fun i σ' G => (∃ v1, σ' = [some (.ref p), v1, none]) ∧ Ex H G) ⟨⟨_, rfl⟩, e1⟩ (fun i σ' G _ q => q.2 _ _ gp) ?_ ?_
    · rintro i x σ' G hx ⟨⟨v1, rfl⟩, eG⟩
      obtain ⟨n, hn, hN⟩ := paired_ix hp hx
      walk_at "ss"
      refine isiNd T (hN.up eG) ?_
      walk_at "ss"
      exact ⟨⟨_, rfl⟩, eG⟩
    · rintro σ' G0 ⟨⟨v1, rfl⟩, e0⟩
      walk_at "ss"
      intro ad had
      have e2 : Ex G0 (upd G0 ad (.dK [])) := Ex.new had
      have g2 : upd G0 ad (.dK []) ad = some (.dK []) := upd_same
      generalize upd G0 ad (.dK []) = H2 at e2 g2
      have e12 := e0.trans e2
      have hadH : H ad = none := fresh_back e0 had
      walk_at "ss"
      refine c_forX (a := p) (fun _ q => c_var (by with_unfolding_all rfl) q) (e12 _ _ gp) (xs := us) (fun i σ' G => (∃ v1, σ' = [some (.ref p), v1, some (.ref ad)]) ∧ Ex H G ∧ ∃ ka, G ad = some (.dK ka) ∧ ka.length ≤ i ∧ ∀ z, (valV ka (.inr z)).isSome = decide (z ∈ (ns.map Nd.nm).take i)) ⟨⟨_, rfl⟩, e12, [], g2, Nat.le_refl _, fun z => by simp [valV]⟩ (fun i σ' G _ q => q.2.1 _ _ gp) ?_ ?_
      · rintro i x σ' G hx ⟨⟨v1, rfl⟩, eG, ka, ga, hkl, hka⟩
        have hil := (List.getElem?_eq_some_iff.mp hx).1
        obtain ⟨n, hn, hN⟩ := paired_ix hp hx
        have hs : (ns.map Nd.nm)[i]? = some n.nm := by rw [List.getElem?_map, hn]; rfl
        have hm : n.nm ∉ (ns.map Nd.nm).take i := fun z => nodup_at hnd hs z (Nat.le_refl _) rfl
        obtain ⟨a, dx, li, lo, lr, td, evs, us2, rfl, h1, _⟩ := hN.up eG
        walk_at "ss"
        refine ⟨a, _, dx, _, _, rfl, h1, cN, nA _ (by simp), rfl, ?_⟩
        walk_at "ss"
        refine ⟨ad, _, rfl, dgetK ga, ?_⟩
        walk_at "ss"
        rw [hka]
        refine if_ff (decide_eq_false hm) ?_
        walk_at "ss"
        refine ⟨a, _, dx, _, _, rfl, h1, cN, nA _ (by simp), rfl, ?_⟩
        walk_at "ss"
        refine ⟨ad, _, rfl, .inl ⟨ka, .inr n.nm, ga, rfl, Evl.sz_lt (by omega), rfl⟩, ?_⟩
        walk_at "ss"
        have hpl := putK_len ka (.inr n.nm) (.bl true)
        refine ⟨⟨_, rfl⟩, Ex.mut eG hadH, _, upd_same, by omega, fun z => ?_⟩
        rw [valV_put, List.take_add_one, hs]
        by_cases hz : z = n.nm
        · rw [if_pos (by rw [hz])]
          simp [hz]
        · rw [if_neg (fun e => hz (Sum.inr.inj e)), hka]
          congr 1
          simp [hz]
      · rintro σ' G ⟨⟨v1, rfl⟩, eG, ka, ga, hkl, hka⟩
        walk_at "ss"
        exact k _ eG
/-- the first thing that is wrong -/
def pgBad : List Nd → List Nd → Option (Str × Option Nat)
  | _, [] => none
  | kn, n :: ns => match nodeBad kn n with
    | some b => some b
    | none => pgBad (kn ++ [n]) ns
/-- a program in the heap, its own things made since -/
def PgFr (Z : Adr) (H0 H : Hp) (ns : List Nd) (us : List V) (v : V) : Prop := ∃ x dx td, v = .ref x ∧ H x = some (.ins Z.c_Program dx [("by_name", .ref td)]) ∧ H td = some (.dK (pgK ns us)) ∧ Paired (NdAt Z H) ns us ∧ H0 x = none ∧ H0 td = none
theorem Bad.some {b : Str × Option Nat} {H G : Hp} {E : XK} {A B : Prop} (h : Bad Z (some b) H E A) (e : Ex H G) : Bad Z (some b) G E B := by
  obtain ⟨s, o⟩ := b
  cases o with
  | none => exact RfE.up h e
  | some j => exact ArE.up h e
def sp_Program_init (Z : Adr) : Sp := fun vs H Q E => ∃ (x dx p : Addr) (ns : List Nd) (us : List V) (H0 : Hp) (kb : Bool), vs = [.ref x, .ref p] ∧ H x = some (.ins Z.c_Program dx []) ∧ H0 x = none ∧ Ex H0 H ∧ H0 p = some (sqO kb us) ∧ 0 < us.length ∧ us.length ≤ 300 ∧ Paired (NdAt Z H0) ns us ∧ (ns.map Nd.nm).Nodup ∧ (∀ n ∈ ns, n.good ∧ NoDot n) ∧
  Bad Z (pgBad [] ns) H0 E (∀ H2, Ex H0 H2 → PgFr Z H0 H2 ns us (.ref x) → Q .non H2)
theorem tcP (T : Txt K mg Z) : Cls K Z.c_Program ∧ ∀ f ∈ (["by_name"] : List Str), NoAttr K Z.c_Program f := ⟨(tcB_ok T.x_Program).cl, (tcB_ok T.x_Program).no⟩
theorem okX_Program_init (T : Txt K mg Z) : FnOk P w K mg base (L2N.CX P w) 42 Z.f_Program_init Z.fd_Program_init ["self", "nodes"] (sp_Program_init Z) := by
  have G_need_nodes := ok_need_nodes (P := P) (w := w) (base := base) T
  have GX_need_calls := okX_need_calls (P := P) (w := w) (base := base) T
  refine T.F_Program_init.okN sc_Program_init (fun vs H Q E h => ?_) (fun cdv AA outer s H vs Q E hr h => ?_)
  · obtain ⟨x, dx, p, ns, us, H0, kb, rfl, _⟩ := h
    rfl
  · obtain ⟨x, dx, p, ns, us, H0, kb, rfl, hx, h0, e0, gp, hl0, hl1, hps, hnd, hgd, k⟩ := h
    obtain ⟨cN, nA⟩ := tcN T
    obtain ⟨cP, nP⟩ := tcP T
    have hpl := paired_len hps
    refine ⟨_, (pss_cons (ps_expr (pe_call G_need_nodes (hr.mono (by omega)) rfl T.g_need_nodes T.F_need_nodes.kp T.b_need_nodes .nil pass0 (pa_cons (pv 1) pa_nil)))
      (pss_cons (ps_fld (pv 0) pe_dnewK (by rfl))
      (pss_one (ps_for (passes_of rfl) rfl (pi_ltn (pv 1)) (pg_name (i := 2) sc_Program_init.nd rfl (Or.inl rfl)) (pss_cons (ps_expr (pe_call GX_need_calls (hr.mono (by omega)) rfl T.g_need_calls T.F_need_calls.kp T.b_need_calls .nil (passH (L2N.takes_of rfl rfl rfl rfl) (fun _ _ _ _ h => h)) (pa_cons (pe_fld (pv 0) (by rfl)) (pa_cons (pv 2) pa_nil))))
      (pss_one (ps_dput (hu_of hr) (pe_fld (pv 0) (by rfl)) (pe_fld (pv 2) (by rfl)) (pv 2) rfl))))))), ?_⟩
    walk_at "ss"
    refine ⟨p, ns, us, kb, rfl, e0 _ _ gp, hl0, hl1, paired_up (fun n u h => h.up e0) hps, hnd, fun H1 e1 => ?_⟩
    walk_at "ss"
    intro td htd
    have f2 : Ex H1 (upd H1 td (.dK [])) := Ex.new htd
    have g2 : upd H1 td (.dK []) td = some (.dK []) := upd_same
    generalize upd H1 td (.dK []) = H2 at f2 g2
    walk_at "ss"
    have hx2 := (e1.trans f2) _ _ hx
    refine ⟨x, _, dx, _, rfl, hx2, cP, nP _ (by simp), by simp, ?_⟩
    have ntx : td ≠ x := (ne_of_none (e1 _ _ hx) htd).symm
    have f3 : Ex H0 (upd H2 x (.ins Z.c_Program dx (putF "by_name" (.ref td) []))) := Ex.mut (e0.trans (e1.trans f2)) h0
    have hx3 : upd H2 x (.ins Z.c_Program dx (putF "by_name" (.ref td) [])) x = some (.ins Z.c_Program dx [("by_name", .ref td)]) := upd_same
    have g3 : upd H2 x (.ins Z.c_Program dx (putF "by_name" (.ref td) [])) td = some (.dK []) := by rw [upd_ne ntx]; exact g2
    generalize upd H2 x (.ins Z.c_Program dx (putF "by_name" (.ref td) [])) = H3 at f3 hx3 g3
    have htd0 : H0 td = none := fresh_back (e0.trans e1) htd
    walk_at "ss"
    refine c_forX (a := p) (fun _ q => c_var (by with_unfolding_all rfl) q) (f3 _ _ gp) (xs := us) (fun i σ' G => (∃ v2, σ' = [some (.ref x), some (.ref p), v2]) ∧ Ex H0 G ∧ G x = some (.ins Z.c_Program dx [("by_name", .ref td)]) ∧ G td = some (.dK (pgK (ns.take i) (us.take i))) ∧ pgBad [] ns = pgBad (ns.take i) (ns.drop i)) ⟨⟨_, rfl⟩, f3, hx3, by simpa [pgK] using g3, by simp⟩ (fun i σ' G _ q => q.2.1 _ _ gp) ?_ ?_
    · rintro i u σ' G hu ⟨⟨v2, rfl⟩, eG, hxG, gG, hB⟩
      have hil := (List.getElem?_eq_some_iff.mp hu).1
      obtain ⟨n, hn, hN⟩ := paired_ix hps hu
      have hNG := hN.up eG
      have hgn := hgd n (List.mem_of_getElem? hn)
      have hdr : ns.drop i = n :: ns.drop (i + 1) := by
        have h1 := List.getElem?_eq_some_iff.mp hn
        rw [List.drop_eq_getElem_cons h1.1, h1.2]
      have htk : ns.take (i + 1) = ns.take i ++ [n] := by rw [List.take_add_one, hn]; rfl
      rw [hdr] at hB
      walk_at "ss"
      refine ⟨x, _, dx, _, _, rfl, hxG, cP, nP _ (by simp), rfl, ?_⟩
      walk_at "ss"
      refine ⟨td, ns.take i, us.take i, n, u, rfl, gG, paired_take (paired_up (fun n u h => h.up eG) hps) i, hNG, hgn.1, hgn.2, ?_⟩
      cases hb : nodeBad (ns.take i) n with
      | some b =>
        have hpb : pgBad [] ns = some b := by
          rw [hB]
          show (match nodeBad (ns.take i) n with
            | some b => some b
            | none => _) = _
          rw [hb]
        rw [hpb] at k
        exact Bad.some k eG
      | none =>
        refine (show ∀ A : Prop, A → Bad Z none G _ A from fun _ h => h) _ ?_
        intro G2 eG2
        have hpb : pgBad [] ns = pgBad (ns.take (i + 1)) (ns.drop (i + 1)) := by
          rw [hB, htk]
          show (match nodeBad (ns.take i) n with
            | some b => some b
            | none => _) = _
          rw [hb]
        obtain ⟨a, dxa, li, lo, lr, ta, evs, us2, hua, h1, _⟩ := hNG.up eG2
        subst hua
        walk_at "ss"
        refine ⟨x, _, dx, _, _, rfl, eG2 _ _ hxG, cP, nP _ (by simp), rfl, ?_⟩
        walk_at "ss"
        refine ⟨a, _, dxa, _, _, rfl, h1, cN, nA _ (by simp), rfl, ?_⟩
        walk_at "ss"
        refine ⟨td, _, rfl, .inl ⟨_, .inr n.nm, eG2 _ _ gG, rfl, Evl.sz_lt (by have := pgK_len (ns := ns.take i) (vs := us.take i); rw [List.length_take] at this; omega), rfl⟩, ?_⟩
        walk_at "ss"
        refine ⟨⟨_, rfl⟩, Ex.mut (eG.trans eG2) htd0, by rw [upd_ne ntx.symm]; exact eG2 _ _ hxG, ?_, hpb⟩
        have hkl : (ns.take i).length = (us.take i).length := by rw [List.length_take, List.length_take, hpl]
        rw [upd_same, putK_new, htk, List.take_add_one, hu]
        · show some (HO.dK _) = some (HO.dK (pgK (ns.take i ++ [n]) (us.take i ++ [V.ref a])))
          rw [pgK_snoc hkl]
        · refine valV_nokey (pgK_keys hkl) fun hm => ?_
          rw [List.map_take] at hm
          exact nodup_at hnd (by rw [List.getElem?_map, hn]; rfl) hm (Nat.le_refl _) rfl
    · rintro σ' G ⟨⟨v2, rfl⟩, eG, hxG, gG, hB⟩
      rw [← hpl, List.drop_length, List.take_length] at hB
      rw [show pgBad [] ns = none from hB] at k
      rw [← hpl, List.take_length, hpl, List.take_length] at gG
      walk_at "ss"
      exact k G eG ⟨x, dx, td, rfl, hxG, gG, paired_up (fun n u h => h.up eG) hps, h0, htd0⟩

/-! ### names that are drawn: unlike, and names -/
open TL (tl)
/-- the signs of a name: letters, a q among them or just one -/
def PNm (l : List Nat) : Prop := 1 ≤ l.length ∧ l.length ≤ 8 ∧ (∀ c ∈ l, letC c = true) ∧ (113 ∈ l ∨ l.length = 1)
theorem own_noq : ∀ w ∈ ownW, 113 ∉ tl w ∧ (tl w).length ≠ 1 := by decide +kernel
theorem isName_of {t : Str} (h : PNm (tl t)) : isName t = true := by
  obtain ⟨h1, h2, h3, h4⟩ := h
  rw [tl_len] at h1 h2
  unfold isName
  have ho : inV (.str t) ownV = false := by
    unfold ownV
    rw [inV_str]
    cases hc : ownW.contains t with
    | false => rfl
    | true =>
      have := own_noq t (List.contains_iff_mem.mp hc)
      exact absurd h4 (fun z => z.elim this.1 this.2)
  rw [ho, decide_eq_true (by omega : (1 : Int) ≤ t.length), decide_eq_true (by omega : (t.length : Int) ≤ 8), List.all_eq_true.mpr h3]
  rfl
theorem let_ok {c : Nat} (h : letC c = true) : c < 1114112 := by
  unfold letC at h
  rw [Bool.and_eq_true, decide_eq_true_eq, decide_eq_true_eq] at h
  omega
theorem let_nodot {c : Nat} (h : letC c = true) : c ≠ 46 := by
  unfold letC at h
  rw [Bool.and_eq_true, decide_eq_true_eq, decide_eq_true_eq] at h
  omega
theorem tl_dot : tl "." = [46] := by decide +kernel
theorem spl_free : ∀ (l acc : List Nat), 46 ∉ l → TL.spl [46] 0 acc l = [acc ++ l]
  | [], acc, _ => by rw [TL.spl_nil, List.append_nil]
  | c :: r, acc, h => by
    have hc : TL.pre [46] (c :: r) = false := by
      unfold TL.pre
      have : c ≠ 46 := fun e => h (by rw [e]; exact List.mem_cons_self)
      simp [this]
    rw [TL.spl_miss hc, spl_free r (acc ++ [c]) (fun z => h (List.mem_cons_of_mem _ z)), List.append_assoc]
    rfl
theorem spl_two : ∀ (l acc m : List Nat), 46 ∉ l → 46 ∉ m → TL.spl [46] 0 acc (l ++ 46 :: m) = [acc ++ l, m]
  | [], acc, m, _, hm => by
    have hc : TL.pre [46] (46 :: m) = true := by simp [TL.pre]
    rw [List.nil_append, TL.spl_hit hc, List.append_nil]
    show acc :: TL.spl [46] 0 [] m = _
    rw [spl_free m [] hm]
    rfl
  | c :: r, acc, m, h, hm => by
    have hc : TL.pre [46] (c :: (r ++ 46 :: m)) = false := by
      unfold TL.pre
      have : c ≠ 46 := fun e => h (by rw [e]; exact List.mem_cons_self)
      simp [this]
    rw [List.cons_append, TL.spl_miss hc, spl_two r (acc ++ [c]) m (fun z => h (List.mem_cons_of_mem _ z)) hm, List.append_assoc]
    rfl
theorem split_one {t : Str} (h : PNm (tl t)) : Txt.split t "." = [t] := by
  apply TL.map_tl_inj
  rw [TL.split_spl t "." (by decide +kernel) (TL.kind_ok (by decide +kernel)), tl_dot, spl_free _ _ (fun z => let_nodot (h.2.2.1 46 z) rfl)]
  rfl
theorem split_two {a b : Str} (ha : PNm (tl a)) (hb : PNm (tl b)) : Txt.split ((a ++ ".") ++ b) "." = [a, b] := by
  apply TL.map_tl_inj
  rw [TL.split_spl _ "." (by decide +kernel) (TL.kind_ok (by decide +kernel)), tl_dot, TL.tl_append, TL.tl_append, tl_dot, List.append_assoc]
  show TL.spl [46] 0 [] (tl a ++ 46 :: tl b) = _
  rw [spl_two _ _ _ (fun z => let_nodot (ha.2.2.1 46 z) rfl) (fun z => let_nodot (hb.2.2.1 46 z) rfl)]
  rfl
theorem goodN_one {t : Str} (h : PNm (tl t)) : goodN t := by
  have h2 := h.2.1
  rw [tl_len] at h2
  refine ⟨?_, by omega, fun c hc => let_ok (h.2.2.1 c hc)⟩
  unfold isPointed
  rw [split_one h, decide_eq_true (by omega : (t.length : Int) ≤ 80), List.all_cons, isName_of h]
  rfl
theorem goodN_two {a b : Str} (ha : PNm (tl a)) (hb : PNm (tl b)) : goodN ((a ++ ".") ++ b) := by
  have h1 := ha.2.1
  have h2 := hb.2.1
  rw [tl_len] at h1 h2
  have hl : ((a ++ ".") ++ b).length ≤ 20 := by
    rw [add_len, add_len]
    have : ("." : Str).length = 1 := by decide +kernel
    omega
  refine ⟨?_, by omega, ?_⟩
  · unfold isPointed
    rw [split_two ha hb, decide_eq_true (by omega : (((a ++ ".") ++ b).length : Int) ≤ 80), List.all_cons, isName_of ha, List.all_cons, isName_of hb]
    rfl
  · exact ((show OkT a from fun c hc => let_ok (ha.2.2.1 c hc)).app (OkT.lit (by decide +kernel))).app (fun c hc => let_ok (hb.2.2.1 c hc))
/-! the three ways -/
theorem nodup_ix {l : List Str} {f : Nat → List Nat} (h : ∀ (i : Nat) t, l[i]? = some t → tl t = f i) (hf : ∀ i j, i < l.length → j < l.length → f i = f j → i = j) : l.Nodup := by
  unfold List.Nodup
  rw [List.pairwise_iff_getElem]
  intro i j hi hj hij e
  have h1 := h i _ (List.getElem?_eq_getElem hi)
  have h2 := h j _ (List.getElem?_eq_getElem hj)
  rw [e] at h1
  have := hf i j hi hj (h1.symm.trans h2)
  omega
/-- the tail: a q and six letters -/
def Tail (T : List Nat) : Prop := T.length = 7 ∧ (∀ c ∈ T, letC c = true) ∧ ∃ u, T = 113 :: u
def letN (i : Nat) : Nat := 97 + i % 26
theorem letN_ok (i : Nat) : letC (letN i) = true := by
  unfold letC letN
  rw [Bool.and_eq_true, decide_eq_true_eq, decide_eq_true_eq]
  omega
def way0 (T : List Nat) (sh k : Nat) : List Nat := letN (sh + k / 8) :: T.take (k % 8)
def way1 (T : List Nat) (sh at_ k : Nat) : List Nat := T.take at_ ++ letN (sh + 5 * k) :: ((T.drop at_).take (5 - at_) ++ List.replicate (k / 26) 113)
def wordsG : List Str := ["node", "in", "out", "before", "when", "hold", "like", "same", "call", "true", "mod", "beat", "desk"]
def way2 (sh k : Nat) : List Nat := tl (wordsG.getD ((sh + k) % 13) "") ++ List.replicate (1 + k / 13) 113
theorem way0_nm {T : List Nat} (h : Tail T) (sh k : Nat) : PNm (way0 T sh k) := by
  obtain ⟨h1, h2, u, rfl⟩ := h
  unfold way0
  refine ⟨by simp, by rw [List.length_cons, List.length_take]; omega, fun c hc => ?_, ?_⟩
  · rcases List.mem_cons.mp hc with rfl | hc
    · exact letN_ok _
    · exact h2 c (List.mem_of_mem_take hc)
  · rcases Nat.eq_zero_or_pos (k % 8) with e | e
    · right
      rw [e]
      simp
    · left
      obtain ⟨m, hm⟩ : ∃ m, k % 8 = m + 1 := ⟨k % 8 - 1, by omega⟩
      rw [hm, List.take_succ_cons]
      simp
theorem way0_inj {T : List Nat} (h : Tail T) {sh i j : Nat} (hi : i < 200) (hj : j < 200) (e : way0 T sh i = way0 T sh j) : i = j := by
  obtain ⟨h1, _, _⟩ := h
  unfold way0 at e
  injection e with e1 e2
  have e3 := congrArg List.length e2
  rw [List.length_take, List.length_take] at e3
  unfold letN at e1
  omega
theorem way1_nm {T : List Nat} (h : Tail T) {sh at_ k : Nat} (ha : at_ ≤ 5) (hk : k < 52) : PNm (way1 T sh at_ k) := by
  obtain ⟨h1, h2, u, rfl⟩ := h
  unfold way1
  refine ⟨by rw [List.length_append, List.length_cons]; omega, ?_, fun c hc => ?_, ?_⟩
  · rw [List.length_append, List.length_cons, List.length_append, List.length_take, List.length_take, List.length_drop, List.length_replicate]
    omega
  · rcases List.mem_append.mp hc with hc | hc
    · exact h2 c (List.mem_of_mem_take hc)
    · rcases List.mem_cons.mp hc with rfl | hc
      · exact letN_ok _
      · rcases List.mem_append.mp hc with hc | hc
        · exact h2 c (List.mem_of_mem_drop (List.mem_of_mem_take hc))
        · rw [List.eq_of_mem_replicate hc]
          decide
  · left
    rcases Nat.eq_zero_or_pos at_ with e | e
    · subst e
      simp
    · obtain ⟨m, hm⟩ : ∃ m, at_ = m + 1 := ⟨at_ - 1, by omega⟩
      rw [hm, List.take_succ_cons]
      simp
theorem way1_inj {T : List Nat} (h : Tail T) {sh at_ i j : Nat} (ha : at_ ≤ 5) (hi : i < 52) (hj : j < 52) (e : way1 T sh at_ i = way1 T sh at_ j) : i = j := by
  obtain ⟨h1, _, _⟩ := h
  unfold way1 at e
  have e2 := List.append_cancel_left e
  injection e2 with e3 e4
  have e5 := congrArg List.length (List.append_cancel_left e4)
  rw [List.length_replicate, List.length_replicate] at e5
  unfold letN at e3
  omega
theorem words_ok : ∀ w ∈ wordsG, 113 ∉ tl w ∧ 1 ≤ (tl w).length ∧ (tl w).length ≤ 6 ∧ (tl w).all letC = true := by decide +kernel
theorem words_at (i : Nat) : wordsG.getD (i % 13) "" ∈ wordsG := by
  have hl : wordsG.length = 13 := rfl
  have h : i % 13 < wordsG.length := by rw [hl]; omega
  rw [List.getD_eq_getElem?_getD, List.getElem?_eq_getElem h]
  exact List.getElem_mem h
theorem words_inj0 : ∀ i j : Fin 13, tl (wordsG.getD i.val "") = tl (wordsG.getD j.val "") → i = j := by decide +kernel
theorem words_inj (i j : Nat) (hi : i < 13) (hj : j < 13) (e : tl (wordsG.getD i "") = tl (wordsG.getD j "")) : i = j := congrArg Fin.val (words_inj0 ⟨i, hi⟩ ⟨j, hj⟩ e)
theorem rep_inj : ∀ {a b : List Nat} {m n : Nat}, 113 ∉ a → 113 ∉ b → a ++ List.replicate (m + 1) 113 = b ++ List.replicate (n + 1) 113 → a = b ∧ m = n
  | [], [], m, n, _, _, e => by
    have := congrArg List.length e
    simp at this
    exact ⟨rfl, this⟩
  | [], y :: b, m, n, _, hb, e => by
    rw [List.nil_append, List.replicate_succ, List.cons_append] at e
    injection e with e1 _
    exact absurd (by rw [e1]; exact List.mem_cons_self) hb
  | x :: a, [], m, n, ha, _, e => by
    rw [List.nil_append, List.replicate_succ, List.cons_append] at e
    injection e with e1 _
    exact absurd (by rw [← e1]; exact List.mem_cons_self) ha
  | x :: a, y :: b, m, n, ha, hb, e => by
    rw [List.cons_append, List.cons_append] at e
    injection e with e1 e2
    obtain ⟨h1, h2⟩ := rep_inj (fun z => ha (List.mem_cons_of_mem _ z)) (fun z => hb (List.mem_cons_of_mem _ z)) e2
    rw [e1, h1]
    exact ⟨rfl, h2⟩
theorem way2_nm {sh k : Nat} (hk : k < 26) : PNm (way2 sh k) := by
  unfold way2
  obtain ⟨h1, h2, h3, h4⟩ := words_ok _ (words_at (sh + k))
  refine ⟨by rw [List.length_append]; omega, by rw [List.length_append, List.length_replicate]; omega, fun c hc => ?_, .inl ?_⟩
  · rcases List.mem_append.mp hc with hc | hc
    · exact List.all_eq_true.mp h4 c hc
    · rw [List.eq_of_mem_replicate hc]
      decide
  · rw [Nat.add_comm 1 (k / 13), List.replicate_succ]
    simp
theorem way2_inj {sh i j : Nat} (hi : i < 26) (hj : j < 26) (e : way2 sh i = way2 sh j) : i = j := by
  unfold way2 at e
  rw [Nat.add_comm 1 (i / 13), Nat.add_comm 1 (j / 13)] at e
  obtain ⟨e1, e2⟩ := rep_inj (words_ok _ (words_at _)).1 (words_ok _ (words_at _)).1 e
  have := words_inj _ _ (by omega) (by omega) e1
  omega

/-! ### k16: the names that are drawn -/
open TL (tl)
theorem joinL_nil : ∀ ps : List (List Nat), TL.joinL [] ps = ps.flatten
  | [] => rfl
  | [p] => by simp [TL.joinL]
  | p :: q :: r => by
    show p ++ ([] ++ TL.joinL [] (q :: r)) = _
    rw [joinL_nil (q :: r), List.nil_append]
    simp
theorem tl_empty : tl "" = [] := by decide +kernel
theorem tl_q : tl "q" = [113] := by decide +kernel
theorem len_q : ("q" : Str).length = 1 := by decide +kernel
theorem len_empty : ("" : Str).length = 0 := by decide +kernel
theorem let_list : tl "abcdefghijklmnopqrstuvwxyz" = (List.range 26).map (97 + ·) := by decide +kernel
theorem let_at (j : Nat) : atI (tl "abcdefghijklmnopqrstuvwxyz") ((j % 26 : Nat) : Int) = some (letN j) := by
  refine atI_nat ?_
  have h : j % 26 < 26 := by omega
  rw [let_list, List.getElem?_map, List.getElem?_range h]
  rfl
theorem flat_ones : ∀ {ss : List Str}, (∀ s ∈ ss, ∃ c, tl s = [c] ∧ letC c = true) → ((ss.map tl).flatten).length = ss.length ∧ ∀ c ∈ (ss.map tl).flatten, letC c = true
  | [], _ => ⟨rfl, fun c h => by cases h⟩
  | s :: ss, h => by
    obtain ⟨c, h1, h2⟩ := h s List.mem_cons_self
    obtain ⟨i1, i2⟩ := flat_ones (ss := ss) fun z hz => h z (List.mem_cons_of_mem _ hz)
    rw [List.map_cons, List.flatten_cons, h1]
    refine ⟨by rw [List.length_append, i1, List.length_cons]; simp; omega, fun d hd => ?_⟩
    rcases List.mem_append.mp hd with hd | hd
    · have : d = c := by simpa using hd
      rw [this]
      exact h2
    · exact i2 d hd
theorem cut_hi (z : Str) (j : Nat) : tl (cutS z none (some (j : Int))) = (tl z).take j := by
  rw [tl_cut, HT.sIx_none, HT.sIx_nat, List.drop_zero, Nat.sub_zero, ← tl_len]
  rcases Nat.le_total j (tl z).length with h | h
  · rw [Nat.min_eq_left h]
  · rw [Nat.min_eq_right h, List.take_of_length_le (Nat.le_refl _), List.take_of_length_le h]
theorem strs_nobox {ns : List Str} (x y z : Int) : HO.lst (ns.map V.str) ≠ .lst [.int x, .int y, .int z] := by
  intro h
  injection h with h
  cases ns with
  | nil => cases h
  | cons a l =>
    rw [List.map_cons] at h
    injection h with h _
    cases h
theorem nb_strs {b a : Addr} {H G : Hp} {ns : List Str} (hB : BoxAt H b) (h : H a = some (.lst (ns.map V.str))) (x : ExB b H G) : G a = some (.lst (ns.map V.str)) := x _ _ (box_ne hB h (fun x y z => strs_nobox x y z)) h
theorem cut_lo (z : Str) (j : Nat) : tl (cutS z (some (j : Int)) none) = (tl z).drop j := by
  rw [tl_cut, HT.sIx_none, HT.sIx_nat, ← tl_len]
  rcases Nat.le_total j (tl z).length with h | h
  · rw [Nat.min_eq_left h, List.take_of_length_le (by rw [List.length_drop]; omega)]
  · rw [Nat.min_eq_right h, List.drop_of_length_le (Nat.le_refl _), List.drop_of_length_le h]
    simp
/-- the k-th name -/
def nmL (S : List Nat) (a f k : Nat) : List Nat := S.take a ++ letN (f + 7 * k) :: S.drop a
theorem nmL_inj {S : List Nat} {a f j k : Nat} (hj : j < 14) (hk : k < 14) (e : nmL S a f j = nmL S a f k) : j = k := by
  unfold nmL at e
  have e2 := List.append_cancel_left e
  injection e2 with e3 _
  unfold letN at e3
  omega
/-- fourteen names, unlike, and no name with a z behind -/
structure N14 (ns : List Str) : Prop where
  len : ns.length = 14
  nd : ns.Nodup
  nm : ∀ s ∈ ns, PNm (tl s)
  z : ∀ s ∈ ns, PNm (tl (s ++ "z")) ∧ s ++ "z" ∉ ns
theorem n14_of {ns : List Str} {S : List Nat} {a f : Nat} (hn : ns.map tl = (List.range 14).map (nmL S a f)) (hS : ∀ c ∈ S, letC c = true) (h5 : S.length ≤ 5) (hq : 113 ∈ S) : N14 ns := by
  have hl : ns.length = 14 := by have := congrArg List.length hn; rw [List.length_map, List.length_map, List.length_range] at this; exact this
  have hat : ∀ (i : Nat) t, ns[i]? = some t → tl t = nmL S a f i := by
    intro i t h
    have hi : i < 14 := by have := (List.getElem?_eq_some_iff.mp h).1; omega
    have h1 : (ns.map tl)[i]? = some (tl t) := by rw [List.getElem?_map, h]; rfl
    rw [hn, List.getElem?_map, List.getElem?_range hi] at h1
    exact (Option.some.inj h1).symm
  have hmem : ∀ s ∈ ns, ∃ i < 14, tl s = nmL S a f i := fun s hs => by
    obtain ⟨i, hi, he⟩ := List.mem_iff_getElem.mp hs
    exact ⟨i, by omega, hat i s (by rw [List.getElem?_eq_getElem hi, he])⟩
  have hlen : ∀ i, (nmL S a f i).length = S.length + 1 := fun i => by
    unfold nmL
    rw [List.length_append, List.length_cons, List.length_take, List.length_drop]
    omega
  have hc : ∀ i, ∀ c ∈ nmL S a f i, letC c = true := fun i c hc => by
    rcases List.mem_append.mp hc with hc | hc
    · exact hS c (List.mem_of_mem_take hc)
    · rcases List.mem_cons.mp hc with rfl | hc
      · exact letN_ok _
      · exact hS c (List.mem_of_mem_drop hc)
  have h113 : ∀ i, 113 ∈ nmL S a f i := fun i => by
    have : 113 ∈ S.take a ++ S.drop a := by rw [List.take_append_drop]; exact hq
    rcases List.mem_append.mp this with h | h
    · exact List.mem_append_left _ h
    · exact List.mem_append_right _ (List.mem_cons_of_mem _ h)
  have tz : tl "z" = [122] := by decide +kernel
  refine ⟨hl, nodup_ix hat fun i j hi hj => nmL_inj (by omega) (by omega), fun s hs => ?_, fun s hs => ⟨?_, fun hz => ?_⟩⟩
  · obtain ⟨i, hi, e⟩ := hmem s hs
    rw [e]
    exact ⟨by rw [hlen]; omega, by rw [hlen]; omega, hc i, .inl (h113 i)⟩
  · obtain ⟨i, hi, e⟩ := hmem s hs
    rw [TL.tl_append, e, tz]
    refine ⟨by rw [List.length_append, hlen]; omega, by rw [List.length_append, hlen, List.length_singleton]; omega, fun c hcc => ?_, .inl (List.mem_append_left _ (h113 i))⟩
    rcases List.mem_append.mp hcc with h | h
    · exact hc i c h
    · rw [List.mem_singleton.mp h]
      decide
  · obtain ⟨i, hi, e⟩ := hmem s hs
    obtain ⟨j, hj, e2⟩ := hmem _ hz
    have h1 := congrArg List.length e2
    rw [TL.tl_append, List.length_append, tz, e, hlen, hlen, List.length_singleton] at h1
    omega
def sp_names_l : Sp := fun vs H Q _ => ∃ (b : Addr), vs = [.ref b] ∧ BoxAt H b ∧ ∀ (ns : List Str) (p : Addr) (H2 : Hp), N14 ns → H p = none → ExB b H H2 → BoxAt H2 b → H2 p = some (.lst (ns.map V.str)) → Q (.ref p) H2
theorem ok_names_l (T : Txt K mg Z) : FnOk P w K mg base CX0 2 Z.f_names_l Z.fd_names_l ["_law_box_here"] sp_names_l := by
  have G_take_l := ok_take_l (P := P) (w := w) (base := base) T
  refine T.F_names_l.ok sc_names_l (fun vs H Q E h => ?_) (fun cdv AA outer s H vs Q E hr h => ?_)
  · obtain ⟨b, rfl, _⟩ := h
    rfl
  · obtain ⟨b, rfl, hB, k⟩ := h
    refine ⟨_, (pss_cons (ps_set (i := 1) sc_names_l.nd rfl (Or.inr rfl) pe_str)
      (pss_cons (ps_set (i := 2) sc_names_l.nd rfl (Or.inl rfl) (pe_call G_take_l (hr.mono (by omega)) rfl T.g_take_l T.F_take_l.kp T.b_take_l .nil pass0 (pa_cons (pv 0) (pa_cons pe_int pa_nil))))
      (pss_cons (ps_set (i := 3) sc_names_l.nd rfl (Or.inr rfl) (pe_op op_add_str (pe_join pe_str (pe_lc (own := [("_law_k", 4)]) (g := (gName 4)) (tt := tYes) (te := (tOp rIxS (tVar 1) (tCall sp_take_l [] E0 (tCons (tVar 0) (tCons (tC (.int 26)) tNil))))) rfl sc_names_l.nd (pi_range1 (by rfl) T.n_range (pa_cons (pv 2) pa_nil)) (blkOk_by (own := [("_law_k", 4)]) (N := N_names_l) (sc := defScope s_names_l) (by decide +kernel)) (fun _ _ _ _ _ => (pg_name (i := 4) sc_names_l.nd rfl (Or.inl rfl))) (fun _ _ _ _ _ => pts_nil) (fun _ _ _ _ _ => (pe_ix ix_str (pv 1) (pe_call G_take_l (hr.mono (by omega)) rfl T.g_take_l T.F_take_l.kp T.b_take_l .nil pass0 (pa_cons (pv 0) (pa_cons pe_int pa_nil))) (fun _ _ => rfl))))) pe_str))
      (pss_cons (ps_set (i := 5) sc_names_l.nd rfl (Or.inr rfl) (pe_call G_take_l (hr.mono (by omega)) rfl T.g_take_l T.F_take_l.kp T.b_take_l .nil pass0 (pa_cons (pv 0) (pa_cons (pe_op op_add (pv 2) pe_int) pa_nil))))
      (pss_cons (ps_set (i := 6) sc_names_l.nd rfl (Or.inr rfl) (pe_call G_take_l (hr.mono (by omega)) rfl T.g_take_l T.F_take_l.kp T.b_take_l .nil pass0 (pa_cons (pv 0) (pa_cons pe_int pa_nil))))
      (pss_one (ps_ret (pe_lc (own := [("_law_k", 4)]) (g := (gName 4)) (tt := tYes) (te := (tOp (fun x y H Q => ∃ i j, x = .str i ∧ y = .str j ∧ i.length + j.length ≤ sizeLine ∧ Q (.str (i ++ j)) H) (tOp (fun x y H Q => ∃ i j, x = .str i ∧ y = .str j ∧ i.length + j.length ≤ sizeLine ∧ Q (.str (i ++ j)) H) (tSl rSlS (tVar 3) tNoPart (tPart (tVar 5))) (tOp rIxS (tVar 1) (tOp (rI (fun _ j => 0 < j) fun i j => .int (i % j)) (tOp (rI0 fun i j => .int (i + j)) (tVar 6) (tOp (rI CMul fun i j => .int (i * j)) (tC (.int 7)) (tVar 4))) (tC (.int 26))))) (tSl rSlS (tVar 3) (tPart (tVar 5)) tNoPart))) rfl sc_names_l.nd (pi_range1 (by rfl) T.n_range (pa_cons pe_int pa_nil)) (blkOk_by (own := [("_law_k", 4)]) (N := N_names_l) (sc := defScope s_names_l) (by decide +kernel)) (fun _ _ _ _ _ => (pg_name (i := 4) sc_names_l.nd rfl (Or.inl rfl))) (fun _ _ _ _ _ => pts_nil) (fun _ _ _ _ _ => (pe_op op_add_str (pe_op op_add_str (pe_slice sl_str (pv 3) po_none (po_some (pv 5))) (pe_ix ix_str (pv 1) (pe_op op_mod (pe_op op_add (pv 6) (pe_op op_mul pe_int (pv 4))) pe_int) (fun _ _ => rfl))) (pe_slice sl_str (pv 3) (po_some (pv 5)) po_none))))))))))), ?_⟩
    walk_at "ss"
    refine ⟨b, 5, rfl, hB, by decide, by decide, fun szi H1 sz0 sz1 x1 hB1 => ?_⟩
    obtain ⟨sz, rfl⟩ := Int.eq_ofNat_of_zero_le sz0
    walk_at "ss"
    refine ⟨⟨_, rfl⟩, ?_⟩
    walk_at "ss"
    refine ⟨by omega, by omega, ?_⟩
    refine lcRB (b := b) (fun y => ∃ s : Str, y = .str s ∧ ∃ c, tl s = [c] ∧ letC c = true) (show sz ≤ 1000 by omega) hB1 (fun i hi H2 hB2 x2 R N hR => ?_) (fun ys p H2 hl hg hp x2 hB2 g2 => ?_)
    · walk_at "ss"
      refine ⟨b, 26, rfl, hB2, by decide, by decide, fun d2 H3 d20 d21 x3 hB3 => ?_⟩
      obtain ⟨j, rfl⟩ := Int.eq_ofNat_of_zero_le d20
      have hj : j % 26 = j := Nat.mod_eq_of_lt (by omega)
      have hat := let_at j
      rw [hj] at hat
      refine c_ixS (by decide +kernel) hat ?_
      exact hR _ _ ⟨_, rfl, _, rfl, letN_ok j⟩ hB3 x3
    obtain ⟨ss, rfl, hss⟩ := strs_of hg
    rw [List.length_map] at hl
    have hlz : ss.length = sz := hl
    obtain ⟨f1, f2⟩ := flat_ones hss
    have hs1 : ∀ s ∈ ss, s.length ≤ 1 := fun s hs => by
      obtain ⟨c, hc, _⟩ := hss s hs
      rw [← tl_len, hc]
      exact Nat.le_refl _
    have hsum := sum_len hs1
    walk_at "ss"
    refine ⟨_, _, ss, rfl, rfl, .inl (SqL.of g2), by rw [len_empty]; omega, ?_⟩
    walk_at "ss"
    have eS : tl (Txt.join "" ss ++ "q") = (ss.map tl).flatten ++ [113] := by
      rw [TL.tl_append, TL.join_eq, TL.tl_join, tl_empty, joinL_nil, tl_q]
    have hSl : (Txt.join "" ss ++ "q" : Str).length = sz + 1 := by rw [← tl_len, eS, List.length_append, f1, hlz]; rfl
    have hSc : ∀ c ∈ tl (Txt.join "" ss ++ "q" : Str), letC c = true := fun c hc => by
      rw [eS] at hc
      rcases List.mem_append.mp hc with hc | hc
      · exact f2 c hc
      · rw [List.mem_singleton.mp hc]
        decide
    have hSq : 113 ∈ tl (Txt.join "" ss ++ "q" : Str) := by rw [eS]; simp
    refine ⟨Evl.sz_of (by rw [← add_len]; omega), ?_⟩
    generalize (Txt.join "" ss ++ "q" : Str) = stem at hSl hSc hSq
    walk_at "ss"
    refine ⟨b, _, rfl, hB2, by omega, by omega, fun ati H3 at0 at1 x3 hB3 => ?_⟩
    obtain ⟨at_, rfl⟩ := Int.eq_ofNat_of_zero_le at0
    walk_at "ss"
    refine ⟨b, 26, rfl, hB3, by decide, by decide, fun fsi H4 f0 f1' x4 hB4 => ?_⟩
    obtain ⟨fs, rfl⟩ := Int.eq_ofNat_of_zero_le f0
    have X4 := x1.trans (x2.trans (x3.trans x4))
    walk_at "ss"
    refine ⟨by decide, by decide, ?_⟩
    refine lcRN (b := b) (n := 14) (fun i y _ => ∃ t : Str, y = .str t ∧ tl t = nmL (tl stem) at_ fs i) (fun _ _ _ _ _ h => h) (by decide) hB4 (fun i hi G8 bG8 xG8 R N hR => ?_) (fun ys8 p8 G8 hl8 hg8 hp8 x8 hB8 g8 => ?_)
    · walk_at "ss"
      refine c_slS (by omega) ?_
      walk_at "ss"
      refine c_I (.inl ⟨by decide, by decide⟩) ?_
      walk_at "ss"
      refine c_I (by decide) ?_
      walk_at "ss"
      have hat := let_at (fs + 7 * i)
      rw [show (((fs + 7 * i) % 26 : Nat) : Int) = ((fs : Int) + 7 * (i : Int)) % 26 by omega] at hat
      refine c_ixS (by decide +kernel) hat ?_
      walk_at "ss"
      have hc1 := cut_len stem none (some (at_ : Int))
      have hc2 := cut_len stem (some (at_ : Int)) none
      have h1l : (⟨#[letN (fs + 7 * i)]⟩ : Str).length = 1 := rfl
      refine ⟨Evl.sz_of (by omega), ?_⟩
      walk_at "ss"
      refine c_slS (by omega) ?_
      walk_at "ss"
      refine ⟨Evl.sz_of (by rw [add_len]; omega), ?_⟩
      refine hR _ _ (ExB.refl _ _) bG8 ⟨_, rfl, ?_⟩
      rw [TL.tl_append, TL.tl_append, cut_hi, cut_lo]
      unfold nmL
      rw [List.append_assoc]
      rfl
    have key : ∃ ns : List Str, ys8 = ns.map V.str ∧ ns.map tl = (List.range 14).map (nmL (tl stem) at_ fs) := by
      refine ⟨ys8.map fun y => match y with | .str t => t | _ => "", ?_, ?_⟩
      · apply List.ext_getElem?
        intro i
        cases hy : ys8[i]? with
        | none => rw [List.getElem?_map, List.getElem?_map, hy]; rfl
        | some y =>
          obtain ⟨t, rfl, _⟩ := hg8 i y hy
          rw [List.getElem?_map, List.getElem?_map, hy]
          rfl
      · apply List.ext_getElem?
        intro i
        cases hy : ys8[i]? with
        | none =>
          rw [List.getElem?_eq_none_iff] at hy
          rw [List.getElem?_map, List.getElem?_map, List.getElem?_map, List.getElem?_eq_none hy, List.getElem?_eq_none (by rw [List.length_range]; omega)]
          rfl
        | some y =>
          obtain ⟨t, rfl, ht⟩ := hg8 i y hy
          have hi := (List.getElem?_eq_some_iff.mp hy).1
          rw [List.getElem?_map, List.getElem?_map, List.getElem?_map, hy, List.getElem?_range (by omega)]
          show some (tl t) = _
          rw [ht]
          rfl
    obtain ⟨ns, rfl, hns⟩ := key
    exact k ns p8 G8 (n14_of hns hSc (by rw [tl_len]; omega) hSq) (freshB X4 hB4 hp8) (X4.trans x8) hB8 g8

/-! ### tuples in the heap, clocks in a dict (as in p_g5, p_g6, p_g9) -/
open TL (tl)
theorem c_slH {H : Hp} {Q : VK} {a : Addr} {xs : List V} {lo hi : Option Int} (h : H a = some (.tup xs)) (k : ∀ p H2, Ex H H2 → H2 p = some (.tup (cutV xs lo hi)) → Q (.ref p) H2) : rSlA K (.ref a) lo hi H Q := by
  refine ⟨a, xs, rfl, SqT.of h, fun ⟨z1, z2⟩ => k a H (Ex.refl _) ?_, fun _ p hp => k p _ (Ex.new hp) upd_same⟩
  unfold cutV
  rw [z1, z2, List.drop_zero, Nat.sub_zero, List.take_length]
  exact h
theorem c_catH {H : Hp} {Q : VK} {a b : Addr} {xs ys : List V} (ha : H a = some (.tup xs)) (hb : H b = some (.tup ys)) (hn : xs.length + ys.length ≤ 50000) (k : ∀ p H2, Ex H H2 → H2 p = some (.tup (xs ++ ys)) → Q (.ref p) H2) : rCatA K (.ref a) (.ref b) H Q := by
  refine ⟨a, b, xs, ys, rfl, rfl, SqT.of ha, SqT.of hb, by rw [sizeLine_eq]; omega, fun z => k b H (Ex.refl _) (by rw [z]; exact hb), fun _ z => k a H (Ex.refl _) (by rw [z, List.append_nil]; exact ha), fun _ _ p hp => k p _ (Ex.new hp) upd_same⟩
theorem eqL_nil (l : List Str) : eqL (l.map V.str) [] = l.isEmpty := by cases l <;> rfl
theorem cut_init (l : List Str) : cutV (l.map V.str) none (some (-1)) = l.dropLast.map V.str := by
  unfold cutV
  rw [HT.sIx_none, List.drop_zero, Nat.sub_zero, List.length_map]
  show List.take (if (-1 : Int) < 0 then ((-1 : Int) + (l.length : Int)).toNat else min (-1 : Int).toNat l.length) _ = _
  rw [if_pos (by decide), show ((-1 : Int) + (l.length : Int)).toNat = l.length - 1 from by omega, ← List.map_take, ← List.dropLast_eq_take]
theorem eqL_dec : ∀ (a b : List Str), eqL (a.map V.str) (b.map V.str) = decide (a = b)
  | [], [] => rfl
  | [], _ :: _ => rfl
  | _ :: _, [] => rfl
  | x :: a, y :: b => by
    show (eqV (.str x) (.str y) && eqL (a.map V.str) (b.map V.str)) = _
    rw [eqL_dec a b]
    have h : eqV (.str x) (.str y) = decide (x = y) := by
      by_cases e : x = y <;> simp [eqV, e]
    rw [h]
    by_cases e : x = y <;> by_cases f : a = b <;> simp [e, f]
/-- the clocks, in a dict with just these names -/
def CksAt (H : Hp) (cd : Addr) (U : List Str) (ck : Str → List Str) : Prop := ∃ kv, H cd = some (.dK kv) ∧ kv.map (·.1) = U.map (Sum.inr : Str → Key) ∧ ∀ s ∈ U, ∃ p, valV kv (.inr s) = some (.ref p) ∧ H p = some (.tup ((ck s).map V.str))

/-! ### k16: the rows -/
open TL (tl)
theorem c_gLst {H : Hp} {σ : St} {n : Nat} {a : Addr} {xs : List V} {gs : TGs} {q : St → Hp → Prop} (hs : SqL K H a xs) (hl : xs.length = n) (h : gs xs σ H q) : gLst K n gs (.ref a) σ H q := ⟨a, xs, rfl, hs, hl, h⟩
/-- the names drawn -/
structure Ns where
  a : Str
  b : Str
  c : Str
  d : Str
  x : Str
  y : Str
  z : Str
  w : Str
  v : Str
  p : Str
  q : Str
  cn : Str
  nn : Str
  sn : Str
def Ns.l (N : Ns) : List Str := [N.a, N.b, N.c, N.d, N.x, N.y, N.z, N.w, N.v, N.p, N.q, N.cn, N.nn, N.sn]
theorem N14.ns {ns : List Str} (h : N14 ns) : ∃ N : Ns, ns = N.l := by
  have hl := h.len
  match ns, hl with
  | [a, b, c, d, x, y, z, w, v, p, q, cn, nn, sn], _ => exact ⟨⟨a, b, c, d, x, y, z, w, v, p, q, cn, nn, sn⟩, rfl⟩
def Ns.rows (N : Ns) (f0 f1 f2 : V) : List Rw := [.pl N.x (.two "+" (.nm N.a) (.nt (.nm N.b))), .vd 0 N.y f0 N.a, .wh N.z N.a N.c, .vd 1 N.w f1 N.z, .vd 2 N.v f2 N.b, .sm [N.a, N.b], .cl [N.p, N.q] N.cn [N.a, N.b]]
/-- small values -/
def fst5 : List V := [.int 1, .int 0, .int 7, .bl true, .bl false]
/-- rows that are drawn: those seven in some order -/
def RwsOk (N : Ns) (rs : List Rw) : Prop := ∃ f0 f1 f2 : V, f0 ∈ fst5 ∧ f1 ∈ fst5 ∧ f2 ∈ fst5 ∧ rs.Perm (N.rows f0 f1 f2)
theorem RwsOk.len {N : Ns} {rs : List Rw} (h : RwsOk N rs) : rs.length = 7 := by
  obtain ⟨_, _, _, _, _, _, hp⟩ := h
  exact hp.length_eq
theorem paired_erase {α β : Type} {F : α → β → Prop} : ∀ {l : List α} {m : List β} (i : Nat), Paired F l m → Paired F (l.eraseIdx i) (m.eraseIdx i)
  | _, _, i, .nil => by simp; exact .nil
  | _, _, 0, .cons p q => q
  | _, _, i + 1, .cons p q => .cons p (paired_erase i q)
theorem paired_snoc {α β : Type} {F : α → β → Prop} {a : α} {b : β} (h : F a b) : ∀ {l : List α} {m : List β}, Paired F l m → Paired F (l ++ [a]) (m ++ [b])
  | _, _, .nil => .cons h .nil
  | _, _, .cons p q => .cons p (paired_snoc h q)
theorem erase_perm {α : Type} : ∀ {l : List α} {j : Nat} (h : j < l.length), (l[j] :: l.eraseIdx j).Perm l
  | a :: l, 0, _ => List.Perm.refl _
  | a :: l, j + 1, h => by
    have hj : j < l.length := by rw [List.length_cons] at h; omega
    have ih := erase_perm (l := l) (j := j) hj
    exact (List.Perm.swap a l[j] _).trans (List.Perm.cons a ih)
theorem turn_perm {α : Type} {l : List α} {i : Nat} {a : α} (h : l[i]? = some a) : (l.eraseIdx i ++ [a]).Perm l := by
  have h1 := List.getElem?_eq_some_iff.mp h
  obtain ⟨hi, he⟩ := h1
  have h2 := erase_perm hi
  rw [he] at h2
  exact (List.perm_append_comm (l₁ := l.eraseIdx i) (l₂ := [a])).trans h2
def sp_rows_l : Sp := fun vs H Q _ => ∃ (b nl : Addr) (N : Ns), vs = [.ref b, .ref nl] ∧ BoxAt H b ∧ H nl = some (.lst (N.l.map V.str)) ∧ ∀ (rs : List Rw) (us : List V) (p : Addr) (H2 : Hp), RwsOk N rs → Paired (RowAt H2) rs us → H p = none → ExB b H H2 → BoxAt H2 b → H2 p = some (.lst us) → Q (.ref p) H2
theorem ok_rows_l (T : Txt K mg Z) : FnOk P w K mg base CX0 2 Z.f_rows_l Z.fd_rows_l ["_law_box_here", "_law_names_here"] sp_rows_l := by
  have G_take_l := ok_take_l (P := P) (w := w) (base := base) T
  refine T.F_rows_l.ok sc_rows_l (fun vs H Q E h => ?_) (fun cdv AA outer s H vs Q E hr h => ?_)
  · obtain ⟨b, nl, N, rfl, _⟩ := h
    rfl
  · obtain ⟨b, nl, N, rfl, hB, gn, k⟩ := h
    refine ⟨_, (Evl.pss_cut (ps_asg (pe_slice sl_list (pv 1) po_none (po_some pe_int)) (pg_lst (by rfl) (pgs_cons (pg_name (i := 2) sc_rows_l.nd rfl (Or.inl rfl)) (pgs_cons (pg_name (i := 3) sc_rows_l.nd rfl (Or.inl rfl)) (pgs_cons (pg_name (i := 4) sc_rows_l.nd rfl (Or.inl rfl)) (pgs_cons (pg_name (i := 5) sc_rows_l.nd rfl (Or.inl rfl)) (pgs_cons (pg_name (i := 6) sc_rows_l.nd rfl (Or.inl rfl)) (pgs_cons (pg_name (i := 7) sc_rows_l.nd rfl (Or.inl rfl)) (pgs_cons (pg_name (i := 8) sc_rows_l.nd rfl (Or.inl rfl)) (pgs_cons (pg_name (i := 9) sc_rows_l.nd rfl (Or.inl rfl)) (pgs_cons (pg_name (i := 10) sc_rows_l.nd rfl (Or.inl rfl)) (pgs_cons (pg_name (i := 11) sc_rows_l.nd rfl (Or.inl rfl)) (pgs_cons (pg_name (i := 12) sc_rows_l.nd rfl (Or.inl rfl)) pgs_nil)))))))))))))
      (Evl.pss_cut (ps_set (i := 13) sc_rows_l.nd rfl (Or.inr rfl) (pe_lst (pa_cons pe_int (pa_cons pe_int (pa_cons pe_int (pa_cons pe_bl (pa_cons pe_bl pa_nil)))))))
      (Evl.pss_cut (ps_setLc (i := 14) (own := [("_law_k", 15)]) (g := (gName 15)) (tt := tYes) (te := (tOp (rIxL K) (tVar 13) (tCall sp_take_l [] E0 (tCons (tVar 0) (tCons (tC (.int 5)) tNil))))) rfl sc_rows_l.nd rfl rfl (sw_true rfl rfl rfl (by decide +kernel)) (pi_range1 (by rfl) T.n_range (pa_cons pe_int pa_nil)) (blkOk_by (own := [("_law_k", 15)]) (N := N_rows_l) (sc := defScope s_rows_l) (by decide +kernel)) (fun _ _ _ _ _ => (pg_name (i := 15) sc_rows_l.nd rfl (Or.inl rfl))) (fun _ _ _ _ _ => pts_nil) (fun _ _ _ _ _ => (pe_ix ix_list (pv 13) (pe_call G_take_l (hr.mono (by omega)) rfl T.g_take_l T.F_take_l.kp T.b_take_l .nil pass0 (pa_cons (pv 0) (pa_cons pe_int pa_nil))) (fun _ _ => rfl))))
      (Evl.pss_cut (ps_set (i := 16) sc_rows_l.nd rfl (Or.inl rfl) (pe_lst (pa_cons (pe_tup (pa_cons pe_str (pa_cons (pv 6) (pa_cons (pe_tup (pa_cons pe_str (pa_cons pe_str (pa_cons (pe_tup (pa_cons pe_str (pa_cons (pv 2) pa_nil))) (pa_cons (pe_tup (pa_cons pe_str (pa_cons (pe_tup (pa_cons pe_str (pa_cons (pv 3) pa_nil))) pa_nil))) pa_nil))))) pa_nil)))) (pa_cons (pe_tup (pa_cons pe_str (pa_cons (pv 7) (pa_cons (pe_ix ix_list (pv 14) pe_int (fun _ _ => rfl)) (pa_cons (pv 2) pa_nil))))) pa_nil))))
      (Evl.pss_cut (ps_set (i := 16) sc_rows_l.nd rfl (Or.inl rfl) (pe_op op_cat (pv 16) (pe_lst (pa_cons (pe_tup (pa_cons pe_str (pa_cons (pv 8) (pa_cons (pv 2) (pa_cons (pv 4) pa_nil))))) (pa_cons (pe_tup (pa_cons pe_str (pa_cons (pv 9) (pa_cons (pe_ix ix_list (pv 14) pe_int (fun _ _ => rfl)) (pa_cons (pv 8) pa_nil))))) (pa_cons (pe_tup (pa_cons pe_str (pa_cons (pv 10) (pa_cons (pe_ix ix_list (pv 14) pe_int (fun _ _ => rfl)) (pa_cons (pv 3) pa_nil))))) pa_nil))))))
      (Evl.pss_cut (ps_set (i := 16) sc_rows_l.nd rfl (Or.inl rfl) (pe_op op_cat (pv 16) (pe_lst (pa_cons (pe_tup (pa_cons pe_str (pa_cons (pe_tup (pa_cons (pv 2) (pa_cons (pv 3) pa_nil))) pa_nil))) (pa_cons (pe_tup (pa_cons pe_str (pa_cons (pe_tup (pa_cons (pv 11) (pa_cons (pv 12) pa_nil))) (pa_cons (pe_ix ix_list (pv 1) pe_int (fun _ _ => rfl)) (pa_cons (pe_tup (pa_cons (pv 2) (pa_cons (pv 3) pa_nil))) pa_nil))))) pa_nil)))))
      (pss_cons (ps_for PassesOwn.never rfl (pi_range1 (by rfl) T.n_range (pa_cons pe_int pa_nil)) (pg_name (i := 17) sc_rows_l.nd rfl (Or.inl rfl)) (pss_one (ps_expr (pe_bm PySem.F.plainAttrs_list PySem.F.slot_list_append PySem.F.type_list_append mt_append (pv 16) (pa_cons (pe_bm PySem.F.plainAttrs_list PySem.F.slot_list_pop PySem.F.type_list_pop mt_popAt (pv 16) (pa_cons (pe_call G_take_l (hr.mono (by omega)) rfl T.g_take_l T.F_take_l.kp T.b_take_l .nil pass0 (pa_cons (pv 0) (pa_cons pe_int pa_nil))) pa_nil)) pa_nil)))))
      (pss_one (ps_ret (pv 16)))))))))), ?_⟩
    refine c_cut (M := fun σ' G => σ' = [some (.ref b), some (.ref nl), some (.str N.a), some (.str N.b), some (.str N.c), some (.str N.d), some (.str N.x), some (.str N.y), some (.str N.z), some (.str N.w), some (.str N.v), some (.str N.p), some (.str N.q), none, none, none, none, none] ∧ Ex H G) ?_ ?_
    · walk_at "ss"
      refine ⟨nl, _, rfl, SqL.of gn, fun q1 hq1 => ?_⟩
      rw [show cutV (N.l.map V.str) none (some 11) = [.str N.a, .str N.b, .str N.c, .str N.d, .str N.x, .str N.y, .str N.z, .str N.w, .str N.v, .str N.p, .str N.q] from rfl]
      refine c_gLst (SqL.of upd_same) rfl ?_
      walk_at "ss"
      exact Ex.new hq1
    rintro σ' H1 ⟨rfl, e1⟩
    have nnb : nl ≠ b := box_ne hB gn fun x y z => strs_nobox x y z
    refine c_cut (M := fun σ' G => ∃ sm, σ' = [some (.ref b), some (.ref nl), some (.str N.a), some (.str N.b), some (.str N.c), some (.str N.d), some (.str N.x), some (.str N.y), some (.str N.z), some (.str N.w), some (.str N.v), some (.str N.p), some (.str N.q), some (.ref sm), none, none, none, none] ∧ Ex H G ∧ sm ≠ b ∧ G sm = some (.lst fst5)) ?_ ?_
    · walk_at "ss"
      refine newL fun sm H2 hsm e2 g2 => ?_
      have e12 := e1.trans e2
      walk_at "ss"
      exact ⟨e12, (by
        obtain ⟨o, ho⟩ := (hB.up e1).some
        exact (ne_of_none ho hsm).symm), g2⟩
    rintro σ' H2 ⟨sm, rfl, e12, nsb, g2⟩
    refine c_cut (M := fun σ' G => ∃ p4 v15 f0 f1 f2, σ' = [some (.ref b), some (.ref nl), some (.str N.a), some (.str N.b), some (.str N.c), some (.str N.d), some (.str N.x), some (.str N.y), some (.str N.z), some (.str N.w), some (.str N.v), some (.str N.p), some (.str N.q), some (.ref sm), some (.ref p4), v15, none, none] ∧ ExB b H G ∧ BoxAt G b ∧ f0 ∈ fst5 ∧ f1 ∈ fst5 ∧ f2 ∈ fst5 ∧ G p4 = some (.lst [f0, f1, f2])) ?_ ?_
    · walk_at "ss"
      refine ⟨by decide, by decide, ?_⟩
      refine lcRB (b := b) (n := 3) (fun y => y ∈ fst5) (by decide) (hB.up e12) (fun i hi H3 hB3 x3 R N hR => ?_) (fun ys p4 H4 hl hg hp4 x4 hB4 g4 => ?_)
      · walk_at "ss"
        refine ⟨b, 5, rfl, hB3, by decide, by decide, fun d H5 d0 d1 x5 hB5 => ?_⟩
        obtain ⟨v, hv, hvm⟩ := at_in (xs := fst5) d0 d1
        refine c_ixL (SqL.of (x5 _ _ nsb (x3 _ _ nsb g2))) hv ?_
        exact hR _ _ hvm hB5 x5
      obtain ⟨f0, f1, f2, rfl⟩ : ∃ f0 f1 f2, ys = [f0, f1, f2] := by
        match ys, hl with
        | [f0, f1, f2], _ => exact ⟨f0, f1, f2, rfl⟩
      walk_at "ss"
      exact ⟨p4, _, f0, f1, f2, rfl, (ExB.of e12).trans x4, hB4, hg f0 (by simp), hg f1 (by simp), hg f2 (by simp), g4⟩
    rintro σ' H4 ⟨p4, v15, f0, f1, f2, rfl, X4, hB4, hf0, hf1, hf2, g4⟩
    have gn4 := X4 _ _ nnb gn
    refine c_cut (M := fun σ' G => ∃ r1 u1 u2, σ' = [some (.ref b), some (.ref nl), some (.str N.a), some (.str N.b), some (.str N.c), some (.str N.d), some (.str N.x), some (.str N.y), some (.str N.z), some (.str N.w), some (.str N.v), some (.str N.p), some (.str N.q), some (.ref sm), some (.ref p4), v15, some (.ref r1), none] ∧ Ex H4 G ∧ G r1 = some (.lst [u1, u2]) ∧ RowAt G (.pl N.x (.two "+" (.nm N.a) (.nt (.nm N.b)))) u1 ∧ RowAt G (.vd 0 N.y f0 N.a) u2) ?_ ?_
    · walk_at "ss"
      refine newT fun t1 K1 ht1 c1 u1 => ?_
      walk_at "ss"
      refine newT fun t2 K2 ht2 c2 u2 => ?_
      walk_at "ss"
      refine newT fun t3 K3 ht3 c3 u3 => ?_
      walk_at "ss"
      refine newT fun t4 K4 ht4 c4 u4 => ?_
      walk_at "ss"
      refine newT fun t5 K5 ht5 c5 u5 => ?_
      have C5 := c1.trans (c2.trans (c3.trans (c4.trans c5)))
      walk_at "ss"
      refine c_ixL (SqL.of (C5 _ _ g4)) rfl ?_
      walk_at "ss"
      refine newT fun t6 K6 ht6 c6 u6 => ?_
      walk_at "ss"
      refine newL fun r1 K7 hr1 c7 u7 => ?_
      walk_at "ss"
      have D5 := c6.trans c7
      have D4 := c5.trans D5
      have D3 := c4.trans D4
      have D2 := c3.trans D3
      have D1 := c2.trans D2
      exact ⟨r1, _, _, rfl, c1.trans D1, u7, ⟨t5, .ref t4, rfl, D5 _ _ u5, t4, .ref t1, .ref t3, rfl, D4 _ _ u4, ⟨t1, rfl, D1 _ _ u1⟩, ⟨t3, .ref t2, rfl, D3 _ _ u3, ⟨t2, rfl, D2 _ _ u2⟩⟩⟩, ⟨t6, rfl, c7 _ _ u6⟩⟩
    rintro σ' K7 ⟨r1, u1, u2, rfl, C7, g7, R1, R2⟩
    refine c_cut (M := fun σ' G => ∃ r3 u3 u4 u5, σ' = [some (.ref b), some (.ref nl), some (.str N.a), some (.str N.b), some (.str N.c), some (.str N.d), some (.str N.x), some (.str N.y), some (.str N.z), some (.str N.w), some (.str N.v), some (.str N.p), some (.str N.q), some (.ref sm), some (.ref p4), v15, some (.ref r3), none] ∧ Ex K7 G ∧ G r3 = some (.lst [u1, u2, u3, u4, u5]) ∧ RowAt G (.wh N.z N.a N.c) u3 ∧ RowAt G (.vd 1 N.w f1 N.z) u4 ∧ RowAt G (.vd 2 N.v f2 N.b) u5) ?_ ?_
    · walk_at "ss"
      refine newT fun t8 K8 ht8 c8 m8 => ?_
      walk_at "ss"
      refine c_ixL (SqL.of ((C7.trans c8) _ _ g4)) rfl ?_
      walk_at "ss"
      refine newT fun t9 K9 ht9 c9 m9 => ?_
      walk_at "ss"
      refine c_ixL (SqL.of ((C7.trans (c8.trans c9)) _ _ g4)) rfl ?_
      walk_at "ss"
      refine newT fun t10 K10 ht10 c10 m10 => ?_
      walk_at "ss"
      refine newL fun r2 K11 hr2 c11 m11 => ?_
      refine c_cat ((c8.trans (c9.trans (c10.trans c11))) _ _ g7) m11 (fun r3 K12 hr3 c12 m12 => ?_) (by simp)
      walk_at "ss"
      have D10 := c11.trans c12
      have D9 := c10.trans D10
      have D8 := c9.trans D9
      exact ⟨r3, _, _, _, rfl, c8.trans D8, m12, ⟨t8, rfl, D8 _ _ m8⟩, ⟨t9, rfl, D9 _ _ m9⟩, ⟨t10, rfl, D10 _ _ m10⟩⟩
    rintro σ' K12 ⟨r3, u3, u4, u5, rfl, C12, g12, R3, R4, R5⟩
    refine c_cut (M := fun σ' G => ∃ r5 rs us, σ' = [some (.ref b), some (.ref nl), some (.str N.a), some (.str N.b), some (.str N.c), some (.str N.d), some (.str N.x), some (.str N.y), some (.str N.z), some (.str N.w), some (.str N.v), some (.str N.p), some (.str N.q), some (.ref sm), some (.ref p4), v15, some (.ref r5), none] ∧ Ex H4 G ∧ H4 r5 = none ∧ RwsOk N rs ∧ Paired (RowAt G) rs us ∧ G r5 = some (.lst us)) ?_ ?_
    · walk_at "ss"
      refine newT fun t13 K13 ht13 c13 m13 => ?_
      walk_at "ss"
      refine newT fun t14 K14 ht14 c14 m14 => ?_
      walk_at "ss"
      refine newT fun t15 K15 ht15 c15 m15 => ?_
      walk_at "ss"
      refine c_ixL (SqL.of ((C7.trans (C12.trans (c13.trans (c14.trans c15)))) _ _ gn4)) rfl ?_
      walk_at "ss"
      refine newT fun t16 K16 ht16 c16 m16 => ?_
      walk_at "ss"
      refine newT fun t17 K17 ht17 c17 m17 => ?_
      walk_at "ss"
      refine newL fun r4 K18 hr4 c18 m18 => ?_
      have D12 := c13.trans (c14.trans (c15.trans (c16.trans (c17.trans c18))))
      refine c_cat (D12 _ _ g12) m18 (fun r5 K19 hr5 c19 m19 => ?_) (by simp)
      walk_at "ss"
      have D17 := c18.trans c19
      have D16 := c17.trans D17
      have D15 := c16.trans D16
      have D14 := c15.trans D15
      have D13 := c14.trans D14
      have E12 := D12.trans c19
      refine ⟨r5, N.rows f0 f1 f2, _, rfl, C7.trans (C12.trans E12), fresh_back (C7.trans (C12.trans D12)) hr5, ⟨f0, f1, f2, hf0, hf1, hf2, List.Perm.refl _⟩, ?_, m19⟩
      exact .cons (R1.up (C12.trans E12)) (.cons (R2.up (C12.trans E12)) (.cons (R3.up E12) (.cons (R4.up E12) (.cons (R5.up E12) (.cons ⟨t14, t13, rfl, D14 _ _ m14, D13 _ _ m13⟩ (.cons ⟨t17, t15, t16, rfl, D17 _ _ m17, D15 _ _ m15, D16 _ _ m16⟩ .nil))))))
    rintro σ' K19 ⟨r5, rs0, us0, rfl, E19, hr54, hR0, hP0, g19⟩
    have X19 : ExB b H K19 := X4.trans (ExB.of E19)
    have B19 : BoxAt K19 b := hB4.up E19
    have hr5H : H r5 = none := freshB X4 hB4 hr54
    have nr5 : r5 ≠ b := by
      obtain ⟨o, ho⟩ := hB.some
      exact (ne_of_none ho hr5H).symm
    walk_at "ss"
    refine ⟨by decide, by decide, ?_⟩
    refine forR (fun i σ' G => (∃ v17, σ' = [some (.ref b), some (.ref nl), some (.str N.a), some (.str N.b), some (.str N.c), some (.str N.d), some (.str N.x), some (.str N.y), some (.str N.z), some (.str N.w), some (.str N.v), some (.str N.p), some (.str N.q), some (.ref sm), some (.ref p4), v15, some (.ref r5), v17]) ∧ ExB b H G ∧ BoxAt G b ∧ ∃ rs us, RwsOk N rs ∧ Paired (RowAt G) rs us ∧ G r5 = some (.lst us)) ⟨⟨_, rfl⟩, X19, B19, _, _, hR0, hP0, g19⟩ ?_ ?_
    · rintro i σ' G hi ⟨⟨v17, rfl⟩, xG, bG, rs, us, hR, hPG, gG⟩
      have hul := paired_len hPG
      have hrl := hR.len
      walk_at "ss"
      refine ⟨.inl ⟨rfl, _, SqL.of gG⟩, ?_⟩
      walk_at "ss"
      refine ⟨.inl ⟨rfl, _, SqL.of gG⟩, ?_⟩
      walk_at "ss"
      refine ⟨b, 7, rfl, bG, by decide, by decide, fun d G2 h0 h1 x2 b2 => ?_⟩
      obtain ⟨j, rfl⟩ := Int.eq_ofNat_of_zero_le h0
      have hj : j < us.length := by omega
      have hu : us[j]? = some us[j] := List.getElem?_eq_getElem hj
      obtain ⟨r, hr, hRr⟩ := paired_ix hPG hu
      have gG2 := x2 _ _ nr5 gG
      refine ⟨r5, _, _, j, us[j], rfl, rfl, gG2, by omega, by omega, ?_, hu, ?_⟩
      · rw [seqIndex_of (by omega) (by omega)]
        rfl
      refine ⟨r5, _, _, rfl, rfl, upd_same, Evl.sz_lt (by have := List.length_eraseIdx_le us j; omega), ?_⟩
      have nl2 : NL G2 (upd (upd G2 r5 (.lst (us.eraseIdx j))) r5 (.lst (us.eraseIdx j ++ [us[j]]))) := (NL.upd gG2).trans (NL.upd upd_same)
      have nlG := (NL.box x2 bG).trans nl2
      walk_at "ss"
      refine ⟨⟨_, rfl⟩, exB_put (exB_put (xG.trans x2) hr5H) hr5H, box_put (box_put b2 nr5.symm) nr5.symm, rs.eraseIdx j ++ [r], us.eraseIdx j ++ [us[j]], ?_, paired_snoc (hRr.nl nlG) (paired_erase j (paired_up (fun r u h => h.nl nlG) hPG)), upd_same⟩
      obtain ⟨f0, f1, f2, a0, a1, a2, hp⟩ := hR
      exact ⟨f0, f1, f2, a0, a1, a2, (turn_perm hr).trans hp⟩
    · rintro σ' G ⟨⟨v17, rfl⟩, xG, bG, rs, us, hR, hPG, gG⟩
      walk_at "ss"
      exact k rs us r5 G hR hPG hr5H xG bG gG

/-! ### k16: nodes and rows bent -/
open TL (tl)
def Ns.inner (N : Ns) : Nd := ⟨N.cn, [N.a, N.b], [N.p, N.q], [.pl N.p (.two "+" (.nm N.a) (.vl (.int 1))), .vd 0 N.q (.int 2) N.b]⟩
def Ns.node (N : Ns) (rs : List Rw) : Nd := ⟨N.nn, [N.a, N.b, N.c, N.d], [N.x], rs⟩
def sp_inner_l : Sp := fun vs H Q _ => ∃ (nl : Addr) (N : Ns), vs = [.ref nl] ∧ H nl = some (.lst (N.l.map V.str)) ∧ ∀ u H2, Ex H H2 → NdT H2 N.inner u → Q u H2
theorem ok_inner_l (T : Txt K mg Z) : FnOk P w K mg base CX0 1 Z.f_inner_l Z.fd_inner_l ["_law_names_here"] sp_inner_l := by
  refine T.F_inner_l.ok sc_inner_l (fun vs H Q E h => ?_) (fun cdv AA outer s H vs Q E hr h => ?_)
  · obtain ⟨nl, N, rfl, _⟩ := h
    rfl
  · obtain ⟨nl, N, rfl, gn, k⟩ := h
    refine ⟨_, (pss_cons (ps_asg (pe_tup (pa_cons (pe_ix ix_list (pv 0) pe_int (fun _ _ => rfl)) (pa_cons (pe_ix ix_list (pv 0) pe_int (fun _ _ => rfl)) (pa_cons (pe_ix ix_list (pv 0) pe_int (fun _ _ => rfl)) (pa_cons (pe_ix ix_list (pv 0) pe_int (fun _ _ => rfl)) pa_nil))))) (pg_tup (by rfl) (pgs_cons (pg_name (i := 1) sc_inner_l.nd rfl (Or.inl rfl)) (pgs_cons (pg_name (i := 2) sc_inner_l.nd rfl (Or.inl rfl)) (pgs_cons (pg_name (i := 3) sc_inner_l.nd rfl (Or.inl rfl)) (pgs_cons (pg_name (i := 4) sc_inner_l.nd rfl (Or.inl rfl)) pgs_nil))))))
      (pss_cons (ps_set (i := 5) sc_inner_l.nd rfl (Or.inl rfl) (pe_tup (pa_cons (pe_tup (pa_cons pe_str (pa_cons (pv 3) (pa_cons (pe_tup (pa_cons pe_str (pa_cons pe_str (pa_cons (pe_tup (pa_cons pe_str (pa_cons (pv 1) pa_nil))) (pa_cons (pe_tup (pa_cons pe_str (pa_cons pe_int pa_nil))) pa_nil))))) pa_nil)))) (pa_cons (pe_tup (pa_cons pe_str (pa_cons (pv 4) (pa_cons pe_int (pa_cons (pv 2) pa_nil))))) pa_nil))))
      (pss_one (ps_ret (pe_tup (pa_cons (pe_ix ix_list (pv 0) pe_int (fun _ _ => rfl)) (pa_cons (pe_tup (pa_cons (pv 1) (pa_cons (pv 2) pa_nil))) (pa_cons (pe_tup (pa_cons (pv 3) (pa_cons (pv 4) pa_nil))) (pa_cons (pv 5) pa_nil))))))))), ?_⟩
    walk_at "ss"
    refine c_ixL (SqL.of gn) rfl ?_
    walk_at "ss"
    refine c_ixL (SqL.of gn) rfl ?_
    walk_at "ss"
    refine c_ixL (SqL.of gn) rfl ?_
    walk_at "ss"
    refine c_ixL (SqL.of gn) rfl ?_
    walk_at "ss"
    refine newT fun t0 H0 ht0 e0 g0 => ?_
    refine c_gTup (SqT.of g0) rfl ?_
    walk_at "ss"
    refine newT fun t1 H1 ht1 e1 g1 => ?_
    walk_at "ss"
    refine newT fun t2 H2 ht2 e2 g2 => ?_
    walk_at "ss"
    refine newT fun t3 H3 ht3 e3 g3 => ?_
    walk_at "ss"
    refine newT fun t4 H4 ht4 e4 g4 => ?_
    walk_at "ss"
    refine newT fun t5 H5 ht5 e5 g5 => ?_
    walk_at "ss"
    refine newT fun t6 H6 ht6 e6 g6 => ?_
    have E6 := e0.trans (e1.trans (e2.trans (e3.trans (e4.trans (e5.trans e6)))))
    walk_at "ss"
    refine c_ixL (SqL.of (E6 _ _ gn)) rfl ?_
    walk_at "ss"
    refine newT fun t7 H7 ht7 e7 g7 => ?_
    walk_at "ss"
    refine newT fun t8 H8 ht8 e8 g8 => ?_
    walk_at "ss"
    refine newT fun t9 H9 ht9 e9 g9 => ?_
    have f2 := e3.trans (e4.trans (e5.trans (e6.trans (e7.trans (e8.trans e9)))))
    have f4 := e5.trans (e6.trans (e7.trans (e8.trans e9)))
    have f6 := e7.trans (e8.trans e9)
    refine k _ H9 (E6.trans f6) ⟨t9, t7, t8, t6, [.ref t4, .ref t5], rfl, g9, (e8.trans e9) _ _ g7, e9 _ _ g8, f6 _ _ g6, .cons ⟨t4, .ref t3, rfl, f4 _ _ g4, t3, .ref t1, .ref t2, rfl, (e4.trans f4) _ _ g3, ⟨t1, rfl, (e2.trans f2) _ _ g1⟩, ⟨t2, rfl, f2 _ _ g2⟩⟩ (.cons ⟨t5, rfl, (e6.trans f6) _ _ g5⟩ .nil)⟩
def sp_node_l : Sp := fun vs H Q _ => ∃ (nl rl : Addr) (N : Ns) (rs : List Rw) (us : List V), vs = [.ref nl, .ref rl] ∧ H nl = some (.lst (N.l.map V.str)) ∧ H rl = some (.lst us) ∧ Paired (RowAt H) rs us ∧ rs.length ≤ 1000 ∧ ∀ u H2, Ex H H2 → NdT H2 (N.node rs) u → Q u H2
theorem ok_node_l (T : Txt K mg Z) : FnOk P w K mg base CX0 1 Z.f_node_l Z.fd_node_l ["_law_names_here", "_law_rows_here"] sp_node_l := by
  refine T.F_node_l.ok sc_node_l (fun vs H Q E h => ?_) (fun cdv AA outer s H vs Q E hr h => ?_)
  · obtain ⟨nl, rl, N, rs, us, rfl, _⟩ := h
    rfl
  · obtain ⟨nl, rl, N, rs, us, rfl, gn, gr, hP, hrl, k⟩ := h
    refine ⟨_, (pss_one (ps_ret (pe_tup (pa_cons (pe_ix ix_list (pv 0) pe_int (fun _ _ => rfl)) (pa_cons (pe_callTy call_tuple_of (by rfl) T.n_tuple (by decide +kernel) (pa_cons (pe_slice sl_list (pv 0) po_none (po_some pe_int)) pa_nil)) (pa_cons (pe_tup (pa_cons (pe_ix ix_list (pv 0) pe_int (fun _ _ => rfl)) pa_nil)) (pa_cons (pe_callTy call_tuple_of (by rfl) T.n_tuple (by decide +kernel) (pa_cons (pv 1) pa_nil)) pa_nil))))))), ?_⟩
    walk_at "ss"
    refine c_ixL (SqL.of gn) rfl ?_
    walk_at "ss"
    refine ⟨nl, _, rfl, SqL.of gn, fun q1 hq1 => ?_⟩
    rw [show cutV (N.l.map V.str) none (some 4) = [.str N.a, .str N.b, .str N.c, .str N.d] from rfl]
    have e1 : Ex H (upd H q1 (.lst [.str N.a, .str N.b, .str N.c, .str N.d])) := Ex.new hq1
    have g1 : upd H q1 (.lst [.str N.a, .str N.b, .str N.c, .str N.d]) q1 = some (.lst [.str N.a, .str N.b, .str N.c, .str N.d]) := upd_same
    generalize upd H q1 (.lst [.str N.a, .str N.b, .str N.c, .str N.d]) = H1 at e1 g1
    walk_at "ss"
    refine ⟨_, _, rfl, .inl ⟨SqL.of g1, fun t2 ht2 => ?_⟩⟩
    have e2 : Ex H1 (upd H1 t2 (.tup [.str N.a, .str N.b, .str N.c, .str N.d])) := Ex.new ht2
    have g2 : upd H1 t2 (.tup [.str N.a, .str N.b, .str N.c, .str N.d]) t2 = some (.tup [.str N.a, .str N.b, .str N.c, .str N.d]) := upd_same
    generalize upd H1 t2 (.tup [.str N.a, .str N.b, .str N.c, .str N.d]) = H2 at e2 g2
    walk_at "ss"
    refine c_ixL (SqL.of ((e1.trans e2) _ _ gn)) rfl ?_
    walk_at "ss"
    refine newT fun t3 H3 ht3 e3 g3 => ?_
    have E3 := e1.trans (e2.trans e3)
    walk_at "ss"
    refine ⟨_, _, rfl, .inl ⟨SqL.of (E3 _ _ gr), fun t4 ht4 => ?_⟩⟩
    have e4 : Ex H3 (upd H3 t4 (.tup us)) := Ex.new ht4
    have g4 : upd H3 t4 (.tup us) t4 = some (.tup us) := upd_same
    generalize upd H3 t4 (.tup us) = H4 at e4 g4
    walk_at "ss"
    refine newT fun t5 H5 ht5 e5 g5 => ?_
    have E5 := E3.trans (e4.trans e5)
    exact k _ H5 E5 ⟨t5, t2, t3, t4, us, rfl, g5, (e3.trans (e4.trans e5)) _ _ g2, (e4.trans e5) _ _ g3, e5 _ _ g4, paired_up (fun r u h => h.up E5) hP⟩
/-! rows bent -/
inductive Shp : Rw → Prop
  | pl (n a b : Str) : Shp (.pl n (.two "+" (.nm a) (.nt (.nm b))))
  | vd (k : Nat) (n : Str) (v : V) (x : Str) : k < 3 → v ∈ fst5 → Shp (.vd k n v x)
  | wh (n x y : Str) : Shp (.wh n x y)
  | sm (a b : Str) : Shp (.sm [a, b])
  | cl (p q nd a b : Str) : Shp (.cl [p, q] nd [a, b])
inductive Bent (s : Str) : Rw → Rw → Prop
  | pl1 (n a b : Str) : Bent s (.pl n (.two "+" (.nm a) (.nt (.nm b)))) (.pl n (.two "+" (.nm s) (.nt (.nm b))))
  | pl2 (n a b : Str) : Bent s (.pl n (.two "+" (.nm a) (.nt (.nm b)))) (.pl n (.two "+" (.nm a) (.nt (.nm s))))
  | vd (k : Nat) (n : Str) (v : V) (x : Str) : k < 3 → v ∈ fst5 → Bent s (.vd k n v x) (.vd k n v s)
  | wh1 (n x y : Str) : Bent s (.wh n x y) (.wh n s y)
  | wh2 (n x y : Str) : Bent s (.wh n x y) (.wh n x s)
  | sm1 (a b : Str) : Bent s (.sm [a, b]) (.sm [s, b])
  | sm2 (a b : Str) : Bent s (.sm [a, b]) (.sm [a, s])
  | cl1 (p q nd a b : Str) : Bent s (.cl [p, q] nd [a, b]) (.cl [p, q] nd [s, b])
  | cl2 (p q nd a b : Str) : Bent s (.cl [p, q] nd [a, b]) (.cl [p, q] nd [a, s])
def sp_bent_l : Sp := fun vs H Q _ => ∃ (b : Addr) (u : V) (s : Str) (r : Rw), vs = [.ref b, u, .str s] ∧ BoxAt H b ∧ RowAt H r u ∧ Shp r ∧ ∀ (r' : Rw) (u' : V) (H2 : Hp), Bent s r r' → RowAt H2 r' u' → ExB b H H2 → BoxAt H2 b → Q u' H2

/-! ### sorted lists of texts, in order; places told from the machine (lines of p_st and p_so) -/
open PySem.Spec PyProof.Rows PySem.Calls
def unV : Value → V
  | .ref a => .ref a
  | _ => .non
theorem unV_refs : ∀ {xs : List V} {us : List Value}, Vals xs us → (∀ x ∈ xs, ∃ a, x = V.ref a) → xs = us.map unV ∧ ∀ u ∈ us, ∃ a, u = Value.ref a
  | _, _, .nil, _ => ⟨rfl, fun u hu => by cases hu⟩
  | x :: xs, _ :: us, .cons r t, h => by
    obtain ⟨a, rfl⟩ := h x List.mem_cons_self
    cases r
    obtain ⟨h1, h2⟩ := unV_refs t fun y hy => h y (List.mem_cons_of_mem _ hy)
    refine ⟨by rw [List.map_cons, ← h1]; rfl, fun u hu => ?_⟩
    rcases List.mem_cons.mp hu with e | hu
    · exact ⟨a, e⟩
    · exact h2 u hu
theorem unV_vals : ∀ {us : List Value}, (∀ u ∈ us, ∃ a, u = Value.ref a) → Vals (us.map unV) us
  | [], _ => .nil
  | u :: us, h => by
    obtain ⟨a, rfl⟩ := h u List.mem_cons_self
    exact .cons (show RelV (.ref a) (.ref a) from rfl) (unV_vals fun y hy => h y (List.mem_cons_of_mem _ hy))
section
variable {prog : Program} {w : World} {A : Around} {E : Value → Shared → Prop} {s : Shared}
def sv : Value → Str
  | .str z _ => z
  | _ => ""
def ltSv (v u : Value) : Bool := decide ((sv v).cps.toList < (sv u).cps.toList)
theorem swo_sv : SrtO.Swo ltSv := by
  refine ⟨fun x y h => ?_, fun x y z h1 h2 => ?_⟩
  · have a := of_decide_eq_true (p := (sv x).cps.toList < (sv y).cps.toList) h
    exact decide_eq_false (p := (sv y).cps.toList < (sv x).cps.toList) fun b => List.lt_irrefl _ (List.lt_trans a b)
  · have a := of_decide_eq_false (p := (sv y).cps.toList < (sv x).cps.toList) h1
    have b := of_decide_eq_false (p := (sv z).cps.toList < (sv y).cps.toList) h2
    exact decide_eq_false (p := (sv z).cps.toList < (sv x).cps.toList) (List.not_lt.mpr (List.le_trans (List.not_lt.mp a) (List.not_lt.mp b)))
theorem strs_mem : ∀ {vs : List Value} {ns : List Str}, StrsAre vs ns → ∀ v ∈ vs, ∃ i t, v = Value.str i t
  | _, _, .nil, v, h => absurd h (by simp)
  | _, _, .cons n t r, v, h => by
    rcases List.mem_cons.mp h with e | h
    · exact ⟨n, t, e⟩
    · exact strs_mem r v h
theorem strs_sv : ∀ {vs : List Value}, (∀ v ∈ vs, ∃ i t, v = Value.str i t) → StrsAre vs (vs.map sv)
  | [], _ => .nil
  | v :: vs, h => by
    obtain ⟨i, t, e⟩ := h v List.mem_cons_self
    subst e
    exact .cons i t (strs_sv fun u hu => h u (List.mem_cons_of_mem _ hu))
theorem sv_strs : ∀ {vs : List Value} {ns : List Str}, StrsAre vs ns → vs.map sv = ns
  | _, _, .nil => rfl
  | _, _, .cons n t r => congrArg (n :: ·) (sv_strs r)
theorem str_cmp {vs : List Value} {ns : List Str} (hI : StrsAre vs ns) : SrtO.Cmp prog w A s oneType' (fun p => p.1 ∈ vs) (SrtO.lt2 ltSv) := by
  intro p q hm hm'
  obtain ⟨a, t, e⟩ := strs_mem hI _ hm
  obtain ⟨b, u, e'⟩ := strs_mem hI _ hm'
  show wpAny (model prog w) A (keyLt' oneType' p.1 q.1) (fun r s' => s' = s ∧ r = ltSv p.1 q.1) (fun _ _ => False) s
  rw [e, e', keyLt'_oneType]
  exact oneLt_str ⟨rfl, rfl⟩
theorem strs_sortable {a : Addr} {vs : List Value} {ns : List Str} (hI : StrsAre vs ns) (h2 : 2 ≤ vs.length) : SrtO.SortableO prog w A s a vs ltSv := by
  intro h' _
  refine ⟨oneType', fun Q E hq => ?_, str_cmp hI⟩
  match vs, hI, h2 with
  | v1 :: v2 :: rest, hI, _ =>
    rw [keyKind_strs hI]
    exact wpAny_pure hq
  | [], _, h => exact absurd h (by decide)
  | [v], _, h => exact absurd h (by simp)
/-- no text of the list is ahead of one that stands before it -/
def leS (a b : Str) : Prop := ¬ b.cps.toList < a.cps.toList
theorem strs_out {vs out : List Value} {ns : List Str} (hI : StrsAre vs ns) (hs : SrtO.Srtd ltSv out) (hb : SrtO.Stb ltSv out vs) : StrsAre out (out.map sv) ∧ (out.map sv).Perm ns ∧ (out.map sv).Pairwise leS := by
  refine ⟨strs_sv fun v hv => strs_mem hI v (hb.perm.mem_iff.mp hv), ?_, ?_⟩
  · have q := hb.perm.map sv
    rw [sv_strs hI] at q
    exact q
  · exact List.pairwise_map.mpr (hs.imp fun {x y} h => of_decide_eq_false (p := (sv y).cps.toList < (sv x).cps.toList) h)
theorem leS_anti {a b : Str} (h1 : leS a b) (h2 : leS b a) : a = b := by
  have e : a.cps.toList = b.cps.toList := List.le_antisymm (List.not_lt.mp h1) (List.not_lt.mp h2)
  exact TL.ext_tl e
theorem sorted_one {l m : List Str} (h1 : l.Pairwise leS) (h2 : m.Pairwise leS) (hp : l.Perm m) : l = m := List.Perm.eq_of_pairwise (fun _ _ _ _ => leS_anti) h1 h2 hp
end
/-- sorted(xs), texts, any number of them -/
def rSortedSA (K : PySem.W.Frag) : List V → Hp → VK → Prop := fun vs H Q => ∃ (a : Addr) (ns : List Str), vs = [V.ref a] ∧ SqL K H a (ns.map V.str) ∧
  ∀ (ns' : List Str) (p : Addr), ns'.Perm ns → ns'.Pairwise leS → H p = none → Q (.ref p) (upd H p (.lst (ns'.map V.str)))
section
variable {X : Cx}
theorem cr_sortedSA : CallR X (.builtin "sorted") (rSortedSA X.K) := by
  intro pins s σ H vs us Q I r h
  obtain ⟨a, ns, rfl, hs, q⟩ := h
  obtain ⟨its, rv, hl, hz⟩ := I.list hs
  rw [Vals.ref1 r]
  have hi := rv.strs
  refine SrtO.sorted_ord swo_sv hl.isList (by rw [← rv.length]; exact hz) (fun h2 h₁ a' _ _ => strs_sortable hi h2) fun out h1 h2 => ?_
  obtain ⟨k1, k2, k3⟩ := strs_out hi h1 h2
  obtain ⟨ep, he'⟩ := PyProof.Rows.sortedAll_at s.heap its out.toArray
  have hlen : ((out.map sv).map V.str).length ≤ sizeLine := by
    rw [List.length_map, k2.length_eq]
    rw [List.length_map] at hz
    exact hz
  exact ⟨.ref _, upd H (s.heap.objs.size + 1) (.lst ((out.map sv).map V.str)), I.laid (t' := s.toks) (fun _ _ => PyProof.Rows.sortedAll_old) (Nat.le_succ _) ⟨hlen, out, ep, vals_of_strs k1, he'⟩, rfl, q _ _ k2 k3 (I.hok.fresh (Nat.le_succ _))⟩
end

/-! ### sorted lists of tuples whose first things are unlike texts (behind p_st, p_so) -/
open PySem.Spec PyProof.Rows PySem.Calls
section
variable {prog : Program} {w : World} {A : Around} {E : Value → Shared → Prop} {s : Shared}
theorem eqBool_same {v : Value} {Q : Bool → Shared → Prop} (h : Q true s) : wpAny (model prog w) A (eqBool v v) Q E s := by
  unfold eqBool
  refine wpAny_holding ?_
  rw [if_pos (beq_self_eq_true v)]
  exact wpAny_bind (wpAny_rule (wpAny_pure h))
theorem kat_same {b : Bool} {Q : Bool → Shared → Prop} (h : Q false s) : ∀ (rs : List Value) (i : Nat), PySem.W.KatLex prog w A b false Q (rs.zip rs) i s
  | [], _ => PySem.W.kat_nil h
  | v :: rs, i => PySem.W.kat_cons (eqBool_same (PySem.W.kat_yes (kat_same h rs (i + 1))))
/-- the value is a tuple that begins with that text -/
def IsF (h : Heap) (v : Value) (z : Str) : Prop := ∃ a o t rs n, v = .ref a ∧ h.get? a = some o ∧ o.cls = .type "tuple" ∧ o.data = .seq (Value.str z t :: rs).toArray n
theorem IsF.keeps {h h' : Heap} {v : Value} {z : Str} (p : IsF h v z) (k : ∀ b o, h.get? b = some o → o.cls = .type "tuple" → h'.get? b = some o) : IsF h' v z := by
  obtain ⟨a, o, t, rs, n, e, ho, hc, hd⟩ := p
  exact ⟨a, o, t, rs, n, e, k _ _ ho hc, hc, hd⟩
theorem f_tups {h : Heap} : ∀ {vs : List Value}, (∀ v ∈ vs, ∃ z, IsF h v z) → ∃ fs, TupsOf h (fun _ => true) vs fs ∧ fs.length = vs.length
  | [], _ => ⟨[], .nil, rfl⟩
  | v :: vs, hp => by
    obtain ⟨fs, h1, h2⟩ := f_tups (vs := vs) fun v' hm => hp v' (List.mem_cons_of_mem _ hm)
    obtain ⟨z, a, o, t, rs, n, e, ho, hc, hd⟩ := hp v List.mem_cons_self
    exact ⟨.str z t :: fs, .cons ⟨a, o, _, n, e, ho, hc, hd, rfl, (fun hh => by cases hh), fun _ => ⟨z, t, rfl⟩⟩ h1, by rw [List.length_cons, List.length_cons, h2]⟩
def ltF (k : Value → Str) (v u : Value) : Bool := decide ((k v).cps.toList < (k u).cps.toList)
theorem swo_f (k : Value → Str) : SrtO.Swo (ltF k) := by
  refine ⟨fun x y h => ?_, fun x y z h1 h2 => ?_⟩
  · have a := of_decide_eq_true (p := (k x).cps.toList < (k y).cps.toList) h
    exact decide_eq_false (p := (k y).cps.toList < (k x).cps.toList) fun b => List.lt_irrefl _ (List.lt_trans a b)
  · have a := of_decide_eq_false (p := (k y).cps.toList < (k x).cps.toList) h1
    have b := of_decide_eq_false (p := (k z).cps.toList < (k y).cps.toList) h2
    exact decide_eq_false (p := (k z).cps.toList < (k x).cps.toList) (List.not_lt.mpr (List.le_trans (List.not_lt.mp a) (List.not_lt.mp b)))
theorem f_sortable {a : Addr} {vs : List Value} {k : Value → Str} (h0 : 0 < vs.length) (hp : ∀ v ∈ vs, IsF s.heap v (k v)) (hu : ∀ v ∈ vs, ∀ u ∈ vs, k v = k u → v = u) (ha : ∀ o, s.heap.get? a = some o → o.cls ≠ .type "tuple") : SrtO.SortableO prog w A s a vs (ltF k) := by
  intro h' keep
  have hp' : ∀ v ∈ vs, IsF h' v (k v) := fun v hm => (hp v hm).keeps fun b o e c => keep b o (fun z => by subst z; exact ha o e c) e
  obtain ⟨fs, h1, h2⟩ := f_tups fun v hm => ⟨_, hp' v hm⟩
  refine ⟨tuples' true, fun Q E hq => tup_kind (s := { s with heap := h' }) (by omega) h1 hq, fun p q hm hm' => ?_⟩
  obtain ⟨a1, o1, t1, r1, n1, e1, ho1, _, hd1⟩ := hp' _ hm
  obtain ⟨a2, o2, t2, r2, n2, e2, ho2, _, hd2⟩ := hp' _ hm'
  show wpAny (model prog w) A (keyLt' (tuples' true) p.1 q.1) (fun r s' => s' = { s with heap := h' } ∧ r = ltF k p.1 q.1) (fun _ _ => False) { s with heap := h' }
  have hw : wpAny (model prog w) A (keyLt' (tuples' true) (.ref a1) (.ref a2)) (fun r s' => s' = { s with heap := h' } ∧ r = ltF k p.1 q.1) (fun _ _ => False) { s with heap := h' } := by
    refine PySem.W.kat_lt (s := { s with heap := h' }) ho1 hd1 ho2 hd2 ?_
    show PySem.W.KatLex prog w A true _ _ ((Value.str (k p.1) t1, Value.str (k q.1) t2) :: r1.zip r2) 0 _
    refine PySem.W.kat_cons (wpAny_eqBool_str ?_)
    refine PySem.W.kat_go (fun e => PySem.W.kat_yes ?_) (fun e => PySem.W.kat_no ?_)
    · have hk : k p.1 = k q.1 := of_decide_eq_true e
      have he := hu _ hm _ hm' hk
      have ea : a1 = a2 := by rw [e1, e2] at he; exact Value.ref.inj he
      subst ea
      rw [ho1] at ho2
      cases ho2
      rw [hd1] at hd2
      have hr : (Value.str (k p.1) t1 :: r1).toArray = (Value.str (k q.1) t2 :: r2).toArray := by injection hd2
      have hr2 : r1 = r2 := by
        have := congrArg Array.toList hr
        simp at this
        exact this.2
      subst hr2
      rw [show decide ((Value.str (k p.1) t1 :: r1).toArray.size < (Value.str (k q.1) t2 :: r1).toArray.size) = false from decide_eq_false (by simp)]
      refine kat_same ⟨rfl, ?_⟩ r1 _
      unfold ltF
      rw [hk]
      exact (decide_eq_false (List.lt_irrefl _)).symm
    · exact oneLt_any_str ⟨rfl, rfl⟩
  rw [e1, e2]
  rw [e1, e2] at hw
  exact hw
end
def FsAt (K : PySem.W.Frag) (H : Hp) (x : V) (z : Str) : Prop := ∃ t rest, x = .ref t ∧ SqT K H t (.str z :: rest)
def rSortF (K : PySem.W.Frag) : List V → Hp → VK → Prop := fun vs H Q => ∃ (a : Addr) (xs : List V) (k : V → Str), vs = [V.ref a] ∧ SqL K H a xs ∧ (∀ x ∈ xs, FsAt K H x (k x)) ∧ (∀ x ∈ xs, ∀ y ∈ xs, k x = k y → x = y) ∧
  ∀ (ys : List V) (p : Addr), ys.Perm xs → ys.Pairwise (fun x y => leS (k x) (k y)) → H p = none → Q (.ref p) (upd H p (.lst ys))
section
variable {X : Cx}
theorem call_sortF : CallR X (.builtin "sorted") (rSortF X.K) := by
  intro pins s σ H vs us Q I r h
  obtain ⟨a, xs, k, rfl, hs, hx, hu, q⟩ := h
  obtain ⟨its, rv, hl, hz⟩ := I.list hs
  rw [Vals.ref1 r]
  obtain ⟨e1, e2⟩ := unV_refs rv fun x m => by
    obtain ⟨t, _, e, _⟩ := hx x m
    exact ⟨t, e⟩
  have hmem : ∀ v ∈ its, unV v ∈ xs := fun v hv => by
    rw [e1]
    exact List.mem_map.mpr ⟨_, hv, rfl⟩
  have hnt : ∀ v ∈ its, IsF s.heap v (k (unV v)) := fun v hv => by
    have hm := hmem v hv
    obtain ⟨t, rfl⟩ := e2 v hv
    obtain ⟨t', rest, e, ht⟩ := hx _ hm
    cases e
    obtain ⟨its2, rv2, hT, _⟩ := I.tuple ht
    obtain ⟨o, ho, hc, n, hd⟩ := hT
    cases rv2 with
    | cons r1 r2 =>
      obtain ⟨k1, rfl⟩ := r1
      exact ⟨t, o, k1, _, n, rfl, ho, hc, hd⟩
  have huu : ∀ v ∈ its, ∀ u ∈ its, k (unV v) = k (unV u) → v = u := fun v hv u hu2 e => by
    have := hu _ (hmem v hv) _ (hmem u hu2) e
    obtain ⟨t, rfl⟩ := e2 v hv
    obtain ⟨t2, rfl⟩ := e2 u hu2
    exact congrArg Value.ref (V.ref.inj this)
  refine SrtO.sorted_ord (vs := its) (swo_f fun v => k (unV v)) hl.isList (by rw [← rv.length]; exact hz) (fun h2 h₁ a' ha kk => f_sortable (s := { s with heap := h₁ }) (by omega) (fun v hm => (hnt v hm).keeps fun b o e _ => (kk b o e).2) huu fun o e => ?_) fun out h1 h2 => ?_
  · have e' : some o = some (seqObj "list" its.toArray 0) := e.symm.trans ha
    cases e'
    intro c
    exact absurd (Value.type.inj c) (by decide)
  · have ho := h2.perm
    obtain ⟨ep, he'⟩ := sortedAll_at s.heap its out.toArray
    have h3 : ∀ u ∈ out, ∃ a, u = Value.ref a := fun u hu => e2 u (ho.mem_iff.mp hu)
    have hp : (out.map unV).Perm xs := by
      rw [e1]
      exact ho.map unV
    have hlen : (out.map unV).length ≤ sizeLine := by
      rw [hp.length_eq]
      exact hz
    have hpw : (out.map unV).Pairwise (fun x y => leS (k x) (k y)) := List.pairwise_map.mpr (h1.imp fun {x y} h => of_decide_eq_false (p := (k (unV y)).cps.toList < (k (unV x)).cps.toList) h)
    exact ⟨.ref _, upd H (s.heap.objs.size + 1) (.lst (out.map unV)), I.laid (t' := s.toks) (fun _ _ => sortedAll_old) (Nat.le_succ _) ⟨hlen, out, ep, unV_vals h3, he'⟩, rfl, q _ _ hp hpw (I.hok.fresh (Nat.le_succ _))⟩
end

/-! ### k48: the forms of programs -/
open TL (tl)
theorem c_lcV {σ : L2.St} {H : Hp} {Q : VK} {td : TE} {g : L2.TG} {tt : TT} {te : TE} {vs : List Nat} (h : td σ H fun x H1 => ∃ d o kvs, x = .ref d ∧ H1 d = some (.frz o (.dK kvs)) ∧ LcI (Itd d o kvs) g tt te vs σ H1 Q) : tLc (iVals td) g tt te vs σ H Q := h
/-- a comprehension over the values of a dict, each thing made with a property -/
theorem lcVN {σ : L2.St} {H : Hp} {Q : VK} {g : L2.TG} {tt : TT} {te : TE} {vs : List Nat} {d : Addr} {o : Obj} {kvs : List (Key × V)} (P : Nat → V → Hp → Prop) (hst : ∀ i y G G2, NL G G2 → P i y G → P i y G2) (hd : H d = some (.frz o (.dK kvs))) (hn : kvs.length ≤ 1000)
    (ht : ∀ (i : Nat) (key : Key) (x : V), kvs[i]? = some (key, x) → ∀ H2, Ex H H2 → ∀ (R : V → Hp → Prop) (N : Hp → Prop), (∀ y H3, Ex H2 H3 → P i y H3 → R y H3) →
      g x (wipe σ vs) H2 fun σ2 H3 => wipe σ2 vs = wipe σ vs ∧ tt σ2 H3 fun c H4 => if c = true then te σ2 H4 fun y H5 => R y H5 else N H4)
    (k : ∀ ys p H2, ys.length = kvs.length → (∀ i y, ys[i]? = some y → P i y H2) → H p = none → Ex H H2 → H2 p = some (.lst ys) → Q (.ref p) H2) : LcI (Itd d o kvs) g tt te vs σ H Q := by
  refine fun D hD => ?_
  have ex : ∀ {G : Hp} {o : HO}, Ex H G → Ex H (upd G D o) := fun e b u hb => by rw [upd_ne (ne_of_none hb hD)]; exact e b u hb
  refine lc_it walk_values (fun i H' => i ≤ kvs.length ∧ Ex H H' ∧ ∃ ys, ys.length = i ∧ (∀ j y, ys[j]? = some y → P j y H') ∧ H' D = some (.lst ys))
    ⟨Nat.zero_le _, ex (Ex.refl _), [], rfl, (fun j y h => by simp at h), upd_same⟩ (fun i H' _ p => p.2.1 _ _ hd) (fun i x H' H'' hi p y => ?_) (fun H' p => ?_)
  · obtain ⟨rfl, key, hk⟩ := y
    obtain ⟨_, e1, ys, hl, hy, hD'⟩ := p
    have hil := (List.getElem?_eq_some_iff.mp hk).1
    refine ht i key x hk _ e1 (fun y H4 => ∃ acc, H4 D = some (.lst acc) ∧ acc.length < sizeLine ∧ (i + 1 ≤ kvs.length ∧ Ex H (upd H4 D (.lst (acc ++ [y]))) ∧ ∃ zs, zs.length = i + 1 ∧ (∀ j y2, zs[j]? = some y2 → P j y2 (upd H4 D (.lst (acc ++ [y])))) ∧ upd H4 D (.lst (acc ++ [y])) D = some (.lst zs))) _ (fun y H3 e3 py => ?_)
    have hD3 := e3 _ _ hD'
    have eD : NL H3 (upd H3 D (.lst (ys ++ [y]))) := NL.upd hD3
    refine ⟨ys, hD3, Evl.sz_lt (by omega), hil, ex (e1.trans e3), ys ++ [y], by rw [List.length_append, hl]; rfl, fun j y2 hj => ?_, upd_same⟩
    rcases Nat.lt_or_ge j ys.length with h | h
    · rw [List.getElem?_append_left h] at hj
      exact hst _ _ _ _ eD (hst _ _ _ _ (NL.of e3) (hy j y2 hj))
    · rw [List.getElem?_append_right h] at hj
      have hj0 : j - ys.length = 0 := by
        have := (List.getElem?_eq_some_iff.mp hj).1
        rw [List.length_singleton] at this
        omega
      rw [hj0] at hj
      have hyy : y = y2 := by simpa using hj
      subst hyy
      have : j = i := by omega
      subst this
      exact hst _ _ _ _ eD py
  · obtain ⟨_, e1, ys, hl, hy, hD'⟩ := p
    exact k ys D H' hl hy hD e1 hD'
theorem ndT_tu {H G : Hp} {n : Nd} {u : V} (h : NdT H n u) (e : TupK H G) : NdT G n u := by
  obtain ⟨a, p, q, t, us, h1, h2, h3, h4, h5, h6⟩ := h
  exact ⟨a, p, q, t, us, h1, e _ _ h2, e _ _ h3, e _ _ h4, e _ _ h5, paired_up (fun r u h => h.tu e) h6⟩
theorem ndT_nl48 {H G : Hp} {n : Nd} {u : V} (h : NdT H n u) (e : NL H G) : NdT G n u := ndT_tu h fun a xs ha => NL.tup e ha
theorem pgK_ix : ∀ {ns : List Nd} {us : List V} {i : Nat} {key : Key} {x : V}, (pgK ns us)[i]? = some (key, x) → us[i]? = some x
  | [], _, i, key, x, h => by simp [pgK] at h
  | _ :: _, [], i, key, x, h => by simp [pgK] at h
  | n :: ns, v :: us, 0, key, x, h => by
    have : ((.inr n.nm : Key), v) = (key, x) := Option.some.inj h
    rw [(Prod.mk.inj this).2]
    rfl
  | n :: ns, v :: us, i + 1, key, x, h => pgK_ix (ns := ns) (us := us) (i := i) h
theorem pgK_full : ∀ {ns : List Nd} {us : List V}, ns.length = us.length → (pgK ns us).length = ns.length
  | [], [], _ => rfl
  | n :: ns, v :: us, h => by
    simp only [pgK, List.length_cons]
    rw [pgK_full (by simpa using h)]
  | [], _ :: _, h => by cases h
  | _ :: _, [], h => by cases h
theorem paired_nth48 {α β : Type} {F : α → β → Prop} : ∀ {l : List α} {m : List β}, l.length = m.length → (∀ (i : Nat) (a : α) (b : β), l[i]? = some a → m[i]? = some b → F a b) → Paired F l m
  | [], [], _, _ => .nil
  | a :: l, b :: m, hl, h => .cons (h 0 a b rfl rfl) (paired_nth48 (by simpa using hl) fun i x y hx hy => h (i + 1) x y (by simpa using hx) (by simpa using hy))
  | [], _ :: _, h, _ => by cases h
  | _ :: _, [], h, _ => by cases h
def MCP (Z : Adr) (C : Addr) : Prop := C = Z.c_Program
/-- a program that stands, its nodes made ahead of it -/
def PgOk (Z : Adr) (H0 H : Hp) (ns : List Nd) (us : List V) (v : V) : Prop := PgFr Z H0 H ns us v ∧ Ex H0 H ∧ Paired (NdAt Z H0) ns us ∧ (∀ n ∈ ns, n.good) ∧ ns.length ≤ 300
def spmP_told (Z : Adr) (C : Addr) : Sp := fun vs H Q _ => ∃ (H0 : Hp) (ns : List Nd) (us : List V) (v : V), vs = [v] ∧ PgOk Z H0 H ns us v ∧ ∀ t ts H2, Ex H H2 → H2 t = some (.tup ts) → Paired (NdT H2) ns ts → Q (.ref t) H2
theorem ok_Program_told (T : Txt K mg Z)  : FnOk P w K mg base CX0 (6) Z.f_Program_told Z.fd_Program_told ["self"] (spmP_told Z Z.c_Program) := by
  refine T.F_Program_told.ok sc_Program_told (fun vs H Q E h => ?_) (fun cdv AA outer s H vs Q E hr h => ?_)
  · obtain ⟨H0, ns, us, v, rfl, _⟩ := h
    rfl
  · obtain ⟨H0, ns, us, v, rfl, ⟨⟨x, dx, td, rfl, hx, htd, _, h0x, h0td⟩, e0, hps, hg, hl⟩, k⟩ := h
    have GMN_told := gmN_told (P := P) (w := w) (base := base) T
    obtain ⟨cP, nP⟩ := tcP T
    have hpl := paired_len hps
    have hkl := pgK_full hpl
    refine ⟨_, (pss_one (ps_ret (pe_callTy call_tuple_of (by rfl) T.n_tuple (by decide +kernel) (pa_cons (pe_lock (pe_lc (own := [("one", 1)]) (g := (gName 1)) (tt := tYes) (te := (tMP (MCN Z) "told" (spmN_told Z) E0 (tVar 1) tNil)) rfl sc_Program_told.nd (pi_values (pe_fld (pv 0) (by rfl))) (blkOk_by (own := [("one", 1)]) (N := N_Program_told) (sc := defScope s_Program_told) (by decide +kernel)) (fun _ _ _ _ _ => (pg_name (i := 1) sc_Program_told.nd rfl (Or.inl rfl))) (fun _ _ _ _ _ => pts_nil) (fun _ _ _ _ _ => (pe_methP0 (pv 1) GMN_told (hr.mono (by omega)) pass0)))) pa_nil)))), ?_⟩
    walk_at "ss"
    refine c_lockE htd trivial fun od => ?_
    refine c_lcV ?_
    walk_at "ss"
    have hxt : x ≠ td := ne_of hx htd (fun z => by cases z)
    have hx' : upd H td (.frz od (.dK (pgK ns us))) x = some (.ins Z.c_Program dx [("by_name", .ref td)]) := by rw [upd_ne hxt]; exact hx
    have e0' : Ex H0 (upd H td (.frz od (.dK (pgK ns us)))) := Ex.mut e0 h0td
    refine ⟨x, _, dx, _, _, rfl, hx', cP, nP _ (by simp), rfl, ?_⟩
    refine ⟨td, od, pgK ns us, rfl, upd_same, lcVN (fun i y G => ∃ n, ns[i]? = some n ∧ NdT G n y) (fun i y G G2 e ⟨n, h1, h2⟩ => ⟨n, h1, ndT_nl48 h2 e⟩) upd_same (by omega) (fun i key y hy F2 f2 R N hR => ?_) ?_⟩
    · have hy2 := pgK_ix hy
      obtain ⟨n, hn, hN⟩ := paired_ix hps hy2
      have hN2 := hN.up (e0'.trans f2)
      obtain ⟨a, dxa, fs, rfl, ha, la⟩ : ∃ a dx fs, y = .ref a ∧ F2 a = some (.ins Z.c_Node dx fs) ∧ fs.lookup ("told" : Str) = none := by
        obtain ⟨a, dx, li, lo, lr, td, evs, us, rfl, h1, _⟩ := hN2
        exact ⟨a, dx, _, rfl, h1, rfl⟩
      walk_at "ss"
      refine ⟨a, _, dxa, fs, rfl, ha, rfl, la, ?_⟩
      walk_at "ss"
      refine ⟨n, _, rfl, hN2, hg n (List.mem_of_getElem? hn), fun t F3 f3 ht => ?_⟩
      exact hR _ _ f3 ⟨n, hn, ht⟩
    intro ys p G3 hyl hys hp e3 g3
    refine ⟨e3 _ _ upd_same, ?_⟩
    have E3 : Ex H (upd G3 td (.dK (pgK ns us))) := ex_unlock htd e3
    have npt : p ≠ td := fun z => by rw [z, upd_same] at hp; cases hp
    have g3' : upd G3 td (.dK (pgK ns us)) p = some (.lst ys) := by rw [upd_ne npt]; exact g3
    have hT : Paired (NdT (upd G3 td (.dK (pgK ns us)))) ns ys := paired_nth48 (by omega) fun i n y hn hy => by
      obtain ⟨m, hm, hTm⟩ := hys i y hy
      rw [hn] at hm
      cases hm
      refine ndT_tu hTm fun a xs ha => ?_
      rw [upd_ne (ne_of ha (e3 _ _ upd_same) (fun z => by cases z))]
      exact ha
    generalize upd G3 td (.dK (pgK ns us)) = G4 at E3 g3' hT
    refine ⟨_, _, rfl, .inl ⟨SqL.of g3', fun t ht => ?_⟩⟩
    exact k t ys _ (E3.trans (Ex.new ht)) upd_same (paired_up (fun n u h => h.up (Ex.new ht)) hT)
theorem gmP_told (T : Txt K mg Z) : ∀ C, MCP Z C → MOk P w K mg base CX0 6 C "told" (spmP_told Z C) := by
  rintro C rfl
  exact ⟨(tcB_ok T.x_Program).cl, _, _, _, ⟨T.h_told_Program, T.y_Program_told, T.F_Program_told.kp⟩, ok_Program_told (P := P) (w := w) (base := base) T, T.b_Program_told⟩
/-- what is told of a node by its form -/
def FmAt (H : Hp) (fd : Addr) (n : Nd) (y : V) : Prop := ∃ (t pi po l : Addr) (rs : List Str), y = .ref t ∧ H t = some (.tup [.str n.nm, .ref pi, .ref po, .ref l]) ∧ H pi = some (.tup (n.ins.map V.str)) ∧ H po = some (.tup (n.outs.map V.str)) ∧ H l = some (.lst (rs.map V.str)) ∧ l ≠ fd ∧ rs.Perm (n.rows.map fun r => r.data.shown) ∧ rs.Pairwise leS
theorem FmAt.keep {H G : Hp} {fd : Addr} {n : Nd} {y : V} {zs : List V} (h : FmAt H fd n y) (x : ExB fd H G) (hfd : H fd = some (.lst zs)) : FmAt G fd n y := by
  obtain ⟨t, pi, po, l, rs, h1, h2, h3, h4, h5, h6, h7, h8⟩ := h
  have k : ∀ {a : Addr} {xs : List V}, H a = some (.tup xs) → G a = some (.tup xs) := fun ha => x _ _ (ne_of ha hfd (fun z => by cases z)) ha
  exact ⟨t, pi, po, l, rs, h1, k h2, k h3, k h4, x _ _ h6 h5, h6, h7, h8⟩
/-- the same, of a list that stands -/
def FmA (H : Hp) (n : Nd) (y : V) : Prop := ∃ (t pi po l : Addr) (rs : List Str), y = .ref t ∧ H t = some (.tup [.str n.nm, .ref pi, .ref po, .ref l]) ∧ H pi = some (.tup (n.ins.map V.str)) ∧ H po = some (.tup (n.outs.map V.str)) ∧ H l = some (.lst (rs.map V.str)) ∧ rs.Perm (n.rows.map fun r => r.data.shown) ∧ rs.Pairwise leS
theorem FmAt.a {H : Hp} {fd : Addr} {n : Nd} {y : V} (h : FmAt H fd n y) : FmA H n y := by
  obtain ⟨t, pi, po, l, rs, h1, h2, h3, h4, h5, _, h7, h8⟩ := h
  exact ⟨t, pi, po, l, rs, h1, h2, h3, h4, h5, h7, h8⟩
theorem FmA.up {H G : Hp} {n : Nd} {y : V} (h : FmA H n y) (e : Ex H G) : FmA G n y := by
  obtain ⟨t, pi, po, l, rs, h1, h2, h3, h4, h5, h7, h8⟩ := h
  exact ⟨t, pi, po, l, rs, h1, e _ _ h2, e _ _ h3, e _ _ h4, e _ _ h5, h7, h8⟩
theorem perm_paired {α β : Type} {F : α → β → Prop} {ys zs : List β} (hp : zs.Perm ys) : ∀ {ns : List α}, Paired F ns ys → ∃ ms : List α, ms.Perm ns ∧ Paired F ms zs := by
  induction hp with
  | nil => intro ns h; cases h; exact ⟨[], List.Perm.refl _, .nil⟩
  | cons x _ ih =>
    intro ns h
    cases h with
    | cons h1 t =>
      obtain ⟨ms, h2, h3⟩ := ih t
      exact ⟨_ :: ms, h2.cons _, .cons h1 h3⟩
  | swap x y l =>
    intro ns h
    cases h with
    | cons h1 t =>
      cases t with
      | cons h2 t => exact ⟨_, List.Perm.swap _ _ _, .cons h2 (.cons h1 t)⟩
  | trans _ _ ih1 ih2 =>
    intro ns h
    obtain ⟨ms, h1, h2⟩ := ih2 h
    obtain ⟨ks, h3, h4⟩ := ih1 h2
    exact ⟨ks, h3.trans h1, h4⟩
def kF (H : Hp) : V → Str
  | .ref a => match H a with
    | some (.tup (.str s :: _)) => s
    | _ => ""
  | _ => ""
theorem kF_at {H : Hp} {n : Nd} {y : V} (h : FmA H n y) : kF H y = n.nm := by
  obtain ⟨t, pi, po, l, rs, rfl, h2, _⟩ := h
  show (match H t with
    | some (.tup (.str s :: _)) => s
    | _ => "") = _
  rw [h2]
theorem kF_map {H : Hp} : ∀ {ns : List Nd} {ys : List V}, Paired (FmA H) ns ys → ys.map (kF H) = ns.map Nd.nm
  | _, _, .nil => rfl
  | _, _, .cons h t => by rw [List.map_cons, List.map_cons, kF_at h, kF_map t]
def sp_form_of (Z : Adr) : Sp := fun vs H Q _ => ∃ (H0 : Hp) (ns : List Nd) (us : List V) (v : V), vs = [v] ∧ PgOk Z H0 H ns us v ∧ (ns.map Nd.nm).Nodup ∧ ∀ (ms : List Nd) (zs : List V) (p : Addr) (G : Hp), Ex H G → ms.Perm ns → ms.Pairwise (fun a b => leS a.nm b.nm) → G p = some (.lst zs) → Paired (FmA G) ms zs → Q (.ref p) G
theorem ok_form_of (T : Txt K mg Z)  : FnG P w K mg base CX0 (12) Z.f_form_of Z.fd_form_of ["program"] (sp_form_of Z) := by
  refine T.F_form_of.okG sc_form_of (fun vs H Q E h => ?_) (fun cdv AA outer s H vs Q E hgd hr h => ?_)
  · obtain ⟨H0, ns, us, v, rfl, _⟩ := h
    rfl
  · obtain ⟨H0, ns, us, v, rfl, hP, hnd, k⟩ := h
    have GMP_told := gmP_told (P := P) (w := w) (base := base) T
    have hgood := hP.2.2.2.1
    have hl := hP.2.2.2.2
    refine ⟨_, (pss_cons (ps_set (i := 1) sc_form_of.nd rfl (Or.inl rfl) (pe_lst pa_nil))
      (pss_cons (ps_for PassesOwn.never rfl (pi_tup (pe_methP0 (pv 0) GMP_told (hr.mono (by omega)) pass0)) (pg_tup (by rfl) (pgs_cons (pg_name (i := 2) sc_form_of.nd rfl (Or.inl rfl)) (pgs_cons (pg_name (i := 3) sc_form_of.nd rfl (Or.inl rfl)) (pgs_cons (pg_name (i := 4) sc_form_of.nd rfl (Or.inl rfl)) (pgs_cons (pg_name (i := 5) sc_form_of.nd rfl (Or.inl rfl)) pgs_nil))))) (pss_one (ps_expr (pe_bm PySem.F.plainAttrs_list PySem.F.slot_list_append PySem.F.type_list_append mt_append (pv 1) (pa_cons (pe_tup (pa_cons (pv 2) (pa_cons (pv 3) (pa_cons (pv 4) (pa_cons (pe_callB cr_sortedSA (by rfl) T.n_sorted (by decide +kernel) (pa_cons (pe_lc (own := [("row", 6)]) (g := (gName 6)) (tt := tYes) (te := (tCB (rRepr K) (tCons (tVar 6) tNil))) rfl sc_form_of.nd (pi_tup (pv 5)) (blkOk_by (own := [("row", 6)]) (N := N_form_of) (sc := defScope s_form_of) (by decide +kernel)) (fun _ _ _ _ _ => (pg_name (i := 6) sc_form_of.nd rfl (Or.inl rfl))) (fun _ _ _ _ _ => pts_nil) (fun _ _ _ _ _ => (pe_callB (call_reprD hgd hr) (by rfl) T.n_repr (by decide +kernel) (pa_cons (pv 6) pa_nil)))) pa_nil)) pa_nil))))) pa_nil)))))
      (pss_one (ps_ret (pe_callB call_sortF (by rfl) T.n_sorted (by decide +kernel) (pa_cons (pv 1) pa_nil)))))), ?_⟩
    walk_at "ss"
    refine newL fun fd H1 hfd e1 g1 => ?_
    have hP1 : PgOk Z H0 H1 ns us v := by
      obtain ⟨⟨x, dx, td, h1, h2, h3, h4, h5, h6⟩, h7, h8⟩ := hP
      exact ⟨⟨x, dx, td, h1, e1 _ _ h2, e1 _ _ h3, paired_up (fun n u h => h.up e1) h4, h5, h6⟩, h7.trans e1, h8⟩
    walk_at "ss"
    obtain ⟨x, dx, fs, rfl, hx, lx⟩ : ∃ a dx fs, v = .ref a ∧ H1 a = some (.ins Z.c_Program dx fs) ∧ fs.lookup ("told" : Str) = none := by
      obtain ⟨⟨x, dx, td, h1, h2, _⟩, _⟩ := hP1
      exact ⟨x, dx, _, h1, h2, rfl⟩
    refine ⟨x, _, dx, fs, rfl, hx, rfl, lx, ?_⟩
    walk_at "ss"
    refine ⟨H0, ns, us, _, rfl, hP1, fun t ts H2 e2 gt hT => ?_⟩
    have g2 := e2 _ _ g1
    have hpl := paired_len hT
    walk_at "ss"
    have keepT : ∀ {G : Hp}, ExB fd H2 G → TupK H2 G := fun x a xs ha => x _ _ (ne_of ha g2 (fun z => by cases z)) ha
    refine ⟨⟨_, SqT.of gt⟩, forT (xs := ts) (fun i σ' G => (∃ v2 v3 v4 v5 v6, σ' = [some (.ref x), some (.ref fd), v2, v3, v4, v5, v6]) ∧ ExB fd H2 G ∧ ∃ ys, ys.length = i ∧ G fd = some (.lst ys) ∧ Paired (FmAt G fd) (ns.take i) ys) ⟨⟨_, _, _, _, _, rfl⟩, ExB.refl _ _, [], rfl, g2, .nil⟩ (fun i σ' G _ q => SqT.of (keepT q.2.1 _ _ gt)) ?_ ?_⟩
    · rintro i u σ' G hu ⟨⟨v2, v3, v4, v5, v6, rfl⟩, xG, ys, hyl, gfd, hys⟩
      have hil := (List.getElem?_eq_some_iff.mp hu).1
      obtain ⟨n, hn, hTn⟩ := paired_ix hT hu
      obtain ⟨a, p, q, t2, rs, rfl, ha, hp, hq, ht2, hrs⟩ := ndT_tu hTn (keepT xG)
      have hg := hgood n (List.mem_of_getElem? hn)
      have hrl := paired_len hrs
      have hr300 := hg.row1
      refine c_gTup (SqT.of ha) rfl ?_
      walk_at "ss"
      refine ⟨.inl ⟨rfl, _, SqL.of gfd⟩, ?_⟩
      walk_at "ss"
      refine ⟨⟨_, SqT.of ht2⟩, lcT (fun i => (n.rows[i]?).bind fun r => some (V.str r.data.shown)) (SqT.of ht2) (by omega) (fun i x hx => ?_) ?_⟩
      · obtain ⟨r, hr2, hR⟩ := paired_ix hrs hx
        have hgr := (hg.row r (List.mem_of_getElem? hr2)).1
        intro H9 e9 R hRR
        obtain ⟨b, _, hub, _⟩ := (hR.up e9).hd
        subst hub
        walk_at "ss"
        refine c_repr ((hR.up e9).dp hgr) (Rw.rp hgr) ?_ (by decide) (by decide)
        rw [hr2] at hRR
        exact hRR _ (Ex.refl _)
      rw [← hrl, fm_range (l := n.rows) (F := fun r => some (V.str r.data.shown)), fm_some (F := fun r : Rw => V.str r.data.shown)]
      intro l3 G3 hl3 e3 g3
      walk_at "ss"
      refine ⟨l3, n.rows.map fun r => r.data.shown, rfl, SqL.of (by rw [g3, List.map_map]; rfl), fun ss l4 hpm hpw hl4 => ?_⟩
      have e4 : Ex G3 (upd G3 l4 (.lst (ss.map V.str))) := Ex.new hl4
      have g4 : upd G3 l4 (.lst (ss.map V.str)) l4 = some (.lst (ss.map V.str)) := upd_same
      generalize upd G3 l4 (.lst (ss.map V.str)) = G4 at e4 g4
      walk_at "ss"
      refine newT fun t5 G5 ht5 e5 g5 => ?_
      have E5 := Ex.trans e3 (e4.trans e5)
      have gfd5 := E5 _ _ gfd
      refine ⟨fd, _, _, rfl, rfl, gfd5, Evl.sz_lt (by omega), ?_⟩
      have n4 : l4 ≠ fd := (ne_of_none (e3 _ _ gfd) hl4).symm
      have X6 : ExB fd G5 (upd G5 fd (.lst (ys ++ [.ref t5]))) := ExB.upd
      have hnew : FmAt G5 fd n (.ref t5) := ⟨t5, p, q, l4, ss, rfl, g5, E5 _ _ hp, E5 _ _ hq, e5 _ _ g4, n4, hpm, hpw⟩
      walk_at "ss"
      refine ⟨⟨_, _, _, _, _, rfl⟩, xG.trans ((ExB.of E5).trans X6), ys ++ [.ref t5], by rw [List.length_append, hyl]; rfl, upd_same, ?_⟩
      rw [List.take_add_one, hn]
      exact paired_snoc (hnew.keep X6 gfd5) (paired_up (fun n y h => (h.keep (ExB.of E5) gfd).keep X6 gfd5) hys)
    · rintro σ' G ⟨⟨v2, v3, v4, v5, v6, rfl⟩, xG, ys, hyl, gfd, hys⟩
      rw [← hpl, List.take_length] at hys
      have hya : Paired (FmA G) ns ys := paired_up (fun n y h => h.a) hys
      walk_at "ss"
      refine ⟨fd, ys, kF G, rfl, SqL.of gfd, fun y hy => ?_, fun y hy z hz e => ?_, fun zs p hpm hpw hp => ?_⟩
      · obtain ⟨i, hi⟩ := List.getElem?_of_mem hy
        obtain ⟨n, hn, hF⟩ := paired_ix hya hi
        rw [kF_at hF]
        obtain ⟨t, pi, po, l, rs, rfl, h2, _⟩ := hF
        exact ⟨t, _, rfl, SqT.of h2⟩
      · obtain ⟨i, hi⟩ := List.getElem?_of_mem hy
        obtain ⟨j, hj⟩ := List.getElem?_of_mem hz
        obtain ⟨n, hn, hF⟩ := paired_ix hya hi
        obtain ⟨m, hm, hF2⟩ := paired_ix hya hj
        rw [kF_at hF, kF_at hF2] at e
        have h1 : (ns.map Nd.nm)[i]? = some n.nm := by rw [List.getElem?_map, hn]; rfl
        have h2 : (ns.map Nd.nm)[j]? = some n.nm := by rw [List.getElem?_map, hm, e]; rfl
        have hij : i = j := by
          obtain ⟨i1, i2⟩ := List.getElem?_eq_some_iff.mp h1
          obtain ⟨j1, j2⟩ := List.getElem?_eq_some_iff.mp h2
          have hp := List.pairwise_iff_getElem.mp hnd
          rcases Nat.lt_trichotomy i j with hlt | he | hgt
          · exact absurd (i2.trans j2.symm) (hp i j i1 j1 hlt)
          · exact he
          · exact absurd (j2.trans i2.symm) (hp j i j1 i1 hgt)
        subst hij
        exact Option.some.inj (hi.symm.trans hj)
      · have eP : Ex G (upd G p (.lst zs)) := Ex.new hp
        obtain ⟨ms, h1, h2⟩ := perm_paired hpm hya
        have hpw2 : ms.Pairwise (fun a b => leS a.nm b.nm) := by
          have := List.pairwise_map.mpr hpw
          rw [kF_map h2] at this
          exact List.pairwise_map.mp this
        have xH : Ex H (upd G p (.lst zs)) := fun a o ha => eP _ _ (xG _ _ (ne_of_none ha hfd) ((e1.trans e2) _ _ ha))
        exact k ms zs p _ xH h1 hpw2 upd_same (paired_up (fun n y h => h.up eP) h2)

/-! ### k48: forms as data -/
open TL (tl)
/-! data of texts alone -/
mutual
inductive TxD : PyData → Prop
  | str (s : Str) : OkT s → TxD (.str s)
  | tup {ds : List PyData} : TxDs ds → TxD (.tuple ds)
  | lst {ds : List PyData} : TxDs ds → TxD (.list ds)
inductive TxDs : List PyData → Prop
  | nil : TxDs []
  | cons {d : PyData} {ds : List PyData} : TxD d → TxDs ds → TxDs (d :: ds)
end
mutual
theorem eqv_tx : ∀ {d : PyData}, TxD d → ∀ {e : PyData}, TxD e → (PyData.eqv d e = true ↔ d = e)
  | _, .str s _, _, .str t _ => by simp [PyData.eqv]
  | _, .str s _, _, .tup _ => by simp [PyData.eqv]
  | _, .str s _, _, .lst _ => by simp [PyData.eqv]
  | _, .tup _, _, .str t _ => by simp [PyData.eqv]
  | _, .tup h, _, .tup k => by
    have := eqvs_tx h k
    simp [PyData.eqv, this]
  | _, .tup _, _, .lst _ => by simp [PyData.eqv]
  | _, .lst _, _, .str t _ => by simp [PyData.eqv]
  | _, .lst _, _, .tup _ => by simp [PyData.eqv]
  | _, .lst h, _, .lst k => by
    have := eqvs_tx h k
    simp [PyData.eqv, this]
theorem eqvs_tx : ∀ {d : List PyData}, TxDs d → ∀ {e : List PyData}, TxDs e → (PyData.eqvAll d e = true ↔ d = e)
  | _, .nil, _, .nil => by simp [PyData.eqvAll]
  | _, .nil, _, .cons _ _ => by simp [PyData.eqvAll]
  | _, .cons _ _, _, .nil => by simp [PyData.eqvAll]
  | _, .cons h t, _, .cons k u => by
    have h1 := eqv_tx h k
    have h2 := eqvs_tx t u
    simp [PyData.eqvAll, h1, h2]
end
theorem txDs_strs : ∀ {ns : List Str}, (∀ s ∈ ns, OkT s) → TxDs (ns.map PyData.str)
  | [], _ => .nil
  | s :: ns, h => .cons (.str s (h s List.mem_cons_self)) (txDs_strs fun z hz => h z (List.mem_cons_of_mem _ hz))
mutual
theorem sh_ok : ∀ (d : PyData), plD d = true → ∀ c ∈ sh d, c < 128
  | .none, _ => by rw [sh_none]; decide
  | .bool true, _ => by rw [sh_true]; decide
  | .bool false, _ => by rw [sh_false]; decide
  | .int i, _ => fun c hc => by
    have := List.all_eq_true.mp (sh_int_all i) c hc
    unfold dgC at this
    simp at this
    omega
  | .str s, h => by
    rw [plD] at h
    rw [sh_str h]
    intro c hc
    simp only [List.mem_cons, List.mem_append, List.not_mem_nil, or_false] at hc
    rcases hc with rfl | hc | rfl
    · decide
    · have := List.all_eq_true.mp h c hc
      unfold plC at this
      rw [decide_eq_true_eq] at this
      omega
    · decide
  | .list ds, h => by
    rw [plD] at h
    rw [sh_list]
    intro c hc
    simp only [List.mem_cons, List.mem_append, List.not_mem_nil, or_false] at hc
    rcases hc with rfl | hc | rfl
    · decide
    · exact jl_ok ds h c hc
    · decide
  | .tuple ds, h => by
    rw [plD] at h
    rw [sh_tuple]
    intro c hc
    rcases List.mem_cons.mp hc with rfl | hc
    · decide
    · rcases List.mem_append.mp hc with hc | hc
      · exact jl_ok ds h c hc
      · match ds, hc with
        | [], hc => simp [endT] at hc; omega
        | [d], hc => simp [endT] at hc; omega
        | d :: e :: ds, hc => simp [endT] at hc; omega
  | .dict _, h => by rw [plD] at h; cases h
theorem tlj_ok : ∀ (ds : List PyData), plAll ds = true → ∀ c ∈ tlj ds, c < 128
  | [], _ => fun c hc => by cases hc
  | d :: ds, h => by
    rw [plAll, Bool.and_eq_true] at h
    intro c hc
    have hc : c ∈ 44 :: 32 :: (sh d ++ tlj ds) := hc
    simp only [List.mem_cons, List.mem_append] at hc
    rcases hc with rfl | rfl | hc | hc
    · decide
    · decide
    · exact sh_ok d h.1 c hc
    · exact tlj_ok ds h.2 c hc
theorem jl_ok : ∀ (ds : List PyData), plAll ds = true → ∀ c ∈ jl ds, c < 128
  | [], _ => fun c hc => by cases hc
  | d :: ds, h => by
    rw [plAll, Bool.and_eq_true] at h
    intro c hc
    have hc : c ∈ sh d ++ tlj ds := hc
    rcases List.mem_append.mp hc with hc | hc
    · exact sh_ok d h.1 c hc
    · exact tlj_ok ds h.2 c hc
end
theorem okT_shown {d : PyData} (h : plD d = true) : OkT d.shown := fun c hc => by
  have := sh_ok d h c hc
  omega
def leB (a b : Str) : Bool := !decide (b.cps.toList < a.cps.toList)
theorem leB_iff {a b : Str} : leB a b = true ↔ leS a b := by
  unfold leB leS
  simp
/-- texts in order -/
def srtS (l : List Str) : List Str := l.mergeSort leB
theorem leS_total (a b : Str) : leS a b ∨ leS b a := by
  rcases Classical.em (leS a b) with h | h
  · exact .inl h
  · have h2 : b.cps.toList < a.cps.toList := Classical.not_not.mp h
    exact .inr fun z => List.lt_irrefl _ (List.lt_trans h2 z)
theorem leS_trans {a b c : Str} (h1 : leS a b) (h2 : leS b c) : leS a c := List.not_lt.mpr (List.le_trans (List.not_lt.mp h1) (List.not_lt.mp h2))
theorem srtS_perm (l : List Str) : (srtS l).Perm l := List.mergeSort_perm _ _
theorem srtS_ord (l : List Str) : (srtS l).Pairwise leS := by
  have := List.pairwise_mergeSort (le := leB) (fun a b c h1 h2 => leB_iff.mpr (leS_trans (leB_iff.mp h1) (leB_iff.mp h2))) (fun a b => by
    rcases leS_total a b with h | h
    · rw [leB_iff.mpr h]; rfl
    · rw [leB_iff.mpr h]; simp) l
  exact this.imp fun h => leB_iff.mp h
theorem srtS_one {l m : List Str} (hp : m.Perm l) (hs : m.Pairwise leS) : m = srtS l := sorted_one hs (srtS_ord l) (hp.trans (srtS_perm l).symm)
theorem srtS_eq {l m : List Str} : srtS l = srtS m ↔ l.Perm m := by
  constructor
  · intro h
    exact (srtS_perm l).symm.trans (h ▸ srtS_perm m)
  · intro h
    exact srtS_one ((srtS_perm l).trans h) (srtS_ord l)
/-- what the form tells of a node -/
def Nd.fm (n : Nd) : PyData := .tuple [.str n.nm, strsD n.ins, strsD n.outs, .list ((srtS (n.rows.map fun r => r.data.shown)).map PyData.str)]
theorem fm_tx {n : Nd} (g : n.good) : TxD n.fm := .tup (.cons (.str _ g.nm.2.2) (.cons (.tup (txDs_strs fun s hs => (g.inG s hs).2.2)) (.cons (.tup (txDs_strs fun s hs => (g.outG s hs).1.2.2)) (.cons (.lst (txDs_strs fun s hs => by
  obtain ⟨r, hr, rfl⟩ := List.mem_map.mp ((srtS_perm _).mem_iff.mp hs)
  exact okT_shown (row_pl (g.row r hr).1))) .nil))))
theorem fms_tx : ∀ {ns : List Nd}, (∀ n ∈ ns, n.good) → TxDs (ns.map Nd.fm)
  | [], _ => .nil
  | n :: ns, h => .cons (fm_tx (h n List.mem_cons_self)) (fms_tx fun z hz => h z (List.mem_cons_of_mem _ hz))
theorem strs_inj {l m : List Str} (h : l.map PyData.str = m.map PyData.str) : l = m := by
  induction l generalizing m with
  | nil => cases m with
    | nil => rfl
    | cons a m => cases h
  | cons a l ih => cases m with
    | nil => cases h
    | cons b m =>
      rw [List.map_cons, List.map_cons] at h
      injection h with h1 h2
      injection h1 with h1
      rw [h1, ih h2]
theorem fm_eq {n m : Nd} : n.fm = m.fm ↔ n.nm = m.nm ∧ n.ins = m.ins ∧ n.outs = m.outs ∧ (n.rows.map fun r => r.data.shown).Perm (m.rows.map fun r => r.data.shown) := by
  constructor
  · intro h
    unfold Nd.fm strsD at h
    injection h with h
    injection h with h1 h
    injection h with h2 h
    injection h with h3 h
    injection h with h4 h
    injection h1 with h1
    injection h2 with h2
    injection h3 with h3
    injection h4 with h4
    exact ⟨h1, strs_inj h2, strs_inj h3, srtS_eq.mp (strs_inj h4)⟩
  · rintro ⟨h1, h2, h3, h4⟩
    unfold Nd.fm
    rw [h1, h2, h3, srtS_eq.mpr h4]
theorem FmA.dp {H : Hp} {n : Nd} {y : V} (h : FmA H n y) : Dp K H y n.fm := by
  obtain ⟨t, pi, po, l, rs, rfl, h2, h3, h4, h5, h7, h8⟩ := h
  have e := srtS_one h7 h8
  unfold Nd.fm
  rw [← e]
  exact .tup (SqT.of h2) (.cons (.str _) (.cons (.tup (SqT.of h3) dp_strs) (.cons (.tup (SqT.of h4) dp_strs) (.cons (.lst (SqL.of h5) dp_strs) .nil))))
theorem fms_dp {H : Hp} : ∀ {ns : List Nd} {ys : List V}, Paired (FmA H) ns ys → DpAll K H ys (ns.map Nd.fm)
  | _, _, .nil => .nil
  | _, _, .cons h t => .cons h.dp (fms_dp t)
def nmD : PyData → Str
  | .tuple (.str s :: _) => s
  | _ => ""
theorem nm_fm (n : Nd) : nmD n.fm = n.nm := rfl
theorem nodup_ij {l : List Str} (h : l.Nodup) {i j : Nat} {s : Str} (hi : l[i]? = some s) (hj : l[j]? = some s) : i = j := by
  obtain ⟨i1, i2⟩ := List.getElem?_eq_some_iff.mp hi
  obtain ⟨j1, j2⟩ := List.getElem?_eq_some_iff.mp hj
  have hp := List.pairwise_iff_getElem.mp h
  rcases Nat.lt_trichotomy i j with hlt | he | hgt
  · exact absurd (i2.trans j2.symm) (hp i j i1 j1 hlt)
  · exact he
  · exact absurd (j2.trans i2.symm) (hp j i j1 i1 hgt)
theorem nodup_nm {ms : List Nd} (h : (ms.map Nd.nm).Nodup) {n m : Nd} (hn : n ∈ ms) (hm : m ∈ ms) (e : n.nm = m.nm) : n = m := by
  obtain ⟨i, hi⟩ := List.getElem?_of_mem hn
  obtain ⟨j, hj⟩ := List.getElem?_of_mem hm
  have h1 : (ms.map Nd.nm)[i]? = some n.nm := by rw [List.getElem?_map, hi]; rfl
  have h2 : (ms.map Nd.nm)[j]? = some n.nm := by rw [List.getElem?_map, hj, e]; rfl
  have hij : i = j := nodup_ij h h1 h2
  subst hij
  exact Option.some.inj (hi.symm.trans hj)
/-- forms in order are alike where they tell the same nodes -/
theorem forms_eq {ms ks : List Nd} (h1 : ms.Pairwise (fun a b => leS a.nm b.nm)) (h2 : ks.Pairwise (fun a b => leS a.nm b.nm)) (hn : (ms.map Nd.nm).Nodup) : ms.map Nd.fm = ks.map Nd.fm ↔ (ms.map Nd.fm).Perm (ks.map Nd.fm) := by
  refine ⟨fun h => h ▸ List.Perm.refl _, fun hp => ?_⟩
  refine List.Perm.eq_of_pairwise (le := fun d e => leS (nmD d) (nmD e)) (fun d e hd he r1 r2 => ?_) (List.pairwise_map.mpr h1) (List.pairwise_map.mpr h2) hp
  obtain ⟨n, hn1, rfl⟩ := List.mem_map.mp hd
  obtain ⟨m, hm1, rfl⟩ := List.mem_map.mp (hp.mem_iff.mpr he)
  rw [nodup_nm hn hn1 hm1 (leS_anti r1 r2)]

/-! ### k48: same_but_order -/
open TL (tl)
mutual
theorem tx_lay : ∀ {d : PyData}, TxD d → d.canLay0 = true
  | _, .str s h => by
    rw [PyData.canLay0]
    exact okT_V h
  | _, .tup h => by simp [PyData.canLay0, txs_lay h]
  | _, .lst h => by simp [PyData.canLay0, txs_lay h]
theorem txs_lay : ∀ {ds : List PyData}, TxDs ds → PyData.canLayAll0 ds = true
  | _, .nil => by simp [PyData.canLayAll0]
  | _, .cons h t => by simp [PyData.canLayAll0, tx_lay h, txs_lay t]
end
theorem strs_dep : ∀ ns : List Str, PyData.depthAll (ns.map PyData.str) = 0
  | [] => by simp [PyData.depthAll]
  | s :: ns => by simp [PyData.depthAll, PyData.depth, strs_dep ns]
theorem fm_dep (n : Nd) : n.fm.depth ≤ 2 := by
  unfold Nd.fm strsD
  simp [PyData.depth, PyData.depthAll, strs_dep]
theorem fms_dep : ∀ ns : List Nd, PyData.depthAll (ns.map Nd.fm) ≤ 2
  | [] => by simp [PyData.depthAll]
  | n :: ns => by
    have h1 := fm_dep n
    have h2 := fms_dep ns
    simp [PyData.depthAll]
    omega
theorem form_shaped {ns : List Nd} (hg : ∀ n ∈ ns, n.good) : SeqAt.shaped (.list (ns.map Nd.fm)) = true := by
  unfold SeqAt.shaped
  rw [tx_lay (.lst (fms_tx hg)), Bool.true_and, decide_eq_true_eq]
  have := fms_dep ns
  simp [PyData.depth]
  omega
def sp_same_but_order (Z : Adr) : Sp := fun vs H Q _ => ∃ (A0 B0 : Hp) (ns ms : List Nd) (us ws : List V) (v u : V), vs = [v, u] ∧ PgOk Z A0 H ns us v ∧ PgOk Z B0 H ms ws u ∧ (ns.map Nd.nm).Nodup ∧ (ms.map Nd.nm).Nodup ∧ ∀ (b : Bool) (G : Hp), (b = true ↔ (ns.map Nd.fm).Perm (ms.map Nd.fm)) → Ex H G → Q (.bl b) G
theorem ok_same_but_order (T : Txt K mg Z)  : FnG P w K mg base CX0 (14) Z.f_same_but_order Z.fd_same_but_order ["one", "other"] (sp_same_but_order Z) := by
  have G_form_of := ok_form_of (P := P) (w := w) (base := base) T
  refine T.F_same_but_order.okG sc_same_but_order (fun vs H Q E h => ?_) (fun cdv AA outer s H vs Q E hgd hr h => ?_)
  · obtain ⟨A0, B0, ns, ms, us, ws, v, u, rfl, _⟩ := h
    rfl
  · obtain ⟨A0, B0, ns, ms, us, ws, v, u, rfl, h1, h2, n1, n2, k⟩ := h
    refine ⟨_, (pss_one (ps_ret (pe_cmpR (op_eqD hr.units) (pe_callG hgd G_form_of (hr.mono (by omega)) rfl T.g_form_of T.F_form_of.kp T.b_form_of pass0 (pa_cons (pv 0) pa_nil)) (pe_callG hgd G_form_of (hr.mono (by omega)) rfl T.g_form_of T.F_form_of.kp T.b_form_of pass0 (pa_cons (pv 1) pa_nil)) (nomark _)))), ?_⟩
    walk_at "ss"
    refine ⟨A0, ns, us, v, rfl, h1, n1, fun ns' zs p G e1 hp1 hs1 g1 hF1 => ?_⟩
    walk_at "ss"
    have h2' : PgOk Z B0 G ms ws u := by
      obtain ⟨⟨x, dx, td, a1, a2, a3, a4, a5, a6⟩, a7, a8⟩ := h2
      exact ⟨⟨x, dx, td, a1, e1 _ _ a2, e1 _ _ a3, paired_up (fun n u h => h.up e1) a4, a5, a6⟩, a7.trans e1, a8⟩
    refine ⟨B0, ms, ws, u, rfl, h2', n2, fun ms' ys q G2 e2 hp2 hs2 g2 hF2 => ?_⟩
    have g1' : ∀ n ∈ ns', n.good := fun n hn => h1.2.2.2.1 n (hp1.mem_iff.mp hn)
    have g2' : ∀ n ∈ ms', n.good := fun n hn => h2.2.2.2.1 n (hp2.mem_iff.mp hn)
    refine ⟨_, _, .lst (SqL.of (e2 _ _ g1)) (fms_dp (paired_up (fun n y h => h.up e2) hF1)), .lst (SqL.of g2) (fms_dp hF2), form_shaped g1', form_shaped g2', ?_⟩
    refine k _ G2 ?_ (e1.trans e2)
    have hnd : (ns'.map Nd.nm).Nodup := (hp1.map Nd.nm).nodup_iff.mpr n1
    rw [eqv_tx (.lst (fms_tx g1')) (.lst (fms_tx g2'))]
    have hiff := forms_eq hs1 hs2 hnd
    constructor
    · intro h
      injection h with h
      exact ((hp1.map Nd.fm).symm.trans (hiff.mp h)).trans (hp2.map Nd.fm)
    · intro h
      rw [hiff.mpr (((hp1.map Nd.fm).trans h).trans (hp2.map Nd.fm).symm)]

/-! ### k48: the nodes of the law, plain -/
open TL (tl)
theorem pn_goodL {s : Str} (h : PNm (tl s)) : isName s = true ∧ goodN s ∧ s.length ≤ 8 ∧ OkT s := ⟨isName_of h, goodN_one h, by have := h.2.1; rwa [tl_len] at this, (goodN_one h).2.2⟩
theorem nd_good {N : Ns} (h : N14 N.l) {nm : Str} {ins outs : List Str} {rs : List Rw} (hnm : nm ∈ N.l) (hins : ∀ s ∈ ins, s ∈ N.l) (hi0 : 0 < ins.length) (hi1 : ins.length ≤ 10) (houts : ∀ s ∈ outs, s ∈ N.l ∧ s ∈ rs.flatMap Rw.tells) (ho0 : 0 < outs.length) (ho1 : outs.length ≤ 10) (hon : outs.Nodup)
    (hnd : (ins ++ rs.flatMap Rw.tells).Nodup) (hrl : rs.length ≤ 20) (htl : (rs.flatMap Rw.tells).length ≤ 20) (hr : ∀ r ∈ rs, r.good ∧ (r.kind = 0 → r.names ≠ []) ∧ ∀ s ∈ r.names, s ∈ ins ++ rs.flatMap Rw.tells) : Nd.good ⟨nm, ins, outs, rs⟩ := by
  have G : ∀ {s}, s ∈ N.l → goodN s := fun hs => (pn_goodL (h.nm _ hs)).2.1
  have nn := pn_goodL (h.nm nm hnm)
  refine ⟨⟨nn.1, nn.2.2.1, nn.2.2.2⟩, hi0, by show ins.length ≤ 300; omega, fun s hs => G (hins s hs), ho0, by show outs.length ≤ 300; omega, fun s hs => ⟨G (houts s hs).1, (houts s hs).2⟩, hon, hnd, ?_, by show rs.length ≤ 300; omega, hr⟩
  show (ins ++ rs.flatMap Rw.tells).length ≤ 1000
  rw [List.length_append]
  omega
/-- rows of the law: the seven, and up to three sames more -/
def WOk (N : Ns) (rs : List Rw) : Prop := ∃ (f0 f1 f2 : V) (ex : List Rw), isVal f0 = true ∧ isVal f1 = true ∧ isVal f2 = true ∧ ex.length ≤ 4 ∧ (∀ r ∈ ex, r = .sm [N.a, N.b] ∨ r = .sm [N.b, N.a]) ∧ rs.Perm (N.rows f0 f1 f2 ++ ex)
theorem fst5_isVal {v : V} (h : v ∈ fst5) : isVal v = true := by
  simp only [fst5, List.mem_cons, List.not_mem_nil, or_false] at h
  rcases h with rfl | rfl | rfl | rfl | rfl <;> rfl
theorem RwsOk.wok {N : Ns} {rs : List Rw} (h : RwsOk N rs) : WOk N rs := by
  obtain ⟨f0, f1, f2, h0, h1, h2, hp⟩ := h
  exact ⟨f0, f1, f2, [], fst5_isVal h0, fst5_isVal h1, fst5_isVal h2, by simp, (fun r hr => by cases hr), by rw [List.append_nil]; exact hp⟩
theorem WOk.tells {N : Ns} {rs : List Rw} (h : WOk N rs) : (rs.flatMap Rw.tells).Perm [N.x, N.y, N.z, N.w, N.v, N.p, N.q] := by
  obtain ⟨f0, f1, f2, ex, _, _, _, _, he, hp⟩ := h
  have h1 := hp.flatMap_right Rw.tells
  have h2 : ex.flatMap Rw.tells = [] := by
    rw [List.flatMap_eq_nil_iff]
    intro r hr
    rcases he r hr with rfl | rfl <;> rfl
  rw [List.flatMap_append, h2, List.append_nil] at h1
  exact h1
theorem WOk.len {N : Ns} {rs : List Rw} (h : WOk N rs) : 7 ≤ rs.length ∧ rs.length ≤ 11 := by
  obtain ⟨f0, f1, f2, ex, _, _, _, hx, _, hp⟩ := h
  have := hp.length_eq
  rw [List.length_append] at this
  have h7 : (N.rows f0 f1 f2).length = 7 := rfl
  omega
theorem wrow {N : Ns} (h : N14 N.l) {f0 f1 f2 : V} {ex : List Rw} (h0 : isVal f0 = true) (h1 : isVal f1 = true) (h2 : isVal f2 = true) (he : ∀ r ∈ ex, r = .sm [N.a, N.b] ∨ r = .sm [N.b, N.a]) : ∀ r ∈ N.rows f0 f1 f2 ++ ex, r.good ∧ (r.kind = 0 → r.names ≠ []) ∧ ∀ s ∈ r.names, s = N.a ∨ s = N.b ∨ s = N.c ∨ s = N.z := by
  have G : ∀ {s}, s ∈ N.l → goodN s := fun hs => (pn_goodL (h.nm _ hs)).2.1
  have ga : goodN N.a := G (by simp [Ns.l])
  have gb : goodN N.b := G (by simp [Ns.l])
  have gc : goodN N.c := G (by simp [Ns.l])
  have gz : goodN N.z := G (by simp [Ns.l])
  have cn := pn_goodL (h.nm N.cn (by simp [Ns.l]))
  have sm : ∀ a b : Str, goodN a → goodN b → (Rw.sm [a, b]).good := fun a b x y => ⟨by simp, by simp, fun s hs => by
    simp at hs
    rcases hs with rfl | rfl
    · exact x
    · exact y⟩
  intro r hr
  rcases List.mem_append.mp hr with hr | hr
  · simp only [Ns.rows, List.mem_cons, List.not_mem_nil, or_false] at hr
    rcases hr with rfl | rfl | rfl | rfl | rfl | rfl | rfl
    · refine ⟨⟨G (by simp [Ns.l]), ⟨by decide +kernel, ga, gb⟩, by simp [Tm.dep]⟩, fun _ z => ?_, fun s hs => ?_⟩
      · have := flat_names (t := .two "+" (.nm N.a) (.nt (.nm N.b))) (s := N.a) (by simp [Tm.flat])
        rw [show (Tm.two "+" (.nm N.a) (.nt (.nm N.b))).names = [] from z] at this
        cases this
      · have := names_flat (t := .two "+" (.nm N.a) (.nt (.nm N.b))) hs
        simp [Tm.flat] at this
        rcases this with h | h <;> simp [h]
    · exact ⟨⟨by decide, G (by simp [Ns.l]), h0, ga⟩, (fun z => (by cases z)), fun s hs => by simp [Rw.names] at hs; simp [hs]⟩
    · refine ⟨⟨G (by simp [Ns.l]), ga, gc⟩, (fun z => (by cases z)), fun s hs => ?_⟩
      have := once_mem (l := [N.a, N.c]) hs
      simp at this
      rcases this with h | h <;> simp [h]
    · exact ⟨⟨by decide, G (by simp [Ns.l]), h1, gz⟩, (fun z => (by cases z)), fun s hs => by simp [Rw.names] at hs; simp [hs]⟩
    · exact ⟨⟨by decide, G (by simp [Ns.l]), h2, gb⟩, (fun z => (by cases z)), fun s hs => by simp [Rw.names] at hs; simp [hs]⟩
    · refine ⟨sm _ _ ga gb, (fun z => (by cases z)), fun s hs => ?_⟩
      have := once_mem (l := [N.a, N.b]) hs
      simp at this
      rcases this with h | h <;> simp [h]
    · refine ⟨⟨by simp, by simp, fun s hs => ?_, ⟨cn.1, cn.2.2.1, cn.2.2.2⟩, by simp, by simp, fun s hs => ?_⟩, (fun z => (by cases z)), fun s hs => ?_⟩
      · simp at hs
        rcases hs with rfl | rfl
        · exact G (by simp [Ns.l])
        · exact G (by simp [Ns.l])
      · simp at hs
        rcases hs with rfl | rfl
        · exact ga
        · exact gb
      · have := once_mem (l := [N.a, N.b]) hs
        simp at this
        rcases this with h | h <;> simp [h]
  · rcases he r hr with rfl | rfl
    · refine ⟨sm _ _ ga gb, (fun z => (by cases z)), fun s hs => ?_⟩
      have := once_mem (l := [N.a, N.b]) hs
      simp at this
      rcases this with h | h <;> simp [h]
    · refine ⟨sm _ _ gb ga, (fun z => (by cases z)), fun s hs => ?_⟩
      have := once_mem (l := [N.b, N.a]) hs
      simp at this
      rcases this with h | h <;> simp [h]
/-- each node that the law makes can be made -/
theorem w_good {N : Ns} (h : N14 N.l) {rs : List Rw} (hw : WOk N rs) {nm : Str} {ins outs : List Str} (hnm : nm ∈ N.l) (hins : ∀ s ∈ ins, s ∈ N.l) (hl : ins.length = 4) (ha : N.a ∈ ins) (hb : N.b ∈ ins) (hc : N.c ∈ ins) (hnd : (ins ++ [N.x, N.y, N.z, N.w, N.v, N.p, N.q]).Nodup) (ho0 : 0 < outs.length) (ho1 : outs.length ≤ 10) (hon : outs.Nodup) (ho : ∀ s ∈ outs, s ∈ [N.x, N.y, N.z, N.w, N.v, N.p, N.q]) : Nd.good ⟨nm, ins, outs, rs⟩ := by
  have ht := hw.tells
  have hlen := hw.len
  obtain ⟨f0, f1, f2, ex, h0, h1, h2, hx, he, hp⟩ := hw
  have hr := wrow h h0 h1 h2 he
  refine nd_good h hnm hins (by omega) (by omega) (fun s hs => ⟨?_, ht.mem_iff.mpr (ho s hs)⟩) ho0 ho1 hon ((ht.append_left ins).nodup_iff.mpr hnd) (by omega) (by have := ht.length_eq; simp at this; simp; omega) (fun r hr2 => ?_)
  · have := ho s hs
    simp at this
    rcases this with h | h | h | h | h | h | h <;> simp [Ns.l, h]
  · obtain ⟨g1, g2, g3⟩ := hr r (hp.mem_iff.mp hr2)
    refine ⟨g1, g2, fun s hs => ?_⟩
    rcases g3 s hs with rfl | rfl | rfl | rfl
    · exact List.mem_append_left _ ha
    · exact List.mem_append_left _ hb
    · exact List.mem_append_left _ hc
    · exact List.mem_append_right _ (ht.mem_iff.mpr (by simp))

/-! ### k48: the whole node drawn -/
open TL (tl)
def isSameV (H : Hp) : V → Bool
  | .ref a => match H a with
    | some (.tup (.str w :: _)) => decide (w = "same")
    | _ => false
  | _ => false
def sameV (H : Hp) (u : V) : Option V := if isSameV H u = true then some u else none
theorem word_same (r : Rw) : decide (r.word = "same") = decide (r.kind = 5) := by
  have h : ∀ w ∈ (["before", "hold", "like", "plain", "when", "call"] : List Str), decide (w = ("same" : Str)) = false := by decide +kernel
  cases r with
  | vd k n v x =>
    rcases k with _ | _ | k
    · exact h "before" (by simp)
    · exact h "hold" (by simp)
    · exact h "like" (by simp)
  | pl n t => exact h "plain" (by simp)
  | wh n x y => exact h "when" (by simp)
  | cl a b c => exact h "call" (by simp)
  | sm ns => exact (by decide +kernel : decide (("same" : Str) = "same") = true)
theorem isSame_at {H : Hp} {r : Rw} {u : V} (h : RowAt H r u) : isSameV H u = decide (r.kind = 5) := by
  obtain ⟨a, xs, rfl, ha⟩ := h.hd
  show (match H a with
    | some (.tup (.str w :: _)) => decide (w = "same")
    | _ => false) = _
  rw [ha]
  exact word_same r
theorem filt_same {H : Hp} : ∀ {rs : List Rw} {us : List V}, Paired (RowAt H) rs us → Paired (RowAt H) (rs.filter fun r => decide (r.kind = 5)) (us.filterMap (sameV H))
  | _, _, .nil => .nil
  | r :: rs, u :: us, .cons h t => by
    have ih := filt_same t
    have e := isSame_at h
    by_cases hk : r.kind = 5
    · rw [List.filter_cons_of_pos (by simp [hk]), List.filterMap_cons_some (b := u) (by unfold sameV; rw [e, decide_eq_true hk, if_pos rfl])]
      exact .cons h ih
    · rw [List.filter_cons_of_neg (by simp [hk]), List.filterMap_cons_none (by unfold sameV; rw [e, decide_eq_false hk]; rfl)]
      exact ih
theorem same_one {N : Ns} {rs : List Rw} (h : RwsOk N rs) : (rs.filter fun r => decide (r.kind = 5)) = [.sm [N.a, N.b]] := by
  obtain ⟨f0, f1, f2, h0, h1, h2, hp⟩ := h
  have h3 := hp.filter (fun r => decide (r.kind = 5))
  have e : (N.rows f0 f1 f2).filter (fun r => decide (r.kind = 5)) = [.sm [N.a, N.b]] := rfl
  rw [e] at h3
  exact List.perm_singleton.mp h3
/-- rows with so many sames more -/
def WN (N : Ns) (m : Nat) (rs : List Rw) : Prop := ∃ (f0 f1 f2 : V) (ex : List Rw), f0 ∈ fst5 ∧ f1 ∈ fst5 ∧ f2 ∈ fst5 ∧ ex.length = m ∧ (∀ r ∈ ex, r = .sm [N.a, N.b] ∨ r = .sm [N.b, N.a]) ∧ rs.Perm (N.rows f0 f1 f2 ++ ex)
theorem WN.len {N : Ns} {m : Nat} {rs : List Rw} (h : WN N m rs) : rs.length = 7 + m := by
  obtain ⟨f0, f1, f2, ex, _, _, _, hx, _, hp⟩ := h
  have := hp.length_eq
  rw [List.length_append, hx] at this
  exact this
theorem WN.wok {N : Ns} {m : Nat} {rs : List Rw} (h : WN N m rs) (hm : m ≤ 4) : WOk N rs := by
  obtain ⟨f0, f1, f2, ex, h0, h1, h2, hx, he, hp⟩ := h
  exact ⟨f0, f1, f2, ex, fst5_isVal h0, fst5_isVal h1, fst5_isVal h2, by omega, he, hp⟩
theorem ins_perm {α : Type} (l : List α) (i : Nat) (a : α) : (l.take i ++ [a] ++ l.drop i).Perm (l ++ [a]) := by
  rw [List.append_assoc]
  refine (List.Perm.append_left (l.take i) List.perm_append_comm).trans ?_
  rw [← List.append_assoc, List.take_append_drop]
theorem WN.more {N : Ns} {m : Nat} {rs : List Rw} {r : Rw} (h : WN N m rs) (hr : r = .sm [N.a, N.b] ∨ r = .sm [N.b, N.a]) (i : Nat) : WN N (m + 1) (rs.take i ++ [r] ++ rs.drop i) := by
  obtain ⟨f0, f1, f2, ex, h0, h1, h2, hx, he, hp⟩ := h
  refine ⟨f0, f1, f2, ex ++ [r], h0, h1, h2, by rw [List.length_append, hx]; rfl, fun q hq => ?_, ?_⟩
  · rcases List.mem_append.mp hq with hq | hq
    · exact he q hq
    · rw [List.mem_singleton.mp hq]
      exact hr
  · rw [← List.append_assoc]
    exact (ins_perm rs i r).trans (hp.append_right [r])
theorem paired_drop {α β : Type} {F : α → β → Prop} : ∀ {l : List α} {m : List β}, Paired F l m → ∀ i : Nat, Paired F (l.drop i) (m.drop i)
  | _, _, .nil, i => by simp; exact .nil
  | _, _, .cons p q, 0 => .cons p q
  | _, _, .cons p q, i + 1 => paired_drop q i
theorem paired_app48 {α β : Type} {F : α → β → Prop} : ∀ {l m : List α} {l' m' : List β}, Paired F l l' → Paired F m m' → Paired F (l ++ m) (l' ++ m')
  | [], _, [], _, .nil, h => h
  | _ :: _, _, _ :: _, _, .cons h t, h2 => .cons h (paired_app48 t h2)
def Ns.whole (N : Ns) (rs : List Rw) : Nd := ⟨N.nn, [N.a, N.b, N.c, N.d], [N.x, N.y], rs⟩
def sp_whole_l : Sp := fun vs H Q _ => ∃ (b nl : Addr) (N : Ns), vs = [.ref b, .ref nl] ∧ BoxAt H b ∧ H nl = some (.lst (N.l.map V.str)) ∧ ∀ (m : Nat) (rs : List Rw) (u : V) (G : Hp), m ≤ 2 → WN N m rs → NdT G (N.whole rs) u → ExB b H G → BoxAt G b → Q u G
theorem ok_whole_l (T : Txt K mg Z) : FnOk P w K mg base CX0 3 Z.f_whole_l Z.fd_whole_l ["_law_box_here", "_law_names_here"] sp_whole_l := by
  have G_take_l := ok_take_l (P := P) (w := w) (base := base) T
  have G_rows_l := ok_rows_l (P := P) (w := w) (base := base) T
  have G_node_l := ok_node_l (P := P) (w := w) (base := base) T
  refine T.F_whole_l.ok sc_whole_l (fun vs H Q E h => ?_) (fun cdv AA outer s H vs Q E hr h => ?_)
  · obtain ⟨b, nl, N, rfl, _⟩ := h
    rfl
  · obtain ⟨b, nl, N, rfl, hB, gn, k⟩ := h
    have nnb : nl ≠ b := box_ne hB gn fun x y z => strs_nobox x y z
    refine ⟨_, (Evl.pss_cut (ps_set (i := 2) sc_whole_l.nd rfl (Or.inl rfl) (pe_call G_rows_l (hr.mono (by omega)) rfl T.g_rows_l T.F_rows_l.kp T.b_rows_l .nil pass0 (pa_cons (pv 0) (pa_cons (pv 1) pa_nil))))
      (Evl.pss_cut (ps_setLc (i := 3) (own := [("_law_row", 4)]) (g := (gName 4)) (tt := (tTest (tOp rEq (tOp (rIxT K) (tVar 4) (tC (.int 0))) (tC (.str "same"))))) (te := (tVar 4)) rfl sc_whole_l.nd rfl rfl (sw_true rfl rfl rfl (by decide +kernel)) (pi_list (pv 2)) (blkOk_by (own := [("_law_row", 4)]) (N := N_whole_l) (sc := defScope s_whole_l) (by decide +kernel)) (fun _ _ _ _ _ => (pg_name (i := 4) sc_whole_l.nd rfl (Or.inl rfl))) (fun _ _ _ _ _ => (pts_one (pt_cmpR op_eq (pe_ix ix_tup (pv 4) pe_int (fun _ _ => rfl)) pe_str (nomark _)))) (fun _ _ _ _ _ => (pv 4)))
      (Evl.pss_cut (ps_for PassesOwn.never rfl (pi_range1 (by rfl) T.n_range (pa_cons (pe_call G_take_l (hr.mono (by omega)) rfl T.g_take_l T.F_take_l.kp T.b_take_l .nil pass0 (pa_cons (pv 0) (pa_cons pe_int pa_nil))) pa_nil)) (pg_name (i := 5) sc_whole_l.nd rfl (Or.inl rfl)) (pss_one (ps_expr (pe_bm PySem.F.plainAttrs_list PySem.F.slot_list_insert PySem.F.type_list_insert mt_insert (pv 2) (pa_cons (pe_call G_take_l (hr.mono (by omega)) rfl T.g_take_l T.F_take_l.kp T.b_take_l .nil pass0 (pa_cons (pv 0) (pa_cons (pe_op op_add (pe_callB call_len_seq (by rfl) T.n_len (by decide +kernel) (pa_cons (pv 2) pa_nil)) pe_int) pa_nil))) (pa_cons (pe_ix ix_list (pe_lst (pa_cons (pe_ix ix_list (pv 3) pe_int (fun _ _ => rfl)) (pa_cons (pe_tup (pa_cons pe_str (pa_cons (pe_tup (pa_cons (pe_ix ix_list (pv 1) pe_int (fun _ _ => rfl)) (pa_cons (pe_ix ix_list (pv 1) pe_int (fun _ _ => rfl)) pa_nil))) pa_nil))) pa_nil))) (pe_call G_take_l (hr.mono (by omega)) rfl T.g_take_l T.F_take_l.kp T.b_take_l .nil pass0 (pa_cons (pv 0) (pa_cons pe_int pa_nil))) (fun _ _ => rfl)) pa_nil))))))
      (pss_cons (ps_set (i := 6) sc_whole_l.nd rfl (Or.inl rfl) (pe_call G_node_l (hr.mono (by omega)) rfl T.g_node_l T.F_node_l.kp T.b_node_l .nil pass0 (pa_cons (pv 1) (pa_cons (pv 2) pa_nil))))
      (pss_one (ps_ret (pe_op op_catA (pe_slice sl_tupA (pv 6) po_none (po_some pe_int)) (pe_tup (pa_cons (pe_tup (pa_cons (pe_ix ix_list (pv 1) pe_int (fun _ _ => rfl)) (pa_cons (pe_ix ix_list (pv 1) pe_int (fun _ _ => rfl)) pa_nil))) (pa_cons (pe_ix ix_tup (pv 6) pe_int (fun _ _ => rfl)) pa_nil)))))))))), ?_⟩
    refine c_cut (M := fun σ' G => ∃ (rl : Addr) (rs : List Rw) (us : List V), σ' = [some (.ref b), some (.ref nl), some (.ref rl), none, none, none, none] ∧ ExB b H G ∧ BoxAt G b ∧ H rl = none ∧ G rl = some (.lst us) ∧ Paired (RowAt G) rs us ∧ RwsOk N rs) ?_ ?_
    · walk_at "ss"
      refine ⟨b, nl, N, rfl, hB, gn, fun rs us p G1 hR hP hp x1 b1 g1 => ?_⟩
      walk_at "ss"
      exact ⟨p, rs, us, rfl, x1, b1, hp, g1, hP, hR⟩
    rintro σ' G1 ⟨rl, rs, us, rfl, x1, b1, hrl, g1, hP, hR⟩
    have hrb : rl ≠ b := by
      obtain ⟨o, ho⟩ := hB.some
      exact (ne_of_none ho hrl).symm
    have hfs := filt_same hP
    rw [same_one hR] at hfs
    obtain ⟨u0, hu0, hR0⟩ : ∃ u0, us.filterMap (sameV G1) = [u0] ∧ RowAt G1 (.sm [N.a, N.b]) u0 := by
      generalize us.filterMap (sameV G1) = l at hfs
      cases hfs with
      | cons h t => cases t; exact ⟨_, rfl, h⟩
    refine c_cut (M := fun σ' G => ∃ (sl : Addr) (v4 : Option V), σ' = [some (.ref b), some (.ref nl), some (.ref rl), some (.ref sl), v4, none, none] ∧ Ex G1 G ∧ G1 sl = none ∧ G sl = some (.lst [u0])) ?_ ?_
    · walk_at "ss"
      refine ⟨⟨_, SqL.of g1⟩, lcLv (sameV G1) (SqL.of g1) (by have := paired_len hP; have := hR.len; omega) (fun y hy F2 f2 R hR2 => ?_) ?_⟩
      · obtain ⟨q, hq⟩ := List.getElem?_of_mem hy
        obtain ⟨r, hr2, hRr⟩ := paired_ix hP hq
        have hcv := isSame_at hRr
        obtain ⟨a, xs, rfl, ha⟩ := hRr.hd
        have hR' := hR2 _ (Ex.refl _)
        walk_at "ss"
        refine c_ixT (SqT.of (f2 _ _ ha)) at_hd ?_
        walk_at "ss"
        rw [dec_s, word_same]
        by_cases hk : r.kind = 5
        · rw [decide_eq_true hk]
          refine if_tt rfl ?_
          walk_at "ss"
          have e : sameV G1 (V.ref a) = some (V.ref a) := by unfold sameV; rw [hcv, decide_eq_true hk, if_pos rfl]
          rw [e] at hR'
          exact hR'
        · rw [decide_eq_false hk]
          refine if_ff rfl ?_
          have e : sameV G1 (V.ref a) = none := by unfold sameV; rw [hcv, decide_eq_false hk]; rfl
          rw [e] at hR'
          exact hR'
      rw [hu0]
      intro sl G2 hsl e2 g2
      walk_at "ss"
      exact ⟨sl, _, rfl, e2, hsl, g2⟩
    rintro σ' G2 ⟨sl, v4, rfl, e2, hsl, g2⟩
    have hslH : H sl = none := freshB x1 b1 hsl
    have hsb : sl ≠ b := by
      obtain ⟨o, ho⟩ := hB.some
      exact (ne_of_none ho hslH).symm
    have hsr : sl ≠ rl := (ne_of_none g1 hsl).symm
    have x2 := x1.trans (ExB.of e2)
    have b2 := b1.up e2
    refine c_cut (M := fun σ' G => ∃ (v5 : Option V) (m : Nat) (rs' : List Rw) (us' : List V), σ' = [some (.ref b), some (.ref nl), some (.ref rl), some (.ref sl), v4, v5, none] ∧ ExB b H G ∧ BoxAt G b ∧ m ≤ 2 ∧ WN N m rs' ∧ Paired (RowAt G) rs' us' ∧ G rl = some (.lst us')) ?_ ?_
    · walk_at "ss"
      refine ⟨b, 3, rfl, b2, by decide, by decide, fun d G3 d0 d1 x3 b3 => ?_⟩
      obtain ⟨t, rfl⟩ := Int.eq_ofNat_of_zero_le d0
      walk_at "ss"
      refine ⟨by omega, by omega, ?_⟩
      have W0 : WN N 0 rs := by
        obtain ⟨f0, f1, f2, h0, h1, h2, hp⟩ := hR
        exact ⟨f0, f1, f2, [], h0, h1, h2, rfl, (fun r hr => by cases hr), by rw [List.append_nil]; exact hp⟩
      have nl3 := NL.box x3 b2
      refine forR (fun i σ' G => (∃ v5, σ' = [some (.ref b), some (.ref nl), some (.ref rl), some (.ref sl), v4, v5, none]) ∧ ExB b H G ∧ BoxAt G b ∧ G sl = some (.lst [u0]) ∧ RowAt G (.sm [N.a, N.b]) u0 ∧ ∃ (rs' : List Rw) (us' : List V), WN N i rs' ∧ Paired (RowAt G) rs' us' ∧ G rl = some (.lst us')) ⟨⟨_, rfl⟩, x2.trans x3, b3, x3 _ _ hsb g2, (hR0.up e2).nl nl3, rs, us, W0, paired_up (fun r u h => (h.up e2).nl nl3) hP, x3 _ _ hrb (e2 _ _ g1)⟩ ?_ ?_
      · rintro i σ' G hi ⟨⟨v5, rfl⟩, xG, bG, gs, hRs, rs', us', hW, hPG, gG⟩
        have hi2 : i < 2 := by
          have : i < t := by simpa using hi
          omega
        have hl := paired_len hPG
        have hlr := hW.len
        have gnG := xG _ _ nnb gn
        walk_at "ss"
        refine ⟨.inl ⟨rfl, _, SqL.of gG⟩, ?_⟩
        walk_at "ss"
        refine ⟨rl, _, rfl, .inl (SqL.of gG), ?_⟩
        walk_at "ss"
        refine ⟨b, _, rfl, bG, by omega, by omega, fun d4 G4 d40 d41 x4 b4 => ?_⟩
        obtain ⟨q, rfl⟩ := Int.eq_ofNat_of_zero_le d40
        have gn4 := x4 _ _ nnb gnG
        walk_at "ss"
        refine c_ixL (SqL.of (x4 _ _ hsb gs)) rfl ?_
        walk_at "ss"
        refine c_ixL (SqL.of gn4) rfl ?_
        walk_at "ss"
        refine c_ixL (SqL.of gn4) rfl ?_
        walk_at "ss"
        refine newT fun t5 G5 ht5 e5 g5 => ?_
        walk_at "ss"
        refine newT fun t6 G6 ht6 e6 g6 => ?_
        walk_at "ss"
        refine newL fun l7 G7 hl7 e7 g7 => ?_
        have e57 := e5.trans (e6.trans e7)
        have b7 := b4.up e57
        have nl7 : l7 ≠ b := by
          obtain ⟨o, ho⟩ := (b4.up (e5.trans e6)).some
          exact (ne_of_none ho hl7).symm
        walk_at "ss"
        refine ⟨b, 2, rfl, b7, by decide, by decide, fun d8 G8 d80 d81 x8 b8 => ?_⟩
        have nl48 : NL G4 G8 := (NL.of e57).trans (NL.box x8 b7)
        have nlG8 : NL G G8 := (NL.box x4 bG).trans nl48
        have kt : ∀ {a : Addr} {xs : List V}, G7 a = some (.tup xs) → G8 a = some (.tup xs) := fun h => x8 _ _ (box_ne b7 h (fun _ _ _ z => by cases z)) h
        obtain ⟨r, y, hy, hry, hro⟩ : ∃ r y, atI [u0, V.ref t6] d8 = some y ∧ RowAt G8 r y ∧ (r = .sm [N.a, N.b] ∨ r = .sm [N.b, N.a]) := by
          have : d8 = 0 ∨ d8 = 1 := by omega
          rcases this with rfl | rfl
          · exact ⟨_, u0, rfl, hRs.nl nlG8, .inl rfl⟩
          · exact ⟨.sm [N.b, N.a], .ref t6, rfl, ⟨t6, t5, rfl, kt (e7 _ _ g6), kt ((e6.trans e7) _ _ g5)⟩, .inr rfl⟩
        refine c_ixL (SqL.of (x8 _ _ nl7 g7)) hy ?_
        have gr8 := x8 _ _ hrb (e57 _ _ (x4 _ _ hrb gG))
        have X8 : ExB b H G8 := xG.trans (x4.trans ((ExB.of e57).trans x8))
        refine ⟨rl, _, (q : Nat), y, rfl, rfl, gr8, Evl.sz_lt (by omega), by omega, by omega, ?_⟩
        rw [Int.toNat_natCast]
        have nlu : NL G8 (upd G8 rl (.lst (us'.take q ++ [y] ++ us'.drop q))) := NL.upd gr8
        have nlA := nlG8.trans nlu
        walk_at "ss"
        refine ⟨⟨_, rfl⟩, exB_put X8 hrl, box_put b8 hrb.symm, ?_, hRs.nl nlA, _, _, hW.more hro q, ?_, upd_same⟩
        · rw [upd_ne hsr]
          exact x8 _ _ hsb (e57 _ _ (x4 _ _ hsb gs))
        · have hPA := paired_up (fun r u h => RowAt.nl nlA h) hPG
          exact paired_app48 (paired_snoc (hry.nl nlu) (paired_take hPA q)) (paired_drop hPA q)
      · rintro σ' G ⟨⟨v5, rfl⟩, xG, bG, gs, hRs, rs', us', hW, hPG, gG⟩
        exact ⟨_, _, rs', us', rfl, xG, bG, by simp; omega, hW, hPG, gG⟩
    rintro σ' G5 ⟨v5, m, rs', us', rfl, x5, b5, hm, hW, hP5, g5⟩
    have hlr := hW.len
    have gn5 := x5 _ _ nnb gn
    walk_at "ss"
    refine ⟨nl, rl, N, rs', us', rfl, gn5, g5, hP5, by omega, fun u6 G6 e6 hT6 => ?_⟩
    obtain ⟨a, p, q, t, ws, rfl, ga, gp, gq, gt, hrw⟩ := hT6
    walk_at "ss"
    refine c_slH ga fun q7 G7 e7 g7 => ?_
    rw [show cutV [V.str (N.node rs').nm, V.ref p, V.ref q, V.ref t] none (some 2) = [V.str (N.node rs').nm, V.ref p] from rfl] at g7
    have gn7 := (e6.trans e7) _ _ gn5
    walk_at "ss"
    refine c_ixL (SqL.of gn7) rfl ?_
    walk_at "ss"
    refine c_ixL (SqL.of gn7) rfl ?_
    walk_at "ss"
    refine newT fun q8 G8 hq8 e8 g8 => ?_
    walk_at "ss"
    refine c_ixT (SqT.of ((e7.trans e8) _ _ ga)) rfl ?_
    walk_at "ss"
    refine newT fun q9 G9 hq9 e9 g9 => ?_
    refine c_catH ((e8.trans e9) _ _ g7) g9 (by simp) fun q10 G10 e10 g10 => ?_
    have E10 := e7.trans (e8.trans (e9.trans e10))
    exact k m rs' _ G10 hm hW ⟨q10, p, q8, t, ws, rfl, g10, E10 _ _ gp, (e9.trans e10) _ _ g8, E10 _ _ gt, paired_up (fun r u h => h.up E10) hrw⟩ (x5.trans (ExB.of (e6.trans E10))) (b5.up (e6.trans E10))

/-! ### k48: two nodes that differ in their sames alone -/
open TL (tl)
def noSameV (H : Hp) (u : V) : Option V := if isSameV H u = true then none else some u
theorem filt_nosame {H : Hp} : ∀ {rs : List Rw} {us : List V}, Paired (RowAt H) rs us → Paired (RowAt H) (rs.filter fun r => decide (r.kind ≠ 5)) (us.filterMap (noSameV H))
  | _, _, .nil => .nil
  | r :: rs, u :: us, .cons h t => by
    have ih := filt_nosame t
    have e := isSame_at h
    by_cases hk : r.kind = 5
    · rw [List.filter_cons_of_neg (by simp [hk]), List.filterMap_cons_none (by unfold noSameV; rw [e, decide_eq_true hk, if_pos rfl])]
      exact ih
    · rw [List.filter_cons_of_pos (by simp [hk]), List.filterMap_cons_some (b := u) (by unfold noSameV; rw [e, decide_eq_false hk]; rfl)]
      exact .cons h ih
def Ns.one (N : Ns) : Rw := .sm [N.a, N.b]
def Ns.oth (N : Ns) : Rw := .sm [N.b, N.a]
def nosame (rs : List Rw) : List Rw := rs.filter fun r => decide (r.kind ≠ 5)
def sp_sames_put_l : Sp := fun vs H Q _ => ∃ (nl : Addr) (N : Ns) (rs : List Rw) (u : V), vs = [.ref nl, u] ∧ H nl = some (.lst (N.l.map V.str)) ∧ NdT H (N.whole rs) u ∧ rs.length ≤ 20 ∧ ∀ (l : Addr) (v1 v2 : V) (G : Hp), Ex H G → G l = some (.lst [v1, v2]) → NdT G (N.whole (nosame rs ++ [N.one, N.one, N.oth])) v1 → NdT G (N.whole ([N.oth, N.one, N.oth] ++ nosame rs)) v2 → Q (.ref l) G
theorem ok_sames_put_l (T : Txt K mg Z) : FnOk P w K mg base CX0 1 Z.f_sames_put_l Z.fd_sames_put_l ["_law_names_here", "_law_node_here"] sp_sames_put_l := by
  refine T.F_sames_put_l.ok sc_sames_put_l (fun vs H Q E h => ?_) (fun cdv AA outer s H vs Q E hr h => ?_)
  · obtain ⟨nl, N, rs, u, rfl, _⟩ := h
    rfl
  · obtain ⟨nl, N, rs, u, rfl, gn, ⟨a, p, q, t, ws, rfl, ga, gp, gq, gt, hrw⟩, hl, k⟩ := h
    have hwl := paired_len hrw
    have hwl2 : rs.length = ws.length := hwl
    refine ⟨_, (pss_cons (ps_set (i := 2) sc_sames_put_l.nd rfl (Or.inl rfl) (pe_tup (pa_cons pe_str (pa_cons (pe_tup (pa_cons (pe_ix ix_list (pv 0) pe_int (fun _ _ => rfl)) (pa_cons (pe_ix ix_list (pv 0) pe_int (fun _ _ => rfl)) pa_nil))) pa_nil))))
      (pss_cons (ps_set (i := 3) sc_sames_put_l.nd rfl (Or.inl rfl) (pe_tup (pa_cons pe_str (pa_cons (pe_tup (pa_cons (pe_ix ix_list (pv 0) pe_int (fun _ _ => rfl)) (pa_cons (pe_ix ix_list (pv 0) pe_int (fun _ _ => rfl)) pa_nil))) pa_nil))))
      (pss_cons (ps_set (i := 4) sc_sames_put_l.nd rfl (Or.inl rfl) (pe_callTy call_tuple_of (by rfl) T.n_tuple (by decide +kernel) (pa_cons (pe_lc (own := [("_law_row", 5)]) (g := (gName 5)) (tt := (tTest (tOp rNe (tOp (rIxT K) (tVar 5) (tC (.int 0))) (tC (.str "same"))))) (te := (tVar 5)) rfl sc_sames_put_l.nd (pi_tup (pe_ix ix_tup (pv 1) pe_int (fun _ _ => rfl))) (blkOk_by (own := [("_law_row", 5)]) (N := N_sames_put_l) (sc := defScope s_sames_put_l) (by decide +kernel)) (fun _ _ _ _ _ => (pg_name (i := 5) sc_sames_put_l.nd rfl (Or.inl rfl))) (fun _ _ _ _ _ => (pts_one (pt_cmpR op_ne (pe_ix ix_tup (pv 5) pe_int (fun _ _ => rfl)) pe_str (nomark _)))) (fun _ _ _ _ _ => (pv 5))) pa_nil)))
      (pss_one (ps_ret (pe_lst (pa_cons (pe_op op_catA (pe_slice sl_tupA (pv 1) po_none (po_some pe_int)) (pe_tup (pa_cons (pe_op op_catA (pv 4) (pe_tup (pa_cons (pv 2) (pa_cons (pv 2) (pa_cons (pv 3) pa_nil))))) pa_nil))) (pa_cons (pe_op op_catA (pe_slice sl_tupA (pv 1) po_none (po_some pe_int)) (pe_tup (pa_cons (pe_op op_catA (pe_tup (pa_cons (pv 3) (pa_cons (pv 2) (pa_cons (pv 3) pa_nil)))) (pv 4)) pa_nil))) pa_nil)))))))), ?_⟩
    walk_at "ss"
    refine c_ixL (SqL.of gn) rfl ?_
    walk_at "ss"
    refine c_ixL (SqL.of gn) rfl ?_
    walk_at "ss"
    refine newT fun t1 G1 ht1 e1 g1 => ?_
    walk_at "ss"
    refine newT fun t2 G2 ht2 e2 g2 => ?_
    have e12 := e1.trans e2
    walk_at "ss"
    refine c_ixL (SqL.of (e12 _ _ gn)) rfl ?_
    walk_at "ss"
    refine c_ixL (SqL.of (e12 _ _ gn)) rfl ?_
    walk_at "ss"
    refine newT fun t3 G3 ht3 e3 g3 => ?_
    walk_at "ss"
    refine newT fun t4 G4 ht4 e4 g4 => ?_
    have e14 := e12.trans (e3.trans e4)
    walk_at "ss"
    refine c_ixT (SqT.of (e14 _ _ ga)) rfl ?_
    have hr4 : Paired (RowAt G4) rs ws := paired_up (fun r u h => h.up e14) hrw
    refine ⟨_, rfl, ⟨_, SqT.of (e14 _ _ gt)⟩, lcT (fun i => (ws[i]?).bind (noSameV G4)) (SqT.of (e14 _ _ gt)) (by omega) (fun i y hy => ?_) ?_⟩
    · obtain ⟨r, hr2, hRr⟩ := paired_ix hr4 hy
      intro F2 f2 R hR2
      have hcv := isSame_at hRr
      obtain ⟨b, xs, rfl, hb⟩ := hRr.hd
      have hR' := hR2 _ (Ex.refl _)
      rw [hy] at hR'
      walk_at "ss"
      refine c_ixT (SqT.of (f2 _ _ hb)) at_hd ?_
      walk_at "ss"
      rw [dec_s, word_same]
      by_cases hk : r.kind = 5
      · rw [decide_eq_true hk]
        refine if_ff rfl ?_
        have e : ((some (V.ref b)).bind (noSameV G4)) = none := by show noSameV G4 (V.ref b) = none; unfold noSameV; rw [hcv, decide_eq_true hk, if_pos rfl]
        rw [e] at hR'
        exact hR'
      · rw [decide_eq_false hk]
        refine if_tt rfl ?_
        walk_at "ss"
        have e : ((some (V.ref b)).bind (noSameV G4)) = some (V.ref b) := by show noSameV G4 (V.ref b) = _; unfold noSameV; rw [hcv, decide_eq_false hk]; rfl
        rw [e] at hR'
        exact hR'
    rw [fm_range (l := ws) (F := noSameV G4)]
    intro l5 G5 hl5 e5 g5
    have hcs0 := filt_nosame hr4
    have hcl : (ws.filterMap (noSameV G4)).length ≤ 20 := Nat.le_trans (List.length_filterMap_le _ _) (by omega)
    generalize ws.filterMap (noSameV G4) = cv at g5 hcs0 hcl
    walk_at "ss"
    refine ⟨_, _, rfl, .inl ⟨SqL.of g5, fun t6 ht6 => ?_⟩⟩
    have e6 : Ex G5 (upd G5 t6 (.tup cv)) := Ex.new ht6
    have g6 : upd G5 t6 (.tup cv) t6 = some (.tup cv) := upd_same
    generalize upd G5 t6 (.tup cv) = G6 at e6 g6
    have e16 := e14.trans (Ex.trans e5 e6)
    walk_at "ss"
    refine c_slH (e16 _ _ ga) fun q7 G7 e7 g7 => ?_
    rw [show cutV [V.str (N.whole rs).nm, V.ref p, V.ref q, V.ref t] none (some 3) = [V.str (N.whole rs).nm, V.ref p, V.ref q] from rfl] at g7
    walk_at "ss"
    refine newT fun t8 G8 ht8 e8 g8 => ?_
    refine c_catH ((e7.trans e8) _ _ g6) g8 (by simp only [List.length_cons, List.length_nil]; omega) fun t9 G9 e9 g9 => ?_
    walk_at "ss"
    refine newT fun t10 G10 ht10 e10 g10 => ?_
    refine c_catH ((e8.trans (e9.trans e10)) _ _ g7) g10 (by simp) fun v1 G11 e11 g11 => ?_
    have e17 := e16.trans (e7.trans (e8.trans (e9.trans (e10.trans e11))))
    walk_at "ss"
    refine c_slH (e17 _ _ ga) fun q12 G12 e12' g12 => ?_
    rw [show cutV [V.str (N.whole rs).nm, V.ref p, V.ref q, V.ref t] none (some 3) = [V.str (N.whole rs).nm, V.ref p, V.ref q] from rfl] at g12
    walk_at "ss"
    refine newT fun t13 G13 ht13 e13 g13 => ?_
    have c6 := e7.trans (e8.trans (e9.trans (e10.trans (e11.trans (e12'.trans e13)))))
    walk_at "ss"
    refine c_catH g13 (c6 _ _ g6) (by simp only [List.length_cons, List.length_nil]; omega) fun t14 G14 e14' g14 => ?_
    walk_at "ss"
    refine newT fun t15 G15 ht15 e15 g15 => ?_
    refine c_catH ((e13.trans (e14'.trans e15)) _ _ g12) g15 (by simp) fun v2 G16 e16' g16 => ?_
    walk_at "ss"
    refine newL fun l17 G17 hl17 e17' g17 => ?_
    have D11 := e12'.trans (e13.trans (e14'.trans (e15.trans (e16'.trans e17'))))
    have D9 := e10.trans (e11.trans D11)
    have D14 := e15.trans (e16'.trans e17')
    have DA := e17.trans D11
    have D2 := e3.trans (e4.trans (Ex.trans e5 (e6.trans (e7.trans (e8.trans (e9.trans D9))))))
    have D4 := Ex.trans e5 (e6.trans (e7.trans (e8.trans (e9.trans D9))))
    have hone : RowAt G17 N.one (.ref t2) := ⟨t2, t1, rfl, D2 _ _ g2, (e2.trans D2) _ _ g1⟩
    have hoth : RowAt G17 N.oth (.ref t4) := ⟨t4, t3, rfl, D4 _ _ g4, (e4.trans D4) _ _ g3⟩
    have hcs : Paired (RowAt G17) (nosame rs) cv := paired_up (fun r u h => h.up D4) hcs0
    exact k l17 _ _ G17 DA g17 ⟨v1, p, q, t9, _, rfl, D11 _ _ g11, DA _ _ gp, DA _ _ gq, D9 _ _ g9, paired_app48 hcs (.cons hone (.cons hone (.cons hoth .nil)))⟩ ⟨v2, p, q, t14, _, rfl, e17' _ _ g16, DA _ _ gp, DA _ _ gq, D14 _ _ g14, paired_app48 (.cons hoth (.cons hone (.cons hoth .nil))) hcs⟩

/-! ### k48: unlike nodes, plain -/
open TL (tl)
theorem one_ne {N : Ns} (h : N14 N.l) : N.one.data.shown ≠ N.oth.data.shown := fun z => by
  have G : ∀ {s}, s ∈ N.l → goodN s := fun hs => (pn_goodL (h.nm _ hs)).2.1
  have ga : goodN N.a := G (by simp [Ns.l])
  have gb : goodN N.b := G (by simp [Ns.l])
  have g1 : N.one.good := ⟨by simp, by simp, fun s hs => by
    simp at hs
    rcases hs with rfl | rfl
    · exact ga
    · exact gb⟩
  have g2 : N.oth.good := ⟨by simp, by simp, fun s hs => by
    simp at hs
    rcases hs with rfl | rfl
    · exact gb
    · exact ga⟩
  have e := shown_inj (row_pl g1) (row_pl g2) z
  unfold Ns.one Ns.oth Rw.data strsD at e
  injection e with e
  injection e with _ e
  injection e with e _
  injection e with e
  injection e with e _
  injection e with e
  have hd : [N.a, N.b].Nodup := h.nd.sublist (by
    show [N.a, N.b].Sublist [N.a, N.b, N.c, N.d, N.x, N.y, N.z, N.w, N.v, N.p, N.q, N.cn, N.nn, N.sn]
    exact .cons₂ _ (.cons₂ _ (List.nil_sublist _)))
  rw [e] at hd
  simp at hd
theorem sames_ne {N : Ns} (h : N14 N.l) (cs : List Rw) : ¬ ((cs ++ [N.one, N.one, N.oth]).map fun r => r.data.shown).Perm (([N.oth, N.one, N.oth] ++ cs).map fun r => r.data.shown) := fun hp => by
  rw [List.map_append, List.map_append] at hp
  have h1 := hp.trans List.perm_append_comm
  have h2 := (List.perm_append_left_iff _).mp h1
  have hc := h2.count_eq N.one.data.shown
  have hne := one_ne h
  simp [List.count_cons, hne, hne.symm] at hc
/-- told alike, they are alike but for the order -/
theorem dat_fm {n m : Nd} (e : n.dat = m.dat) : n.nm = m.nm ∧ n.ins = m.ins ∧ n.outs = m.outs ∧ (n.rows.map fun r => r.data.shown) = (m.rows.map fun r => r.data.shown) := by
  unfold Nd.dat strsD at e
  injection e with e
  injection e with h1 e
  injection e with h2 e
  injection e with h3 e
  injection e with h4 e
  injection h1 with h1
  injection h2 with h2
  injection h3 with h3
  injection h4 with h4
  refine ⟨h1, strs_inj h2, strs_inj h3, ?_⟩
  have := congrArg (List.map PyData.shown) h4
  rw [List.map_map, List.map_map] at this
  exact this
theorem ch_ne {A B : List Str} {s t : Str} (h : s ≠ t) : ¬ (A ++ s :: B).Perm (A ++ t :: B) := fun hp => by
  have h1 := (List.perm_append_left_iff A).mp hp
  have h2 : ([s] ++ B).Perm ([t] ++ B) := h1
  have h3 := (List.perm_append_right_iff B).mp h2
  have h4 := h3.mem_iff (a := s)
  simp at h4
  exact h h4
/-- a row with another value is shown otherwise -/
theorem val_ne {k : Nat} {n x : Str} {v w : V} (g : (Rw.vd k n v x).good) (g2 : (Rw.vd k n w x).good) (h : valD v ≠ valD w) : (Rw.vd k n v x).data.shown ≠ (Rw.vd k n w x).data.shown := fun z => by
  have e := shown_inj (row_pl g) (row_pl g2) z
  unfold Rw.data at e
  injection e with e
  injection e with _ e
  injection e with _ e
  injection e with e _
  exact h e

/-! ### enumerate over a tuple -/
open PySem.Spec PyProof.Rows PySem.Calls
set_option maxHeartbeats 1000000 in
/-- enumerate of one thing, told by how its iterator begins -/
theorem meets_en1 {x : Value} {ob : Obj} {HP : Heap → Prop} (Bg : Begins x ob HP) :
    Meets (Builtin.«enumerate.__new__» ⟨[.type "enumerate", x], []⟩) (fun _ R s => HP s.heap ∧ R (.ok (.ret (.ref (s.heap.push ob).objs.size))) { s with heap := (s.heap.push ob).push { cls := .type "enumerate", data := .fields #[.none, .bool false, .ref s.heap.objs.size, rawInt 0, .none, .none] } }) := by
  refine .of_wp fun prog w A R s hh => ?_
  obtain ⟨hp, gn, dr, tk, os⟩ := s
  obtain ⟨p1, p2⟩ := hh
  have hsub := sub_enumerate
  have q1 : ∀ {B : Around} {E : Value → Shared → Prop} {Q : Value → Shared → Prop}, Q (.ref hp.objs.size) ⟨hp.push ob, gn, dr, tk, os⟩ → wpAny (model prog w) B (pyIter x) Q E ⟨hp, gn, dr, tk, os⟩ := fun q => Bg.iter prog w _ _ ⟨hp, gn, dr, tk, os⟩ _ p1 q
  wp_walk using q1
  refine wpAny_stack_any fun st => wpAny_pure ?_
  split
  · rename_i cc _ _ _ _ _
    cases (cc == Value.type "enumerate") <;> (wp_walk using q1) <;> exact ⟨_, rfl, p2⟩
  · wp_walk using q1
    exact ⟨_, rfl, p2⟩
section
variable {prog : Program} {w : World} {A : Around} {E : Value → Shared → Prop} {s : Shared}
theorem call_en1 {t : Addr} {its : Array Value} {Q : Value → Shared → Prop} (ht : s.heap.IsTuple t its) (h : ∀ h', IsEnum h' (s.heap.objs.size + 1) s.heap.objs.size 0 .none → h'.IsTupleIter s.heap.objs.size t 0 → (∀ b o, s.heap.get? b = some o → h'.get? b = some o) → Q (.ref (s.heap.objs.size + 1)) { s with heap := h' }) :
    wpAny (model prog w) A (call (.type "enumerate") [.ref t]) Q E s := by
  refine callType_new F.called_enumerate (by decide) (F.typeCall_enumerate_1 _) (F.newCall_enumerate_1 _) (fun obj => F.args_object_init_2 obj _) F.entry_enumerate_new (meets_en1 (begins_tuple t its)) ⟨ht, ?_⟩
  generalize ho1 : ({ cls := .type "tuple_iterator", data := .fields #[.ref t, .int 0 0] } : Obj) = o1
  generalize ho2 : ({ cls := .type "enumerate", data := .fields #[.none, .bool false, .ref s.heap.objs.size, rawInt 0, .none, .none] } : Obj) = o2
  have f1 : o1.isFreed = false := by rw [← ho1]; rfl
  have f2 : o2.isFreed = false := by rw [← ho2]; rfl
  have hz : (s.heap.push o1).objs.size = s.heap.objs.size + 1 := Heap.size_push ..
  have g2 : ((s.heap.push o1).push o2).get? (s.heap.objs.size + 1) = some o2 := hz ▸ Heap.get?_push_size (s.heap.push o1) f2
  have g1 : ((s.heap.push o1).push o2).get? s.heap.objs.size = some o1 := Heap.get?_push_of_some _ (Heap.get?_push_size _ f1)
  show _ ∧ _
  rw [hz]
  refine ⟨⟨o2, g2, by rw [← ho2]⟩, h _ ?_ ⟨o1, g1, by rw [← ho1], by rw [← ho1]; rfl⟩ fun b o x => Heap.get?_push_of_some _ (Heap.get?_push_of_some _ x)⟩
  rw [← ho2] at g2 ⊢
  exact g2
end
/-- the tuple at a: each item in a new pair -/
def IeT (K : PySem.W.Frag) (a : Addr) (xs : List V) : It :=
  ⟨fun i H => SqT K H a xs ∧ i < xs.length, fun i H v H' => ∃ T x, v = .ref T ∧ H T = none ∧ H' = upd H T (.tup [.int (i : Nat), x]) ∧ xs[i]? = some x, fun i H => SqT K H a xs ∧ xs.length ≤ i⟩
theorem turn_enT {P : Program} {w : World} {K : PySem.W.Frag} {elts : List Expr} {kk : Nat} {tpos : Pos} (a e it : Addr) (xs : List V) :
    Turn P w K (.Tuple elts kk tpos) (IeT K a xs) [e, it] e (fun i h => (∃ old, IsEnum h e it ((i : Nat) : Int) old) ∧ h.IsTupleIter it a i ∧ e ≠ it ∧ a ≠ it ∧ e ≠ a ∧ i ≤ xs.length) where
  mem := by simp
  obj := fun i h st b hb => by
    obtain ⟨⟨old, he⟩, ⟨o, ho, hc, hd⟩, _⟩ := st
    rcases (by simpa using hb : b = e ∨ b = it) with z | z <;> rw [z]
    · exact ⟨_, he, fun v q => nomatch q⟩
    · exact ⟨o, ho, fun v q => by rw [hd] at q; cases q⟩
  keep := fun i h h' st k => by
    obtain ⟨⟨old, he⟩, ⟨o, ho, hr⟩, n⟩ := st
    exact ⟨⟨old, k e (by simp) _ he⟩, ⟨o, k it (by simp) o ho, hr⟩, n⟩
  item := by
    intro X hP hw hK hc i pins s σ H E I hf st hg
    subst hP hw hK
    obtain ⟨⟨old, he⟩, hit, n1, n2, n3, hle⟩ := st
    obtain ⟨hq, hlt⟩ := hg
    obtain ⟨its, rv, p, hz⟩ := I.tuple hq
    obtain ⟨u, hu, ru⟩ := rv.get (show xs[i]? = some xs[i] by simp [hlt])
    have hel : e < s.heap.objs.size := Heap.lt_size he
    have hil : it < s.heap.objs.size := by obtain ⟨_, q, _⟩ := hit; exact Heap.lt_size q
    have hsz := rv.length
    have D := Draws.tuple (prog := X.prog) (w := X.w) (A := X.A.in1) (I.ok.hd hc) it a n2 its.toArray
    refine wpAny_pyNext_enum_itemC D he ⟨hit, p⟩ (by simp; omega) n1 (by simp [n1, n3]) fun x h' tk hx ho hst hT hsz' hk => ?_
    have hxu : x = u := by
      have hx' : its[i]? = some x := by simpa using hx
      rw [hu] at hx'
      exact (Option.some.inj hx').symm
    subst hxu
    refine ⟨_, rfl, wpAny_letOwnedTupleGo_enum (s := { s with heap := h', toks := tk + 1 }) ho fun h2 he2 sb => ?_⟩
    have hT2 : h2.get? s.heap.objs.size = some { cls := .type "tuple", data := .seq #[.int i tk, x] } := (sb.2 _ (Nat.ne_of_gt hel)).trans hT
    have new : ObjOk X.prog X.w (upd H s.heap.objs.size (.tup [.int (i : Nat), xs[i]])) h2 s.heap.objs.size (.tup [.int (i : Nat), xs[i]]) :=
      ⟨by show 2 ≤ sizeLine; decide, [.int i tk, x], .cons ⟨_, rfl⟩ (.cons ru .nil), ⟨_, hT2, rfl, _, rfl⟩⟩
    have I1 : Inv X pins σ (upd H s.heap.objs.size (.tup [.int (i : Nat), xs[i]])) { s with heap := h2, toks := tk + 1 } :=
      I.turnedNew (ch := [e, it]) (fun b ob hb q => by
        have hb2 : b ≠ e ∧ b ≠ it := by simpa using hb
        exact (sb.2 b hb2.1).trans (hk b ob hb2.1 hb2.2 q)) hf (Nat.le_refl _) new
    obtain ⟨o3, ho3, hr3⟩ := hst.1
    have hen : ∃ old, IsEnum h2 e it ((i + 1 : Nat) : Int) old := ⟨x, by
      rw [show ((i + 1 : Nat) : Int) = (i : Int) + 1 by omega]
      exact he2⟩
    have hiter : h2.IsTupleIter it a (i + 1) := ⟨o3, (sb.2 it (Ne.symm n1)).trans ho3, hr3⟩
    refine ⟨.ref s.heap.objs.size, _, I1, rfl, ⟨_, xs[i], rfl, I.hok.fresh (Nat.le_refl _), rfl, by simp [hlt]⟩, ⟨hen, hiter, n1, n2, n3, hlt⟩, fun b hb => ?_⟩
    have hb2 : b = e ∨ b = it := by simpa using hb
    have hbl : b < s.heap.objs.size := by rcases hb2 with z | z <;> rw [z] <;> assumption
    rw [upd_ne (Nat.ne_of_lt hbl)]
    exact (hf b hb).1
  done := by
    intro X hP hw hK hc i pins s σ H E I hf st hg
    subst hP hw hK
    obtain ⟨⟨old, he⟩, hit, n1, n2, n3, hle⟩ := st
    obtain ⟨hq, hge⟩ := hg
    obtain ⟨its, rv, p, hz⟩ := I.tuple hq
    obtain ⟨f0, f1, f2, f3, f4, f5⟩ := hf it (by simp)
    have hsz := rv.length
    have hi : i = its.toArray.size := by simp; omega
    subst hi
    have D := Draws.tuple (prog := X.prog) (w := X.w) (A := X.A.in1) (I.ok.hd hc) it a n2 its.toArray
    exact wpAny_pyNext_enum_endD D he ⟨hit, p⟩ fun h' eb => ⟨rfl, I.turned (t' := s.toks) (fun b o hb q => eb b o hb q) f0 f1 f3 f4 f5⟩
  self := fun A i s Q E st h => let ⟨⟨_, he⟩, _⟩ := st; wpAny_pyIter_enum he h
def iEnT (K : PySem.W.Frag) (ta : TA) : TI := fun σ H R => ta σ H fun vs H1 => ∃ a xs, vs = [.ref a] ∧ SqT K H1 a xs ∧ R (IeT K a xs) H1
theorem pi_enumT {X : Cx} {e : Expr} {ta : TA} {p pos tpos : Pos} {elts : List Expr} {kk : Nat} (hg : Gl X "enumerate") (hm : X.mg "enumerate" = none) (ha : PA X [e] ta) (hs : starEach [e] X.env = [(false, eval e X.env)] := by rfl) :
    PI X (.Tuple elts kk tpos) (.Call (.Name "enumerate" p) [e] [] pos) (iEnT X.K ta) := by
  refine ⟨fun pins s σ H R I h => Call_ (ld_blt I hg hm boot_enumerate (PyProof.Rows.callWith_type1 (thn (ha.run pos pins s σ H _ I h) fun us s1 hh => ?_) hs rfl))⟩
  obtain ⟨vs, H1, I1, r1, a, xs, ex, hq, q⟩ := hh
  subst ex
  cases r1 with
  | cons r rr =>
    cases rr
    cases r
    obtain ⟨its, rv, p', hz⟩ := I1.tuple hq
    have hal : a < s1.heap.objs.size := by obtain ⟨_, q, _⟩ := p'; exact Heap.lt_size q
    refine call_en1 (its := its.toArray) p' fun h' he hit hk => wpAny_pyIter_enum he ?_
    have I2 : Inv X pins σ H1 { s1 with heap := h' } := I1.kept (t' := s1.toks) hk
    refine ⟨s1.heap.objs.size + 1, [s1.heap.objs.size + 1, s1.heap.objs.size], _, _, H1, rfl, I2, turn_enT a (s1.heap.objs.size + 1) s1.heap.objs.size xs, ⟨⟨.none, he⟩, hit, Nat.succ_ne_self _, Nat.ne_of_lt hal, Nat.ne_of_gt (Nat.lt_succ_of_lt hal), Nat.zero_le _⟩, fun b hb => ?_, q⟩
    have hle : s1.heap.objs.size ≤ b := by
      rcases (by simpa using hb : b = s1.heap.objs.size + 1 ∨ b = s1.heap.objs.size) with z | z <;> rw [z]
      · exact Nat.le_succ _
      · exact Nat.le_refl _
    exact I1.fpOk hle (I1.hok.fresh hle)
section
variable {K : PySem.W.Frag} {σ : L2.St} {H : Hp} {D : Ends} {g : L2.TG} {tb : TS} {ta : TA}
theorem c_forET (h : ta σ H fun ws H1 => ∃ a xs, ws = [.ref a] ∧ SqT K H1 a xs ∧ ForI (IeT K a xs) g tb D σ H1) : tFor (iEnT K ta) g tb D σ H := h
/-- for i, x in enumerate(t) -/
theorem forET {a : Addr} {xs : List V} (Pv : Nat → L2.St → Hp → Prop) (h0 : Pv 0 σ H) (hl : ∀ i σ' H', i ≤ xs.length → Pv i σ' H' → SqT K H' a xs)
    (hs : ∀ i x T σ' H', xs[i]? = some x → Pv i σ' H' → H' T = none → g (.ref T) σ' (upd H' T (.tup [.int (i : Nat), x])) fun σ2 H2 => tb { D with nx := Pv (i + 1), ct := Pv (i + 1), bk := D.nx } σ2 H2)
    (hd : ∀ σ' H', Pv xs.length σ' H' → D.nx σ' H') : ForI (IeT K a xs) g tb D σ H := by
  have W : Walk (IeT K a xs) xs.length (fun H => SqT K H a xs) (YPair (fun i => some (.int (i : Nat))) (fun i => xs[i]?)) :=
    ⟨fun i _ hi q => ⟨q, hi⟩, fun _ q => ⟨q, Nat.le_refl _⟩, fun i H v H' _ q ⟨T, x, h1, h2, h3, h4⟩ => ⟨T, .int (i : Nat), x, h1, h2, h3, rfl, h4⟩⟩
  refine for_it W Pv h0 (fun i σ' H' hi p => hl i σ' H' hi p) (fun i v σ' H' H'' hi p y => ?_) hd
  obtain ⟨T, x, z, rfl, hT, rfl, ex, ez⟩ := y
  cases ex
  exact hs i z T σ' H' ez p hT
end

/-! ### t[::-1] of a tuple -/
open PySem.Spec PyProof.Rows PySem.Calls
section
variable {prog : Program} {w : World} {A : Around} {E : Value → Shared → Prop} {s : Shared}
theorem places_rev (n : Nat) : Builtin.Slice.slicePlaces ((n : Int) - 1) (-1) (-1) = n := by
  unfold Builtin.Slice.slicePlaces
  simp
  split <;> omega
theorem adjust_rev (n : Nat) : Builtin.Slice.sliceAdjust none none (-1) (n : Int) = ((n : Int) - 1, -1) := by
  unfold Builtin.Slice.sliceAdjust
  simp
theorem applied_rev {b : Addr} {vs : Value} {n : Nat} {Q : Int × Int × Nat → Shared → Prop} (hb : ∃ vl vu, s.heap.IsSliceOf b vl vu vs ∧ IsPart vl none ∧ IsPart vu none) (ps : IsPart vs (some (-1))) (h : Q ((n : Int) - 1, -1, n) s) : wpAny (model prog w) A (Builtin.Slice.sliceApplied (.ref b) (pure (n : Int))) Q E s := by
  obtain ⟨vl, vu, ⟨ob, hob, hcb, hdb⟩, pl, pu⟩ := hb
  unfold Builtin.Slice.sliceApplied
  unfold Builtin.Slice.sliceFields
  refine wpAny_bind (wpAny_bind (wpAny_field hob hdb (x := vl) rfl (wpAny_bind (wpAny_field hob hdb (x := vu) rfl (wpAny_bind (wpAny_field hob hdb (x := vs) rfl (wpAny_pure ?_)))))))
  refine wpAny_bind (HT.slicePart_ ps ?_)
  show wpAny _ _ (if ((-1 : Int) == 0) = true then _ else _) _ _ s
  refine (if_neg (show ¬ (((-1 : Int) == 0) = true) by decide)).symm ▸ ?_
  refine wpAny_bind (HT.slicePart_ pl (wpAny_bind (HT.slicePart_ pu (wpAny_bind (wpAny_pure ?_)))))
  show wpAny _ _ (match Builtin.Slice.sliceAdjust none none (-1) (n : Int) with | (lo, hi) => pure (lo, (-1 : Int), Builtin.Slice.slicePlaces lo hi (-1))) _ _ s
  rw [adjust_rev]
  show wpAny _ _ (pure ((n : Int) - 1, (-1 : Int), Builtin.Slice.slicePlaces ((n : Int) - 1) (-1) (-1))) _ _ s
  rw [places_rev]
  exact wpAny_pure h
theorem fm_cong {α β : Type} {f g : α → Option β} : ∀ {l : List α}, (∀ x ∈ l, f x = g x) → l.filterMap f = l.filterMap g
  | [], _ => rfl
  | a :: l, h => by
    rw [List.filterMap_cons, List.filterMap_cons, h a List.mem_cons_self, fm_cong fun x hx => h x (List.mem_cons_of_mem _ hx)]
theorem pick_rev (xs : Array Value) : ((List.range xs.size).filterMap fun (m : Nat) => xs[((xs.size : Int) - 1 + (m : Int) * (-1)).toNat]?).toArray = xs.toList.reverse.toArray := by
  have e : (List.range xs.size).filterMap (fun (m : Nat) => xs[((xs.size : Int) - 1 + (m : Int) * (-1)).toNat]?) = ((List.range xs.size).map fun m => xs.size - 1 - m).filterMap (xs[·]?) := by
    rw [List.filterMap_map]
    refine fm_cong fun m hm => ?_
    have hm2 := List.mem_range.mp hm
    have : ((xs.size : Int) - 1 + (m : Int) * (-1)).toNat = xs.size - 1 - m := by omega
    show xs[((xs.size : Int) - 1 + (m : Int) * (-1)).toNat]? = xs[xs.size - 1 - m]?
    rw [this]
  rw [e, PySem.W.krv_range, List.filterMap_reverse, PySem.W.krv_all]
theorem getItem_revT {t b : Addr} {its : Array Value} {vs : Value} {Q : Value → Shared → Prop} (hT : IsTup s.heap t its) (hb : ∃ vl vu, s.heap.IsSliceOf b vl vu vs ∧ IsPart vl none ∧ IsPart vu none) (ps : IsPart vs (some (-1)))
    (h : Q (.ref s.heap.objs.size) { s with heap := s.heap.push { cls := .type "tuple", data := .seq its.toList.reverse.toArray } }) (hsz : its.size ≤ sizeLine) : wpAny (model prog w) A (getItem (.ref t) (.ref b)) Q E s := by
  have hz : sizeOk (.seq its.toList.reverse.toArray) := by
    show its.toList.reverse.toArray.size ≤ sizeLine
    simpa using hsz
  have hTb : s.TypeIs (.ref b) "slice" := by
    obtain ⟨vl, vu, ⟨ob, hob, hcb, hdb⟩, _⟩ := hb
    exact ⟨ob, hob, hcb⟩
  unfold getItem
  with_reducible refine wpAny_holding ?_
  first | refine wpAny_bind (wpAny_pure ?_) | skip
  refine wpAny_bind (wpAny_sequenceKey hT.typeIs (by decide) ?_)
  refine wpAny_bind (wpAny_callSpecial?_slot (name := Str.ofString "__getitem__") hT.typeIs PyProof.Rows.slot_tuple_getitem (wpAny_call_entry PyProof.Rows.slot_tuple_getitem hT.typeIs entry_tuple_getitem ?_ (args_tuple_getitem _ _)))
  show wpAny _ _ (Builtin.Tuple.tupleItemsOf (.ref t) >>= _) _ _ s
  refine wpAny_bind (tupleItemsOf_ hT (wpAny_bind (wpAny_typeOf hTb ?_)))
  rw [if_pos (by decide)]
  refine wpAny_bind (applied_rev hb ps ?_)
  show wpAny _ _ (if ((((its.size : Int) - 1) == 0 && (-1 : Int) == 1) && its.size == its.size) = true then _ else _) _ _ s
  rw [if_neg (by simp), pick_rev]
  first
    | exact wpAny_bind (m := Builtin.Tuple.tupleExact _) (wpAny_newObj_type (wpAny_pure ⟨_, rfl, wpAny_pure h⟩) hz)
    | exact wpAny_bind (m := Builtin.Tuple.tupleExact _) (wpAny_newObj_type (wpAny_bind (wpAny_pure (wpAny_pure ⟨_, rfl, wpAny_pure h⟩))) hz)
    | exact wpAny_bind (wpAny_bind (m := Builtin.Tuple.tupleExact _) (wpAny_newObj_type (wpAny_pure (wpAny_pure ⟨_, rfl, wpAny_pure h⟩)) hz))
    | exact wpAny_bind (wpAny_bind (m := Builtin.Tuple.tupleExact _) (wpAny_newObj_type (wpAny_pure ⟨_, rfl, wpAny_pure h⟩) hz))
end
def tRevT (K : PySem.W.Frag) (te : TE) : TE := fun σ H Q => te σ H fun x H1 => ∃ a xs, x = .ref a ∧ SqT K H1 a xs ∧ ∀ p, H1 p = none → Q (.ref p) (upd H1 p (.tup xs.reverse))
theorem c_revT {te : TE} {σ : L2.St} {H : Hp} {Q : VK} (h : te σ H fun x H1 => ∃ a xs, x = .ref a ∧ SqT K H1 a xs ∧ ∀ p, H1 p = none → Q (.ref p) (upd H1 p (.tup xs.reverse))) : tRevT K te σ H Q := h
theorem pe_revT {X : Cx} {e : Expr} {te : TE} {k : Nat} {p1 p2 p3 pos : Pos} (he : PE X e te) : PE X (.Subscript e (.Slice none none (some (.UnaryOp .USub (.Constant (.int 1) k p1) p2)) p3) pos) (tRevT X.K te) := by
  refine ⟨fun pins s σ H Q I h => Subscript_ (thn (he.run pins s σ H _ I h) fun v s1 ⟨x, H1, I1, r1, q1⟩ => ?_)⟩
  obtain ⟨a, xs, rfl, hx, q⟩ := q1
  cases r1
  have hst : PO X (some (.UnaryOp .USub (.Constant (.int 1) k p1) p2)) (tPart (tUn (rU fun i => .int (-i)) (tC (.int 1)))) := po_some (pe_un un_neg pe_int)
  refine wpAny_Slice (thn (po_none.run pins s1 σ H1 (fun o G => o = none ∧ G = H1) I1 ⟨rfl, rfl⟩) fun vl s2 ⟨l, H2, I2, pl, el, e2⟩ => ?_)
  subst el; subst e2
  refine thn (po_none.run pins s2 σ H2 (fun o G => o = none ∧ G = H2) I2 ⟨rfl, rfl⟩) fun vu s3 ⟨u, H3, I3, pu, eu, e3⟩ => ?_
  subst eu; subst e3
  refine thn (hst.run pins s3 σ H3 (fun o G => o = some (-1) ∧ G = H3) I3 ⟨1, rfl, -1, rfl, rfl, rfl⟩) fun vs s4 ⟨o, H4, I4, ps, eo, e4⟩ => ?_
  subst eo; subst e4
  have I5 : Inv X pins σ H4 { s4 with heap := s4.heap.push { cls := .type "slice", data := .fields #[vl, vu, vs] } } := I4.kept (t' := s4.toks) fun b ob z => Heap.get?_push_of_some _ z
  obtain ⟨its, r, ht, hz⟩ := I5.tuple hx
  have hlen := r.length
  show wpAny (model X.prog X.w) X.A (subscriptTail e (.Slice none none (some (.UnaryOp .USub (.Constant (.int 1) k p1) p2)) p3) (.ref a) (.ref s4.heap.objs.size)) (EP X pins σ Q) X.xe { s4 with heap := s4.heap.push { cls := .type "slice", data := .fields #[vl, vu, vs] } }
  refine tail_any (ops := [.ref a, .ref s4.heap.objs.size]) ht.typeIs (PyProof.Rows.slot_tuple_getitem.lookup) ?_ (by with_unfolding_all rfl)
  refine getItem_revT ht ⟨_, _, Heap.IsSliceOf.new _ vl vu vs, pl, pu⟩ ps ?_ (by rw [List.size_toArray]; omega)
  refine ⟨.ref _, _, I5.laid (t' := s4.toks) (o := .tup xs.reverse) (fun b ob z => Heap.get?_push_of_some _ z) (Nat.le_refl _) ?_, rfl, q _ (I5.hok.fresh (Nat.le_refl _))⟩
  exact ⟨by rw [List.length_reverse]; exact hz, _, r.reverse, ⟨_, Heap.get?_push_size _ rfl, rfl, 0, rfl⟩⟩

/-! ### k48: another value put -/
open TL (tl)
/-- the other value -/
def othV : V → V
  | .int 7 => .int 8
  | .int 0 => .bl false
  | .int _ => .bl true
  | .bl true => .int 1
  | .bl false => .int 0
  | v => v
def sp_value_put_l : Sp := fun vs H Q _ => ∃ (t : Addr) (rs : List Rw) (us : List V), vs = [.ref t] ∧ H t = some (.tup us) ∧ Paired (RowAt H) rs us ∧ rs.length ≤ 20 ∧ (∀ (k : Nat) (n x : Str) (v : V), Rw.vd k n v x ∈ rs → k < 3 ∧ v ∈ fst5) ∧ (∃ (k : Nat) (n x : Str) (v : V), Rw.vd k n v x ∈ rs) ∧
  ∀ (p : Addr) (A B : List Rw) (k : Nat) (n x : Str) (v : V) (ws : List V) (G : Hp), rs = A ++ .vd k n v x :: B → Ex H G → G p = some (.tup ws) → Paired (RowAt G) (A ++ .vd k n (othV v) x :: B) ws → Q (.ref p) G
def othW : V → V
  | .int 7 => .int 7
  | v => othV v
def isVd : Rw → Bool
  | .vd _ _ _ _ => true
  | _ => false
theorem word_vd (r : Rw) : inV (.str r.word) [.str "before", .str "hold", .str "like"] = isVd r := by
  have h : inV (.str "plain") [.str "before", .str "hold", .str "like"] = false ∧ inV (.str "when") [.str "before", .str "hold", .str "like"] = false ∧ inV (.str "same") [.str "before", .str "hold", .str "like"] = false ∧ inV (.str "call") [.str "before", .str "hold", .str "like"] = false := by decide +kernel
  have h2 : inV (.str "before") [.str "before", .str "hold", .str "like"] = true ∧ inV (.str "hold") [.str "before", .str "hold", .str "like"] = true ∧ inV (.str "like") [.str "before", .str "hold", .str "like"] = true := by decide +kernel
  cases r with
  | pl n t => exact h.1
  | vd k n v x =>
    rcases k with _ | _ | k
    · exact h2.1
    · exact h2.2.1
    · exact h2.2.2
  | wh n x y => exact h.2.1
  | sm ns => exact h.2.2.1
  | cl a b c => exact h.2.2.2
theorem ok_value_put_l (T : Txt K mg Z) : FnOk P w K mg base CX0 1 Z.f_value_put_l Z.fd_value_put_l ["_law_rows_here"] sp_value_put_l := by
  refine T.F_value_put_l.ok sc_value_put_l (fun vs H Q E h => ?_) (fun cdv AA outer s H vs Q E hr h => ?_)
  · obtain ⟨t, rs, us, rfl, _⟩ := h
    rfl
  · obtain ⟨t, rs, us, rfl, gt, hP, hl, hv, hex, k'⟩ := h
    refine ⟨_, (pss_cons (ps_set (i := 1) sc_value_put_l.nd rfl (Or.inl rfl) (pe_callTy call_list_of (by rfl) T.n_list (by decide +kernel) (pa_cons (pv 0) pa_nil)))
      (pss_cons (ps_for PassesOwn.never rfl (pi_enumT (by rfl) T.n_enumerate (pa_cons (pv 0) pa_nil)) (pg_tup (by rfl) (pgs_cons (pg_name (i := 2) sc_value_put_l.nd rfl (Or.inl rfl)) (pgs_cons (pg_name (i := 3) sc_value_put_l.nd rfl (Or.inl rfl)) pgs_nil))) (pss_one (ps_if (pt_cmpR op_in_seq (pe_ix ix_tup (pv 3) pe_int (fun _ _ => rfl)) (pe_tup (pa_cons pe_str (pa_cons pe_str (pa_cons pe_str pa_nil)))) (by rfl)) (Evl.pss_cut (ps_set (i := 4) sc_value_put_l.nd rfl (Or.inl rfl) (pe_ix ix_list (pe_lst (pa_cons (pe_callTy call_int1 (by rfl) T.n_int (by decide +kernel) (pa_cons (pe_ix ix_tup (pv 3) pe_int (fun _ _ => rfl)) pa_nil)) (pa_cons (pe_callTy call_bool1 (by rfl) T.n_bool (by decide +kernel) (pa_cons (pe_ix ix_tup (pv 3) pe_int (fun _ _ => rfl)) pa_nil)) pa_nil))) (pe_callTy call_int1 (by rfl) T.n_int (by decide +kernel) (pa_cons (pe_and (pe_not (pe_callB call_isi (by rfl) T.n_isinstance (by decide +kernel) (pa_cons (pe_ix ix_tup (pv 3) pe_int (fun _ _ => rfl)) (pa_cons (pe_bltn (v := .ty "bool") (by rfl) T.n_bool (by decide +kernel) rfl) pa_nil)))) (pe_one (pe_cmpR op_in_seq (pe_ix ix_tup (pv 3) pe_int (fun _ _ => rfl)) (pe_tup (pa_cons pe_int (pa_cons pe_int pa_nil))) (by rfl)))) pa_nil)) (fun _ _ => rfl)))
      (Evl.pss_cut (ps_if (pt_cmpR (op_eqD hr.units) (pe_ix ix_tup (pv 3) pe_int (fun _ _ => rfl)) pe_int (nomark _)) (pss_one (ps_set (i := 4) sc_value_put_l.nd rfl (Or.inl rfl) pe_int)) pss_nil)
      (pss_cons (ps_asg (pe_op op_catA (pe_op op_catA (pe_slice sl_tupA (pv 3) po_none (po_some pe_int)) (pe_tup (pa_cons (pv 4) pa_nil))) (pe_slice sl_tupA (pv 3) (po_some pe_int) po_none)) (pg_sub (pv 1) (pv 2) set_list))
      (pss_one (ps_ret (pe_callTy call_tuple_of (by rfl) T.n_tuple (by decide +kernel) (pa_cons (pv 1) pa_nil))))))) pss_nil)))
      (pss_one (ps_ret (pe_callTy call_tuple_of (by rfl) T.n_tuple (by decide +kernel) (pa_cons (pv 1) pa_nil)))))), ?_⟩
    walk_at "ss"
    have hul := paired_len hP
    have hul2 : rs.length = us.length := hul
    refine ⟨_, _, rfl, .inr (SqT.of gt), fun fd hfd => ?_⟩
    have e1 : Ex H (upd H fd (.lst us)) := Ex.new hfd
    have g1 : upd H fd (.lst us) fd = some (.lst us) := upd_same
    generalize upd H fd (.lst us) = H1 at e1 g1
    walk_at "ss"
    refine c_forET ?_
    walk_at "ss"
    refine ⟨t, us, rfl, SqT.of (e1 _ _ gt), forET (fun i σ' G => (∃ v2 v3 v4, σ' = [some (.ref t), some (.ref fd), v2, v3, v4]) ∧ Ex H1 G ∧ ∀ (j : Nat) (r : Rw), j < i → rs[j]? = some r → ∀ (k : Nat) (n x : Str) (v : V), r ≠ .vd k n v x) ⟨⟨_, _, _, rfl⟩, Ex.refl _, fun j r hj => absurd hj (Nat.not_lt_zero _)⟩ (fun i σ' G _ q => SqT.of (q.2.1 _ _ (e1 _ _ gt))) ?_ ?_⟩
    · rintro i u T σ' G hu ⟨⟨v2, v3, v4, rfl⟩, eG, hno⟩ hT
      obtain ⟨r, hr, hR⟩ := paired_ix hP hu
      have eT : Ex G (upd G T (.tup [.int (i : Nat), u])) := Ex.new hT
      have gT : upd G T (.tup [.int (i : Nat), u]) T = some (.tup [.int (i : Nat), u]) := upd_same
      generalize upd G T (.tup [.int (i : Nat), u]) = G1 at eT gT
      have hR1 := hR.up (e1.trans (eG.trans eT))
      refine c_gTup (SqT.of gT) rfl ?_
      walk_at "ss"
      have hd := hR1.hd
      obtain ⟨a, xs, rfl, ha⟩ := hd
      refine c_ixT (SqT.of ha) at_hd ?_
      walk_at "ss"
      refine newT fun q2 G2 hq2 e2 g2 => ?_
      refine c_in (.inr (SqT.of g2)) rfl rfl ?_
      rw [word_vd]
      walk_at "ss"
      cases r with
      | vd k n v x =>
        obtain ⟨a', rfl', ha'⟩ := hR1
        cases rfl'
        refine if_tt rfl ?_
        have hvv := (hv k n x v (List.mem_of_getElem? hr)).2
        have ha2 := e2 _ _ ha'
        refine c_cut (M := fun σ' G3 => σ' = [some (.ref t), some (.ref fd), some (.int (i : Nat)), some (.ref a), some (othW v)] ∧ Ex G2 G3) ?_ ?_
        · simp only [fst5, List.mem_cons, List.not_mem_nil, or_false] at hvv
          rcases hvv with rfl | rfl | rfl | rfl | rfl
          · walk_at "ss"
            refine c_ixT (SqT.of ha2) rfl ?_
            walk_at "ss"
            refine .inl ⟨_, rfl, ?_⟩
            walk_at "ss"
            refine c_ixT (SqT.of ha2) rfl ?_
            walk_at "ss"
            refine .inl ⟨_, rfl, ?_⟩
            walk_at "ss"
            refine newL fun l3 G3 hl3 e3 g3 => ?_
            walk_at "ss"
            refine c_ixT (SqT.of (e3 _ _ ha2)) rfl ?_
            walk_at "ss"
            refine isi (ty_int _) kb_ib ?_
            walk_at "ss"
            refine c_ixT (SqT.of (e3 _ _ ha2)) rfl ?_
            walk_at "ss"
            refine newT fun t4 G4 ht4 e4 g4 => ?_
            refine c_in (.inr (SqT.of g4)) rfl rfl ?_
            walk_at "ss"
            refine .inr ⟨_, rfl, ?_⟩
            refine c_ixL (SqL.of (e4 _ _ g3)) (by rfl) ?_
            walk_at "ss"
            exact e3.trans e4
          · walk_at "ss"
            refine c_ixT (SqT.of ha2) rfl ?_
            walk_at "ss"
            refine .inl ⟨_, rfl, ?_⟩
            walk_at "ss"
            refine c_ixT (SqT.of ha2) rfl ?_
            walk_at "ss"
            refine .inl ⟨_, rfl, ?_⟩
            walk_at "ss"
            refine newL fun l3 G3 hl3 e3 g3 => ?_
            walk_at "ss"
            refine c_ixT (SqT.of (e3 _ _ ha2)) rfl ?_
            walk_at "ss"
            refine isi (ty_int _) kb_ib ?_
            walk_at "ss"
            refine c_ixT (SqT.of (e3 _ _ ha2)) rfl ?_
            walk_at "ss"
            refine newT fun t4 G4 ht4 e4 g4 => ?_
            refine c_in (.inr (SqT.of g4)) rfl rfl ?_
            walk_at "ss"
            refine .inr ⟨_, rfl, ?_⟩
            refine c_ixL (SqL.of (e4 _ _ g3)) (by rfl) ?_
            walk_at "ss"
            exact e3.trans e4
          · walk_at "ss"
            refine c_ixT (SqT.of ha2) rfl ?_
            walk_at "ss"
            refine .inl ⟨_, rfl, ?_⟩
            walk_at "ss"
            refine c_ixT (SqT.of ha2) rfl ?_
            walk_at "ss"
            refine .inl ⟨_, rfl, ?_⟩
            walk_at "ss"
            refine newL fun l3 G3 hl3 e3 g3 => ?_
            walk_at "ss"
            refine c_ixT (SqT.of (e3 _ _ ha2)) rfl ?_
            walk_at "ss"
            refine isi (ty_int _) kb_ib ?_
            walk_at "ss"
            refine c_ixT (SqT.of (e3 _ _ ha2)) rfl ?_
            walk_at "ss"
            refine newT fun t4 G4 ht4 e4 g4 => ?_
            refine c_in (.inr (SqT.of g4)) rfl rfl ?_
            walk_at "ss"
            refine .inr ⟨_, rfl, ?_⟩
            refine c_ixL (SqL.of (e4 _ _ g3)) (by rfl) ?_
            walk_at "ss"
            exact e3.trans e4
          · walk_at "ss"
            refine c_ixT (SqT.of ha2) rfl ?_
            walk_at "ss"
            refine .inr ⟨_, rfl, ?_⟩
            walk_at "ss"
            refine c_ixT (SqT.of ha2) rfl ?_
            walk_at "ss"
            refine .inr ⟨_, rfl, ?_⟩
            walk_at "ss"
            refine newL fun l3 G3 hl3 e3 g3 => ?_
            walk_at "ss"
            refine c_ixT (SqT.of (e3 _ _ ha2)) rfl ?_
            walk_at "ss"
            refine isi (ty_bl _) kb_bb ?_
            walk_at "ss"
            refine .inr ⟨_, rfl, ?_⟩
            refine c_ixL (SqL.of g3) (by rfl) ?_
            walk_at "ss"
            exact e3
          · walk_at "ss"
            refine c_ixT (SqT.of ha2) rfl ?_
            walk_at "ss"
            refine .inr ⟨_, rfl, ?_⟩
            walk_at "ss"
            refine c_ixT (SqT.of ha2) rfl ?_
            walk_at "ss"
            refine .inr ⟨_, rfl, ?_⟩
            walk_at "ss"
            refine newL fun l3 G3 hl3 e3 g3 => ?_
            walk_at "ss"
            refine c_ixT (SqT.of (e3 _ _ ha2)) rfl ?_
            walk_at "ss"
            refine isi (ty_bl _) kb_bb ?_
            walk_at "ss"
            refine .inr ⟨_, rfl, ?_⟩
            refine c_ixL (SqL.of g3) (by rfl) ?_
            walk_at "ss"
            exact e3
        rintro σ' G3 ⟨rfl, e3⟩
        refine c_cut (M := fun σ' G4 => σ' = [some (.ref t), some (.ref fd), some (.int (i : Nat)), some (.ref a), some (othV v)] ∧ Ex G3 G4) ?_ ?_
        · walk_at "ss"
          refine c_ixT (SqT.of (e3 _ _ ha2)) rfl ?_
          simp only [fst5, List.mem_cons, List.not_mem_nil, or_false] at hvv
          walk_at "ss"
          rcases hvv with rfl | rfl | rfl | rfl | rfl
          · walk_at "ss"
            refine ⟨.int 1, .int 7, .int _, .int _, rfl, rfl, ?_⟩
            rw [show PyData.eqv (.int 1) (.int 7) = false by simp [PyData.eqv]]
            walk_at "ss"
            exact Ex.refl _
          · walk_at "ss"
            refine ⟨.int 0, .int 7, .int _, .int _, rfl, rfl, ?_⟩
            rw [show PyData.eqv (.int 0) (.int 7) = false by simp [PyData.eqv]]
            walk_at "ss"
            exact Ex.refl _
          · walk_at "ss"
            refine ⟨.int 7, .int 7, .int _, .int _, rfl, rfl, ?_⟩
            rw [show PyData.eqv (.int 7) (.int 7) = true by simp [PyData.eqv]]
            walk_at "ss"
            exact Ex.refl _
          · walk_at "ss"
            refine ⟨.bool true, .int 7, .bl _, .int _, rfl, rfl, ?_⟩
            rw [show PyData.eqv (.bool true) (.int 7) = false by simp [PyData.eqv]]
            walk_at "ss"
            exact Ex.refl _
          · walk_at "ss"
            refine ⟨.bool false, .int 7, .bl _, .int _, rfl, rfl, ?_⟩
            rw [show PyData.eqv (.bool false) (.int 7) = false by simp [PyData.eqv]]
            walk_at "ss"
            exact Ex.refl _
        rintro σ' G4 ⟨rfl, e4⟩
        walk_at "ss"
        have ha4 := (e3.trans e4) _ _ ha2
        refine c_slH ha4 fun q5 G5 e5 g5 => ?_
        rw [show cutV [V.str (vword k), V.str n, v, V.str x] none (some 2) = [V.str (vword k), V.str n] from rfl] at g5
        walk_at "ss"
        refine newT fun q6 G6 hq6 e6 g6 => ?_
        refine c_catH (e6 _ _ g5) g6 (by simp) fun q7 G7 e7 g7 => ?_
        walk_at "ss"
        have E7 := e5.trans (e6.trans e7)
        refine c_slH (E7 _ _ ha4) fun q8 G8 e8 g8 => ?_
        rw [show cutV [V.str (vword k), V.str n, v, V.str x] (some 3) none = [V.str x] from rfl] at g8
        refine c_catH (e8 _ _ g7) g8 (by simp) fun q9 G9 e9 g9 => ?_
        walk_at "ss"
        have E9 := e5.trans (e6.trans (e7.trans (e8.trans e9)))
        have EA : Ex H1 G9 := eG.trans (eT.trans (e2.trans (e3.trans (e4.trans E9))))
        have hil := (List.getElem?_eq_some_iff.mp hu).1
        refine ⟨fd, us, (i : Nat), i, rfl, rfl, EA _ _ g1, ixN_nat hil, ?_⟩
        have EB : Ex H (upd G9 fd (.lst (us.set i (.ref q9)))) := Ex.mut (e1.trans EA) hfd
        have gB : upd G9 fd (.lst (us.set i (.ref q9))) fd = some (.lst (us.set i (.ref q9))) := upd_same
        have hq9 : upd G9 fd (.lst (us.set i (.ref q9))) q9 = some (.tup [.str (vword k), .str n, othV v, .str x]) := by
          rw [upd_ne (ne_of g9 (EA _ _ g1) (fun z => by cases z))]
          exact g9
        generalize upd G9 fd (.lst (us.set i (.ref q9))) = GB at EB gB hq9
        walk_at "ss"
        refine ⟨_, _, rfl, .inl ⟨SqL.of gB, fun tp htp => ?_⟩⟩
        have eC : Ex GB (upd GB tp (.tup (us.set i (.ref q9)))) := Ex.new htp
        have hrs : rs = rs.take i ++ .vd k n v x :: rs.drop (i + 1) := by
          have hi2 := List.getElem?_eq_some_iff.mp hr
          rw [← hi2.2, ← List.drop_eq_getElem_cons hi2.1, List.take_append_drop]
        have hPC : Paired (RowAt (upd GB tp (.tup (us.set i (.ref q9))))) rs us := paired_up (fun r u h => h.up (EB.trans eC)) hP
        have hs : us.set i (.ref q9) = us.take i ++ .ref q9 :: us.drop (i + 1) := by rw [List.set_eq_take_append_cons_drop, if_pos hil]
        have hf := paired_app48 (paired_take hPC i) (Paired.cons (F := RowAt (upd GB tp (.tup (us.set i (.ref q9))))) (a := .vd k n (othV v) x) ⟨q9, rfl, eC _ _ hq9⟩ (paired_drop hPC (i + 1)))
        refine k' tp (rs.take i) (rs.drop (i + 1)) k n x v (us.set i (.ref q9)) _ hrs (EB.trans eC) upd_same ?_
        rw [← hs] at hf
        exact hf
      | _ =>
        refine if_ff rfl ?_
        refine ⟨⟨_, _, _, rfl⟩, eG.trans (eT.trans e2), fun j r hj hjr k2 n2 x2 v2 => ?_⟩
        rcases Nat.lt_succ_iff_lt_or_eq.mp hj with h | h
        · exact hno j r h hjr k2 n2 x2 v2
        · subst h
          rw [hr] at hjr
          cases hjr
          exact fun z => by cases z
    · rintro σ' G ⟨_, eG, hno⟩
      obtain ⟨k2, n2, x2, v2, hm⟩ := hex
      obtain ⟨j, hj⟩ := List.getElem?_of_mem hm
      have := (List.getElem?_eq_some_iff.mp hj).1
      exact absurd rfl (hno j _ (by omega) hj k2 n2 x2 v2)

/-! ### k48: a node with one thing otherwise, plain -/
open TL (tl)
theorem nodot48 {s : Str} (h : PNm (tl s)) : (46 : Nat) ∉ s.cps.toList := fun z => let_nodot (h.2.2.1 46 z) rfl
theorem ns_ne {N : Ns} (h : N14 N.l) (i j : Nat) {s t : Str} (hi : N.l[i]? = some s) (hj : N.l[j]? = some t) (hij : i ≠ j) : s ≠ t := fun e => hij (nodup_ij h.nd hi (e ▸ hj))
theorem ns_in {N : Ns} (i : Nat) {s : Str} (hi : N.l[i]? = some s) : s ∈ N.l := List.mem_of_getElem? hi
/-- what the law asks of a node that it makes -/
structure KNd (N : Ns) (n : Nd) : Prop where
  b : NdB n
  nd : NoDot n
  nm : n.nm ≠ N.cn
  pg : nodeBad [N.inner] n = none
theorem w_bad {N : Ns} {rs : List Rw} (hw : WOk N rs) {nm : Str} {ins outs : List Str} : nodeBad [N.inner] ⟨nm, ins, outs, rs⟩ = none := by
  obtain ⟨f0, f1, f2, ex, h0, h1, h2, hx, he, hp⟩ := hw
  refine find_no fun j c hc => ?_
  have hm := hp.mem_iff.mp (List.mem_of_getElem? hc)
  rcases List.mem_append.mp hm with hm | hm
  · simp only [Ns.rows, List.mem_cons, List.not_mem_nil, or_false] at hm
    rcases hm with rfl | rfl | rfl | rfl | rfl | rfl | rfl
    · rfl
    · rfl
    · rfl
    · rfl
    · rfl
    · rfl
    · simp [callBad, fndN, Ns.inner]
  · rcases he c hm with rfl | rfl <;> rfl
theorem k_nd {N : Ns} (h : N14 N.l) {rs : List Rw} (hw : WOk N rs) {nm : Str} {ins outs : List Str} (hnm : nm ∈ N.l) (hcn : nm ≠ N.cn) (hins : ∀ s ∈ ins, s ∈ N.l) (hl : ins.length = 4) (ha : N.a ∈ ins) (hb : N.b ∈ ins) (hc : N.c ∈ ins) (hnd : (ins ++ [N.x, N.y, N.z, N.w, N.v, N.p, N.q]).Nodup) (ho0 : 0 < outs.length) (ho1 : outs.length ≤ 10) (hon : outs.Nodup) (ho : ∀ s ∈ outs, s ∈ [N.x, N.y, N.z, N.w, N.v, N.p, N.q]) : KNd N ⟨nm, ins, outs, rs⟩ := by
  have g := w_good h hw hnm hins hl ha hb hc hnd ho0 ho1 hon ho
  have hlen := hw.len
  refine ⟨⟨g, ?_, by show ins.length ≤ 100; omega, by show outs.length ≤ 100; omega⟩, fun s hs => ?_, hcn, w_bad hw⟩
  · have := bulkR_le (rs := rs) fun r hr => (g.row r hr).1
    show bulkR rs ≤ 900000
    omega
  · refine nodot48 (h.nm s ?_)
    rcases List.mem_append.mp (show s ∈ ins ++ rs.flatMap Rw.tells from hs) with hs | hs
    · exact hins s hs
    · have := hw.tells.mem_iff.mp hs
      simp at this
      rcases this with h | h | h | h | h | h | h <;> simp [Ns.l, h]
/-- the node with one thing otherwise; o: an order of rows alone -/
def OthOk (N : Ns) (rs : List Rw) (n : Nd) (o : Bool) : Prop := KNd N n ∧ (o = true ↔ n.fm = (N.whole rs).fm)
theorem nd11 {N : Ns} (h : N14 N.l) : ([N.a, N.b, N.c, N.d] ++ [N.x, N.y, N.z, N.w, N.v, N.p, N.q]).Nodup := h.nd.sublist (List.take_sublist 11 N.l)
theorem four_in {N : Ns} : ∀ s ∈ [N.a, N.b, N.c, N.d], s ∈ N.l := fun s hs => by
  simp at hs
  rcases hs with h | h | h | h <;> simp [Ns.l, h]
theorem nd_xy {N : Ns} (h : N14 N.l) : [N.x, N.y].Nodup := by
  have := ns_ne h 4 5 rfl rfl (by decide)
  simp [this]
theorem in_xy {N : Ns} : ∀ s ∈ [N.x, N.y], s ∈ [N.x, N.y, N.z, N.w, N.v, N.p, N.q] := fun s hs => by
  simp at hs
  rcases hs with h | h <;> simp [h]
theorem w_k {N : Ns} (h : N14 N.l) {rs : List Rw} (hw : WOk N rs) : KNd N (N.whole rs) :=
  k_nd h hw (ns_in 12 rfl) (ns_ne h 12 11 rfl rfl (by decide)) four_in rfl (by simp) (by simp) (by simp) (nd11 h) (by simp) (by simp) (nd_xy h) in_xy
theorem oth0 {N : Ns} (h : N14 N.l) {rs : List Rw} (hw : WOk N rs) : OthOk N rs ⟨N.sn, [N.a, N.b, N.c, N.d], [N.x, N.y], rs⟩ false :=
  ⟨k_nd h hw (ns_in 13 rfl) (ns_ne h 13 11 rfl rfl (by decide)) four_in rfl (by simp) (by simp) (by simp) (nd11 h) (by simp) (by simp) (nd_xy h) in_xy,
    (fun z => by cases z), fun e => absurd (fm_eq.mp e).1 (ns_ne h 13 12 rfl rfl (by decide))⟩
theorem oth1 {N : Ns} (h : N14 N.l) {rs : List Rw} (hw : WOk N rs) : OthOk N rs ⟨N.nn, [N.a, N.b, N.c, N.sn], [N.x, N.y], rs⟩ false := by
  refine ⟨k_nd h hw (ns_in 12 rfl) (ns_ne h 12 11 rfl rfl (by decide)) (fun s hs => ?_) rfl (by simp) (by simp) (by simp) ?_ (by simp) (by simp) (nd_xy h) in_xy, (fun z => by cases z), fun e => ?_⟩
  · simp at hs
    rcases hs with h | h | h | h <;> simp [Ns.l, h]
  · have h1 : [N.a, N.b, N.c, N.x, N.y, N.z, N.w, N.v, N.p, N.q, N.sn].Nodup := h.nd.sublist (by
      show [N.a, N.b, N.c, N.x, N.y, N.z, N.w, N.v, N.p, N.q, N.sn].Sublist [N.a, N.b, N.c, N.d, N.x, N.y, N.z, N.w, N.v, N.p, N.q, N.cn, N.nn, N.sn]
      exact .cons₂ _ (.cons₂ _ (.cons₂ _ (.cons _ (.cons₂ _ (.cons₂ _ (.cons₂ _ (.cons₂ _ (.cons₂ _ (.cons₂ _ (.cons₂ _ (.cons _ (.cons _ (.cons₂ _ .slnil))))))))))))))
    have hp : ([N.a, N.b, N.c] ++ ([N.sn] ++ [N.x, N.y, N.z, N.w, N.v, N.p, N.q])).Perm ([N.a, N.b, N.c] ++ ([N.x, N.y, N.z, N.w, N.v, N.p, N.q] ++ [N.sn])) := List.Perm.append_left _ List.perm_append_comm
    exact hp.nodup_iff.mpr h1
  · have := (fm_eq.mp e).2.1
    simp [Ns.whole] at this
    exact (ns_ne h 13 3 rfl rfl (by decide) this).elim
theorem oth2 {N : Ns} (h : N14 N.l) {rs : List Rw} (hw : WOk N rs) : OthOk N rs ⟨N.nn, [N.b, N.c, N.d, N.a], [N.x, N.y], rs⟩ false := by
  refine ⟨k_nd h hw (ns_in 12 rfl) (ns_ne h 12 11 rfl rfl (by decide)) (fun s hs => ?_) rfl (by simp) (by simp) (by simp) ?_ (by simp) (by simp) (nd_xy h) in_xy, (fun z => by cases z), fun e => ?_⟩
  · simp at hs
    rcases hs with h | h | h | h <;> simp [Ns.l, h]
  · have hp : ([N.b, N.c, N.d] ++ [N.a]).Perm ([N.a] ++ [N.b, N.c, N.d]) := List.perm_append_comm
    exact (hp.append_right [N.x, N.y, N.z, N.w, N.v, N.p, N.q]).nodup_iff.mpr (nd11 h)
  · have := (fm_eq.mp e).2.1
    simp [Ns.whole] at this
    exact (ns_ne h 1 0 rfl rfl (by decide) this.1).elim
theorem oth3 {N : Ns} (h : N14 N.l) {rs : List Rw} (hw : WOk N rs) {outs : List Str} (ho : outs = [N.x, N.y, N.z] ∨ outs = [N.y, N.x] ∨ outs = [N.x]) : OthOk N rs ⟨N.nn, [N.a, N.b, N.c, N.d], outs, rs⟩ false := by
  have n1 := ns_ne h 4 5 rfl rfl (by decide)
  have n2 := ns_ne h 4 6 rfl rfl (by decide)
  have n3 := ns_ne h 5 6 rfl rfl (by decide)
  have kk : ∀ outs : List Str, 0 < outs.length → outs.length ≤ 10 → outs.Nodup → (∀ s ∈ outs, s ∈ [N.x, N.y, N.z, N.w, N.v, N.p, N.q]) → KNd N ⟨N.nn, [N.a, N.b, N.c, N.d], outs, rs⟩ := fun outs h1 h2 h3 h4 => k_nd h hw (ns_in 12 rfl) (ns_ne h 12 11 rfl rfl (by decide)) four_in rfl (by simp) (by simp) (by simp) (nd11 h) h1 h2 h3 h4
  rcases ho with rfl | rfl | rfl
  · refine ⟨kk _ (by simp) (by simp) (by simp [n1, n2, n3]) (fun s hs => by simp at hs; rcases hs with h | h | h <;> simp [h]), (fun z => by cases z), fun e => ?_⟩
    have := (fm_eq.mp e).2.2.1
    simp [Ns.whole] at this
  · refine ⟨kk _ (by simp) (by simp) (by simp [n1.symm]) (fun s hs => by simp at hs; rcases hs with h | h <;> simp [h]), (fun z => by cases z), fun e => ?_⟩
    have := (fm_eq.mp e).2.2.1
    simp [Ns.whole] at this
    exact (n1 this.2).elim
  · refine ⟨kk _ (by simp) (by simp) (by simp) (fun s hs => by simp at hs; simp [hs]), (fun z => by cases z), fun e => ?_⟩
    have := (fm_eq.mp e).2.2.1
    simp [Ns.whole] at this
theorem perm_swap1 {α : Type} {A B P S : List α} {r r' : α} (h : (A ++ r :: B).Perm (P ++ r :: S)) : (A ++ r' :: B).Perm (P ++ r' :: S) :=
  List.perm_middle.trans (((List.Perm.cons_inv (List.perm_middle.symm.trans (h.trans List.perm_middle))).cons r').trans List.perm_middle.symm)
theorem oth_val {v : V} (h : v ∈ fst5) : isVal (othV v) = true ∧ valD v ≠ valD (othV v) := by
  simp only [fst5, List.mem_cons, List.not_mem_nil, or_false] at h
  rcases h with rfl | rfl | rfl | rfl | rfl <;> exact ⟨rfl, by simp [othV, valD]⟩
theorem wn_vd {N : Ns} {m : Nat} {rs : List Rw} (h : WN N m rs) : (∀ (k : Nat) (n x : Str) (v : V), Rw.vd k n v x ∈ rs → k < 3 ∧ v ∈ fst5) ∧ ∃ (k : Nat) (n x : Str) (v : V), Rw.vd k n v x ∈ rs := by
  obtain ⟨f0, f1, f2, ex, h0, h1, h2, hx, he, hp⟩ := h
  refine ⟨fun k n x v hm => ?_, 0, N.y, N.a, f0, hp.mem_iff.mpr (List.mem_append_left _ (by simp [Ns.rows]))⟩
  rcases List.mem_append.mp (hp.mem_iff.mp hm) with hm | hm
  · simp [Ns.rows] at hm
    rcases hm with ⟨rfl, _, rfl, _⟩ | ⟨rfl, _, rfl, _⟩ | ⟨rfl, _, rfl, _⟩
    · exact ⟨by decide, h0⟩
    · exact ⟨by decide, h1⟩
    · exact ⟨by decide, h2⟩
  · rcases he _ hm with e | e <;> cases e
theorem wn_val {N : Ns} {m : Nat} {A B : List Rw} {k : Nat} {n x : Str} {v : V} (h : WN N m (A ++ .vd k n v x :: B)) (hm : m ≤ 4) : WOk N (A ++ .vd k n (othV v) x :: B) := by
  obtain ⟨f0, f1, f2, ex, h0, h1, h2, hx, he, hp⟩ := h
  have hmm : Rw.vd k n v x ∈ N.rows f0 f1 f2 ++ ex := hp.mem_iff.mp (by simp)
  have v0 := fst5_isVal h0
  have v1 := fst5_isVal h1
  have v2 := fst5_isVal h2
  rcases List.mem_append.mp hmm with hm2 | hm2
  · simp [Ns.rows] at hm2
    rcases hm2 with ⟨rfl, rfl, rfl, rfl⟩ | ⟨rfl, rfl, rfl, rfl⟩ | ⟨rfl, rfl, rfl, rfl⟩
    · exact ⟨othV v, f1, f2, ex, (oth_val h0).1, v1, v2, by omega, he, perm_swap1 (P := ([.pl N.x (.two "+" (.nm N.a) (.nt (.nm N.b)))] : List Rw)) hp⟩
    · exact ⟨f0, othV v, f2, ex, v0, (oth_val h1).1, v2, by omega, he, perm_swap1 (P := ([.pl N.x (.two "+" (.nm N.a) (.nt (.nm N.b))), .vd 0 N.y f0 N.a, .wh N.z N.a N.c] : List Rw)) hp⟩
    · exact ⟨f0, f1, othV v, ex, v0, v1, (oth_val h2).1, by omega, he, perm_swap1 (P := ([.pl N.x (.two "+" (.nm N.a) (.nt (.nm N.b))), .vd 0 N.y f0 N.a, .wh N.z N.a N.c, .vd 1 N.w f1 N.z] : List Rw)) hp⟩
  · rcases he _ hm2 with e | e <;> cases e
theorem oth4 {N : Ns} (h : N14 N.l) {m : Nat} {A B : List Rw} {k : Nat} {n x : Str} {v : V} (hw : WN N m (A ++ .vd k n v x :: B)) (hm : m ≤ 4) : OthOk N (A ++ .vd k n v x :: B) (N.whole (A ++ .vd k n (othV v) x :: B)) false := by
  have hw2 := wn_val hw hm
  have k1 := w_k h (hw.wok hm)
  have k2 := w_k h hw2
  refine ⟨k2, (fun z => by cases z), fun e => ?_⟩
  have hp := (fm_eq.mp e).2.2.2
  have g1 : (Rw.vd k n v x).good := (k1.b.g.row (.vd k n v x) (by simp [Ns.whole])).1
  have g2 : (Rw.vd k n (othV v) x).good := (k2.b.g.row (.vd k n (othV v) x) (by simp [Ns.whole])).1
  have hv := ((wn_vd hw).1 k n x v (by simp)).2
  have hne := val_ne g1 g2 (oth_val hv).2
  simp only [Ns.whole, List.map_append, List.map_cons] at hp
  exact (ch_ne hne.symm hp).elim
theorem oth5 {N : Ns} (h : N14 N.l) {m : Nat} {rs : List Rw} (hw : WN N m rs) (hm : m ≤ 3) : OthOk N rs (N.whole (rs ++ [.sm [N.a, N.b]])) false := by
  obtain ⟨f0, f1, f2, ex, h0, h1, h2, hx, he, hp⟩ := hw
  have hw2 : WOk N (rs ++ [.sm [N.a, N.b]]) := ⟨f0, f1, f2, ex ++ [.sm [N.a, N.b]], fst5_isVal h0, fst5_isVal h1, fst5_isVal h2, by rw [List.length_append]; simp; omega, fun r hr => by
    rcases List.mem_append.mp hr with hr | hr
    · exact he r hr
    · exact .inl (List.mem_singleton.mp hr), by rw [← List.append_assoc]; exact hp.append_right _⟩
  refine ⟨w_k h hw2, (fun z => by cases z), fun e => ?_⟩
  have := (fm_eq.mp e).2.2.2.length_eq
  simp [Ns.whole] at this
theorem WOk.perm {N : Ns} {rs qs : List Rw} (h : WOk N rs) (hp : qs.Perm rs) : WOk N qs := by
  obtain ⟨f0, f1, f2, ex, h0, h1, h2, hx, he, hq⟩ := h
  exact ⟨f0, f1, f2, ex, h0, h1, h2, hx, he, hp.trans hq⟩
theorem oth6 {N : Ns} (h : N14 N.l) {rs qs : List Rw} (hw : WOk N rs) (hp : qs.Perm rs) : OthOk N rs (N.whole qs) true :=
  ⟨w_k h (hw.perm hp), fun _ => fm_eq.mpr ⟨rfl, rfl, rfl, hp.map _⟩, fun _ => rfl⟩
/-! the pair of nodes that differ in their sames -/
theorem nosame_wok {N : Ns} {m : Nat} {rs : List Rw} (hw : WN N m rs) {ex : List Rw} (hx : ex.length ≤ 2) (he : ∀ r ∈ ex, r = .sm [N.a, N.b] ∨ r = .sm [N.b, N.a]) : WOk N (nosame rs ++ (N.one :: ex)) := by
  obtain ⟨f0, f1, f2, ex0, h0, h1, h2, _, he0, hp⟩ := hw
  refine ⟨f0, f1, f2, ex, fst5_isVal h0, fst5_isVal h1, fst5_isVal h2, by omega, he, ?_⟩
  have h3 : (nosame rs).Perm (nosame (N.rows f0 f1 f2 ++ ex0)) := hp.filter _
  have h4 : nosame ex0 = [] := by
    unfold nosame
    refine List.filter_eq_nil_iff.mpr fun r hr => ?_
    rcases he0 r hr with rfl | rfl <;> simp [Rw.kind]
  have h5 : nosame (N.rows f0 f1 f2 ++ ex0) = [.pl N.x (.two "+" (.nm N.a) (.nt (.nm N.b))), .vd 0 N.y f0 N.a, .wh N.z N.a N.c, .vd 1 N.w f1 N.z, .vd 2 N.v f2 N.b] ++ [.cl [N.p, N.q] N.cn [N.a, N.b]] := by
    have : nosame (N.rows f0 f1 f2 ++ ex0) = nosame (N.rows f0 f1 f2) ++ nosame ex0 := List.filter_append ..
    rw [this, h4, List.append_nil]
    rfl
  rw [h5] at h3
  refine (h3.append_right _).trans ?_
  show ((([.pl N.x (.two "+" (.nm N.a) (.nt (.nm N.b))), .vd 0 N.y f0 N.a, .wh N.z N.a N.c, .vd 1 N.w f1 N.z, .vd 2 N.v f2 N.b] : List Rw) ++ [Rw.cl [N.p, N.q] N.cn [N.a, N.b]]) ++ (N.one :: ex)).Perm (([.pl N.x (.two "+" (.nm N.a) (.nt (.nm N.b))), .vd 0 N.y f0 N.a, .wh N.z N.a N.c, .vd 1 N.w f1 N.z, .vd 2 N.v f2 N.b] : List Rw) ++ (Rw.sm [N.a, N.b] :: Rw.cl [N.p, N.q] N.cn [N.a, N.b] :: ex))
  rw [List.append_assoc]
  exact List.Perm.append_left _ (List.Perm.swap _ _ _)
theorem pair_ok {N : Ns} (h : N14 N.l) {m : Nat} {rs : List Rw} (hw : WN N m rs) : KNd N (N.whole (nosame rs ++ [N.one, N.one, N.oth])) ∧ OthOk N (nosame rs ++ [N.one, N.one, N.oth]) (N.whole ([N.oth, N.one, N.oth] ++ nosame rs)) false := by
  have w1 : WOk N (nosame rs ++ [N.one, N.one, N.oth]) := nosame_wok hw (ex := [N.one, N.oth]) (by simp) fun r hr => by
    simp at hr
    exact hr
  have w2 : WOk N ([N.oth, N.one, N.oth] ++ nosame rs) := (nosame_wok hw (ex := [N.oth, N.oth]) (by simp) fun r hr => by
    simp at hr
    exact .inr hr).perm (List.perm_append_comm.trans (List.Perm.append_left _ (List.Perm.swap _ _ _)))
  refine ⟨w_k h w1, w_k h w2, (fun z => by cases z), fun e => ?_⟩
  exact (sames_ne h (nosame rs) ((fm_eq.mp e).2.2.2.symm)).elim
/-! the called node -/
theorem inner_k {N : Ns} (h : N14 N.l) : N.inner.good ∧ NoDot N.inner := by
  have G : ∀ {s}, s ∈ N.l → goodN s := fun hs => (pn_goodL (h.nm _ hs)).2.1
  have nn := pn_goodL (h.nm N.cn (ns_in 11 rfl))
  have hnd : [N.a, N.b, N.p, N.q].Nodup := by
    refine h.nd.sublist ?_
    show [N.a, N.b, N.p, N.q].Sublist [N.a, N.b, N.c, N.d, N.x, N.y, N.z, N.w, N.v, N.p, N.q, N.cn, N.nn, N.sn]
    exact .cons₂ _ (.cons₂ _ (.cons _ (.cons _ (.cons _ (.cons _ (.cons _ (.cons _ (.cons _ (.cons₂ _ (.cons₂ _ (List.nil_sublist _)))))))))))
  have hpq : [N.p, N.q].Nodup := hnd.sublist (.cons _ (.cons _ (List.Sublist.refl _)))
  have inl : ∀ s ∈ [N.a, N.b, N.p, N.q], s ∈ N.l := fun s hs => by
    simp at hs
    rcases hs with h | h | h | h <;> simp [Ns.l, h]
  refine ⟨⟨⟨nn.1, nn.2.2.1, nn.2.2.2⟩, by show 0 < 2; decide, by show 2 ≤ 300; decide, fun s hs => G (inl s ?_), by show 0 < 2; decide, by show 2 ≤ 300; decide, fun s hs => ⟨G (inl s ?_), hs⟩, hpq, hnd, by show 4 ≤ 1000; decide, by show 2 ≤ 300; decide, fun r hr => ?_⟩, fun s hs => nodot48 (h.nm s (inl s hs))⟩
  · exact List.mem_append_left [N.p, N.q] (show s ∈ [N.a, N.b] from hs)
  · exact List.mem_append_right [N.a, N.b] (show s ∈ [N.p, N.q] from hs)
  · have : r ∈ [Rw.pl N.p (.two "+" (.nm N.a) (.vl (.int 1))), .vd 0 N.q (.int 2) N.b] := hr
    simp only [List.mem_cons, List.not_mem_nil, or_false] at this
    rcases this with rfl | rfl
    · refine ⟨⟨G (ns_in 9 rfl), ⟨by decide +kernel, G (ns_in 0 rfl), (rfl : isVal (.int 1) = true)⟩, by simp [Tm.dep]⟩, fun _ z => ?_, fun s hs => ?_⟩
      · have := flat_names (t := .two "+" (.nm N.a) (.vl (.int 1))) (s := N.a) (by simp [Tm.flat])
        rw [show (Tm.two "+" (.nm N.a) (.vl (.int 1))).names = [] from z] at this
        cases this
      · have := names_flat (t := .two "+" (.nm N.a) (.vl (.int 1))) hs
        simp [Tm.flat] at this
        rw [this]
        show N.a ∈ [N.a, N.b, N.p, N.q]
        simp
    · refine ⟨⟨by decide, G (ns_in 10 rfl), by decide, G (ns_in 1 rfl)⟩, (fun z => (by cases z)), fun s hs => ?_⟩
      have : s = N.b := by simpa [Rw.names] using hs
      rw [this]
      show N.b ∈ [N.a, N.b, N.p, N.q]
      simp
theorem pg_two {N : Ns} {n : Nd} (h : KNd N n) : pgBad [] [N.inner, n] = none := by
  have h1 : nodeBad [] N.inner = none := rfl
  have e : pgBad [] [N.inner, n] = match nodeBad [] N.inner with
    | some b => some b
    | none => match nodeBad [N.inner] n with
      | some b => some b
      | none => none := rfl
  rw [e, h1, h.pg]
theorem pg_one {N : Ns} : pgBad [] [N.inner] = none := rfl
theorem nd_two {N : Ns} {n : Nd} (h : KNd N n) : ([N.inner, n].map Nd.nm).Nodup := by
  have : N.inner.nm ≠ n.nm := fun e => h.nm e.symm
  simp [this]

/-! ### k48: the node with one thing otherwise -/
open TL (tl)
def sp_other_l : Sp := fun vs H Q _ => ∃ (b nl : Addr) (N : Ns) (m : Nat) (rs : List Rw) (u : V), vs = [.ref b, .ref nl, u] ∧ BoxAt H b ∧ H nl = some (.lst (N.l.map V.str)) ∧ N14 N.l ∧ m ≤ 2 ∧ WN N m rs ∧ NdT H (N.whole rs) u ∧
  ∀ (l : Addr) (n : Nd) (v : V) (o : Bool) (G : Hp), OthOk N rs n o → G l = some (.lst [v, .bl o]) → NdT G n v → ExB b H G → BoxAt G b → Q (.ref l) G
theorem ok_other_l (T : Txt K mg Z) : FnOk P w K mg base CX0 2 Z.f_other_l Z.fd_other_l ["_law_box_here", "_law_names_here", "_law_node_here"] sp_other_l := by
  have G_take_l := ok_take_l (P := P) (w := w) (base := base) T
  have G_value_put_l := ok_value_put_l (P := P) (w := w) (base := base) T
  refine T.F_other_l.ok sc_other_l (fun vs H Q E h => ?_) (fun cdv AA outer s H vs Q E hr h => ?_)
  · obtain ⟨b, nl, N, m, rs, u, rfl, _⟩ := h
    rfl
  · obtain ⟨b, nl, N, m, rs, u, rfl, hB, gn, hN, hm, hW, ⟨a, p, q, t, ws, rfl, ga, gp, gq, gt, hrw⟩, k⟩ := h
    have nnb : nl ≠ b := box_ne hB gn fun x y z => strs_nobox x y z
    have hwl := paired_len hrw
    have hwl2 : rs.length = ws.length := hwl
    have hlr := hW.len
    have hWo := hW.wok (by omega)
    refine ⟨_, (pss_cons (ps_asg (pv 2) (pg_tup (by rfl) (pgs_cons (pg_name (i := 3) sc_other_l.nd rfl (Or.inl rfl)) (pgs_cons (pg_name (i := 4) sc_other_l.nd rfl (Or.inl rfl)) (pgs_cons (pg_name (i := 5) sc_other_l.nd rfl (Or.inl rfl)) (pgs_cons (pg_name (i := 6) sc_other_l.nd rfl (Or.inl rfl)) pgs_nil))))))
      (pss_cons (ps_set (i := 7) sc_other_l.nd rfl (Or.inl rfl) (pe_call G_take_l (hr.mono (by omega)) rfl T.g_take_l T.F_take_l.kp T.b_take_l .nil pass0 (pa_cons (pv 0) (pa_cons pe_int pa_nil))))
      (pss_cons (ps_set (i := 8) sc_other_l.nd rfl (Or.inl rfl) (pe_call G_take_l (hr.mono (by omega)) rfl T.g_take_l T.F_take_l.kp T.b_take_l .nil pass0 (pa_cons (pv 0) (pa_cons (pe_callB call_len_seq (by rfl) T.n_len (by decide +kernel) (pa_cons (pv 6) pa_nil)) pa_nil))))
      (pss_cons (ps_set (i := 9) sc_other_l.nd rfl (Or.inl rfl) (pe_call G_take_l (hr.mono (by omega)) rfl T.g_take_l T.F_take_l.kp T.b_take_l .nil pass0 (pa_cons (pv 0) (pa_cons (pe_callB call_len_seq (by rfl) T.n_len (by decide +kernel) (pa_cons (pv 6) pa_nil)) pa_nil))))
      (pss_cons (ps_if (pt_cmpR op_eq (pv 7) pe_int (nomark _)) (pss_one (ps_ret (pe_lst (pa_cons (pe_tup (pa_cons (pe_ix ix_list (pv 1) pe_int (fun _ _ => rfl)) (pa_cons (pv 4) (pa_cons (pv 5) (pa_cons (pv 6) pa_nil))))) (pa_cons pe_bl pa_nil))))) pss_nil)
      (pss_cons (ps_if (pt_cmpR op_eq (pv 7) pe_int (nomark _)) (pss_one (ps_ret (pe_lst (pa_cons (pe_tup (pa_cons (pv 3) (pa_cons (pe_op op_catA (pe_slice sl_tupA (pv 4) po_none (po_some pe_int)) (pe_tup (pa_cons (pe_ix ix_list (pv 1) pe_int (fun _ _ => rfl)) pa_nil))) (pa_cons (pv 5) (pa_cons (pv 6) pa_nil))))) (pa_cons pe_bl pa_nil))))) pss_nil)
      (pss_cons (ps_if (pt_cmpR op_eq (pv 7) pe_int (nomark _)) (pss_one (ps_ret (pe_lst (pa_cons (pe_tup (pa_cons (pv 3) (pa_cons (pe_op op_catA (pe_slice sl_tupA (pv 4) (po_some pe_int) po_none) (pe_slice sl_tupA (pv 4) po_none (po_some pe_int))) (pa_cons (pv 5) (pa_cons (pv 6) pa_nil))))) (pa_cons pe_bl pa_nil))))) pss_nil)
      (pss_cons (ps_if (pt_cmpR op_eq (pv 7) pe_int (nomark _)) (pss_one (ps_ret (pe_lst (pa_cons (pe_tup (pa_cons (pv 3) (pa_cons (pv 4) (pa_cons (pe_ix ix_list (pe_lst (pa_cons (pe_op op_catA (pv 5) (pe_tup (pa_cons (pe_ix ix_list (pv 1) pe_int (fun _ _ => rfl)) pa_nil))) (pa_cons (pe_revT (pv 5)) (pa_cons (pe_slice sl_tupA (pv 5) po_none (po_some pe_int)) pa_nil)))) (pe_op op_mod (pv 8) pe_int) (fun _ _ => rfl)) (pa_cons (pv 6) pa_nil))))) (pa_cons pe_bl pa_nil))))) pss_nil)
      (pss_cons (ps_if (pt_cmpR op_eq (pv 7) pe_int (nomark _)) (pss_one (ps_ret (pe_lst (pa_cons (pe_tup (pa_cons (pv 3) (pa_cons (pv 4) (pa_cons (pv 5) (pa_cons (pe_call G_value_put_l (hr.mono (by omega)) rfl T.g_value_put_l T.F_value_put_l.kp T.b_value_put_l .nil pass0 (pa_cons (pv 6) pa_nil)) pa_nil))))) (pa_cons pe_bl pa_nil))))) pss_nil)
      (pss_cons (ps_if (pt_cmpR op_eq (pv 7) pe_int (nomark _)) (pss_one (ps_ret (pe_lst (pa_cons (pe_tup (pa_cons (pv 3) (pa_cons (pv 4) (pa_cons (pv 5) (pa_cons (pe_op op_catA (pv 6) (pe_tup (pa_cons (pe_tup (pa_cons pe_str (pa_cons (pe_tup (pa_cons (pe_ix ix_tup (pv 4) pe_int (fun _ _ => rfl)) (pa_cons (pe_ix ix_tup (pv 4) pe_int (fun _ _ => rfl)) pa_nil))) pa_nil))) pa_nil))) pa_nil))))) (pa_cons pe_bl pa_nil))))) pss_nil)
      (pss_cons (ps_set (i := 10) sc_other_l.nd rfl (Or.inl rfl) (pe_callTy call_list_of (by rfl) T.n_list (by decide +kernel) (pa_cons (pv 6) pa_nil)))
      (pss_cons (ps_expr (pe_bm PySem.F.plainAttrs_list PySem.F.slot_list_insert PySem.F.type_list_insert mt_insert (pv 10) (pa_cons (pv 9) (pa_cons (pe_bm PySem.F.plainAttrs_list PySem.F.slot_list_pop PySem.F.type_list_pop mt_popAt (pv 10) (pa_cons (pv 8) pa_nil)) pa_nil))))
      (pss_one (ps_ret (pe_lst (pa_cons (pe_tup (pa_cons (pv 3) (pa_cons (pv 4) (pa_cons (pv 5) (pa_cons (pe_callTy call_tuple_of (by rfl) T.n_tuple (by decide +kernel) (pa_cons (pv 10) pa_nil)) pa_nil))))) (pa_cons pe_bl pa_nil))))))))))))))))), ?_⟩
    walk_at "ss"
    refine c_gTup (SqT.of ga) rfl ?_
    walk_at "ss"
    refine ⟨b, 8, rfl, hB, by decide, by decide, fun d1 G1 d10 d11 x1 b1 => ?_⟩
    have nl1 : NL H G1 := NL.box x1 hB
    walk_at "ss"
    refine ⟨t, _, rfl, .inr (SqT.of (NL.tup nl1 gt)), ?_⟩
    walk_at "ss"
    refine ⟨b, _, rfl, b1, by omega, by omega, fun d2 G2 d20 d21 x2 b2 => ?_⟩
    have nl2 : NL H G2 := nl1.trans (NL.box x2 b1)
    walk_at "ss"
    refine ⟨t, _, rfl, .inr (SqT.of (NL.tup nl2 gt)), ?_⟩
    walk_at "ss"
    refine ⟨b, _, rfl, b2, by omega, by omega, fun d3 G3 d30 d31 x3 b3 => ?_⟩
    have nl3 : NL H G3 := nl2.trans (NL.box x3 b2)
    have X3 : ExB b H G3 := x1.trans (x2.trans x3)
    have ga3 := NL.tup nl3 ga
    have gp3 := NL.tup nl3 gp
    have gq3 := NL.tup nl3 gq
    have gt3 := NL.tup nl3 gt
    have gn3 := X3 _ _ nnb gn
    have gp4 : G3 p = some (.tup [V.str N.a, .str N.b, .str N.c, .str N.d]) := gp3
    have gq4 : G3 q = some (.tup [V.str N.x, V.str N.y]) := gq3
    have hrw3 : Paired (RowAt G3) rs ws := paired_up (fun r u h => h.nl nl3) hrw
    have fin : ∀ (n : Nd) (o : Bool) (l a2 p2 q2 t2 : Addr) (us : List V) (G : Hp), OthOk N rs n o → Ex G3 G → G l = some (.lst [.ref a2, .bl o]) → G a2 = some (.tup [.str n.nm, .ref p2, .ref q2, .ref t2]) → G p2 = some (.tup (n.ins.map V.str)) → G q2 = some (.tup (n.outs.map V.str)) → G t2 = some (.tup us) → Paired (RowAt G) n.rows us → Q (.ref l) G :=
      fun n o l a2 p2 q2 t2 us G ho e gl g1 g2 g3 g4 g5 => k l n (.ref a2) o G ho gl ⟨a2, p2, q2, t2, us, rfl, g1, g2, g3, g4, g5⟩ (X3.trans (ExB.of e)) (b3.up e)
    walk_at "ss"
    refine if_cs (fun _ => ?_) (fun _ => ?_)
    · walk_at "ss"
      refine c_ixL (SqL.of gn3) rfl ?_
      walk_at "ss"
      refine newT fun t4 G4 ht4 e4 g4 => ?_
      walk_at "ss"
      refine newL fun l5 G5 hl5 e5 g5 => ?_
      have E := e4.trans e5
      exact fin _ false l5 t4 p q t ws G5 (oth0 hN hWo) E g5 (e5 _ _ g4) (E _ _ gp3) (E _ _ gq3) (E _ _ gt3) (paired_up (fun r u h => h.up E) hrw3)
    walk_at "ss"
    refine if_cs (fun _ => ?_) (fun _ => ?_)
    · walk_at "ss"
      refine c_slH gp4 fun q5 G5 e5 g5 => ?_
      rw [show cutV [V.str N.a, .str N.b, .str N.c, .str N.d] none (some 3) = [V.str N.a, .str N.b, .str N.c] from rfl] at g5
      walk_at "ss"
      refine c_ixL (SqL.of (e5 _ _ gn3)) rfl ?_
      walk_at "ss"
      refine newT fun t6 G6 ht6 e6 g6 => ?_
      refine c_catH (e6 _ _ g5) g6 (by simp) fun q7 G7 e7 g7 => ?_
      walk_at "ss"
      refine newT fun t8 G8 ht8 e8 g8 => ?_
      walk_at "ss"
      refine newL fun l9 G9 hl9 e9 g9 => ?_
      have E := e5.trans (e6.trans (e7.trans (e8.trans e9)))
      exact fin _ false l9 t8 q7 q t ws G9 (oth1 hN hWo) E g9 (e9 _ _ g8) ((e8.trans e9) _ _ g7) (E _ _ gq3) (E _ _ gt3) (paired_up (fun r u h => h.up E) hrw3)
    walk_at "ss"
    refine if_cs (fun _ => ?_) (fun _ => ?_)
    · walk_at "ss"
      refine c_slH gp4 fun q5 G5 e5 g5 => ?_
      rw [show cutV [V.str N.a, .str N.b, .str N.c, .str N.d] (some 1) none = [V.str N.b, .str N.c, .str N.d] from rfl] at g5
      walk_at "ss"
      refine c_slH (e5 _ _ gp4) fun t6 G6 e6 g6 => ?_
      rw [show cutV [V.str N.a, .str N.b, .str N.c, .str N.d] none (some 1) = [V.str N.a] from rfl] at g6
      refine c_catH (e6 _ _ g5) g6 (by simp) fun q7 G7 e7 g7 => ?_
      walk_at "ss"
      refine newT fun t8 G8 ht8 e8 g8 => ?_
      walk_at "ss"
      refine newL fun l9 G9 hl9 e9 g9 => ?_
      have E := e5.trans (e6.trans (e7.trans (e8.trans e9)))
      exact fin _ false l9 t8 q7 q t ws G9 (oth2 hN hWo) E g9 (e9 _ _ g8) ((e8.trans e9) _ _ g7) (E _ _ gq3) (E _ _ gt3) (paired_up (fun r u h => h.up E) hrw3)
    walk_at "ss"
    refine if_cs (fun _ => ?_) (fun _ => ?_)
    · walk_at "ss"
      refine c_ixL (SqL.of gn3) rfl ?_
      walk_at "ss"
      refine newT fun t4 G4 ht4 e4 g4 => ?_
      refine c_catH (e4 _ _ gq4) g4 (by simp) fun q5 G5 e5 g5 => ?_
      walk_at "ss"
      refine c_revT ?_
      walk_at "ss"
      have e45 := e4.trans e5
      refine ⟨q, _, rfl, SqT.of (e45 _ _ gq4), fun q6 hq6 => ?_⟩
      have e6 : Ex G5 (upd G5 q6 (.tup [V.str N.x, V.str N.y].reverse)) := Ex.new hq6
      have g6 : upd G5 q6 (.tup [V.str N.x, V.str N.y].reverse) q6 = some (.tup [V.str N.y, V.str N.x]) := upd_same
      generalize upd G5 q6 (.tup [V.str N.x, V.str N.y].reverse) = G6 at e6 g6
      have e46 := e45.trans e6
      walk_at "ss"
      refine c_slH (e46 _ _ gq4) fun q7 G7 e7 g7 => ?_
      rw [show cutV [V.str N.x, V.str N.y] none (some 1) = [V.str N.x] from rfl] at g7
      walk_at "ss"
      refine newL fun l8 G8 hl8 e8 g8 => ?_
      have e48 := e46.trans (e7.trans e8)
      have g5' := (e6.trans (e7.trans e8)) _ _ g5
      have g6' := (e7.trans e8) _ _ g6
      have g7' := e8 _ _ g7
      walk_at "ss"
      refine c_I (by decide) ?_
      have hgo : ∀ (qq : Addr) (outs : List Str), (outs = [N.x, N.y, N.z] ∨ outs = [N.y, N.x] ∨ outs = [N.x]) → G8 qq = some (.tup (outs.map V.str)) → ∀ (t9 l10 : Addr) (G9 G10 : Hp), Ex G8 G9 → G9 t9 = some (.tup [.str N.nn, .ref p, .ref qq, .ref t]) → Ex G9 G10 → G10 l10 = some (.lst [.ref t9, .bl false]) → Q (.ref l10) G10 := fun qq outs ho hq t9 l10 G9 G10 e9 g9 e10 g10 => by
        have E := e48.trans (e9.trans e10)
        exact fin ⟨N.nn, [N.a, N.b, N.c, N.d], outs, rs⟩ false l10 t9 p qq t ws G10 (oth3 hN hWo ho) E g10 (e10 _ _ g9) (E _ _ gp3) ((e9.trans e10) _ _ hq) (E _ _ gt3) (paired_up (fun r u h => h.up E) hrw3)
      have : d2 % 3 = 0 ∨ d2 % 3 = 1 ∨ d2 % 3 = 2 := by omega
      rcases this with e | e | e
      · rw [e]
        refine c_ixL (SqL.of g8) rfl ?_
        walk_at "ss"
        refine newT fun t9 G9 ht9 e9 g9 => ?_
        walk_at "ss"
        refine newL fun l10 G10 hl10 e10 g10 => ?_
        exact hgo q5 [N.x, N.y, N.z] (.inl rfl) g5' t9 l10 G9 G10 e9 g9 e10 g10
      · rw [e]
        refine c_ixL (SqL.of g8) rfl ?_
        walk_at "ss"
        refine newT fun t9 G9 ht9 e9 g9 => ?_
        walk_at "ss"
        refine newL fun l10 G10 hl10 e10 g10 => ?_
        exact hgo q6 [N.y, N.x] (.inr (.inl rfl)) g6' t9 l10 G9 G10 e9 g9 e10 g10
      · rw [e]
        refine c_ixL (SqL.of g8) rfl ?_
        walk_at "ss"
        refine newT fun t9 G9 ht9 e9 g9 => ?_
        walk_at "ss"
        refine newL fun l10 G10 hl10 e10 g10 => ?_
        exact hgo q7 [N.x] (.inr (.inr rfl)) g7' t9 l10 G9 G10 e9 g9 e10 g10
    walk_at "ss"
    refine if_cs (fun _ => ?_) (fun _ => ?_)
    · walk_at "ss"
      refine ⟨t, rs, ws, rfl, gt3, hrw3, by omega, (wn_vd hW).1, (wn_vd hW).2, fun p4 A B kk n x v ws4 G4 hrs e4 g4 hP4 => ?_⟩
      subst hrs
      walk_at "ss"
      refine newT fun t8 G8 ht8 e8 g8 => ?_
      walk_at "ss"
      refine newL fun l9 G9 hl9 e9 g9 => ?_
      have E := e4.trans (e8.trans e9)
      exact fin _ false l9 t8 p q p4 ws4 G9 (oth4 hN hW (by omega)) E g9 (e9 _ _ g8) (E _ _ gp3) (E _ _ gq3) ((e8.trans e9) _ _ g4) (paired_up (fun r u h => h.up (e8.trans e9)) hP4)
    walk_at "ss"
    refine if_cs (fun _ => ?_) (fun _ => ?_)
    · walk_at "ss"
      refine c_ixT (SqT.of gp4) rfl ?_
      walk_at "ss"
      refine c_ixT (SqT.of gp4) rfl ?_
      walk_at "ss"
      refine newT fun t4 G4 ht4 e4 g4 => ?_
      walk_at "ss"
      refine newT fun t5 G5 ht5 e5 g5 => ?_
      walk_at "ss"
      refine newT fun t6 G6 ht6 e6 g6 => ?_
      have e46 := e4.trans (e5.trans e6)
      refine c_catH (e46 _ _ gt3) g6 (by simp only [List.length_cons, List.length_nil]; omega) fun q7 G7 e7 g7 => ?_
      walk_at "ss"
      refine newT fun t8 G8 ht8 e8 g8 => ?_
      walk_at "ss"
      refine newL fun l9 G9 hl9 e9 g9 => ?_
      have E := e46.trans (e7.trans (e8.trans e9))
      have E5 := e6.trans (e7.trans (e8.trans e9))
      have hsm : RowAt G9 (.sm [N.a, N.b]) (.ref t5) := ⟨t5, t4, rfl, E5 _ _ g5, (e5.trans E5) _ _ g4⟩
      exact fin _ false l9 t8 p q q7 _ G9 (oth5 hN hW (by omega)) E g9 (e9 _ _ g8) (E _ _ gp3) (E _ _ gq3) ((e8.trans e9) _ _ g7) (paired_snoc hsm (paired_up (fun r u h => h.up E) hrw3))
    walk_at "ss"
    refine ⟨_, _, rfl, .inr (SqT.of gt3), fun fd hfd => ?_⟩
    have e4 : Ex G3 (upd G3 fd (.lst ws)) := Ex.new hfd
    have g4 : upd G3 fd (.lst ws) fd = some (.lst ws) := upd_same
    generalize upd G3 fd (.lst ws) = G4 at e4 g4
    walk_at "ss"
    obtain ⟨j, rfl⟩ := Int.eq_ofNat_of_zero_le d20
    obtain ⟨q3, rfl⟩ := Int.eq_ofNat_of_zero_le d30
    have hj : j < ws.length := by omega
    have hu : ws[j]? = some ws[j] := List.getElem?_eq_getElem hj
    obtain ⟨r, hr, hRr⟩ := paired_ix hrw3 hu
    refine ⟨.inl ⟨rfl, _, SqL.of g4⟩, ?_⟩
    walk_at "ss"
    refine ⟨.inl ⟨rfl, _, SqL.of g4⟩, ?_⟩
    walk_at "ss"
    refine ⟨fd, _, _, j, ws[j], rfl, rfl, g4, by omega, by omega, ?_, hu, ?_⟩
    · rw [seqIndex_of (by omega) (by omega)]
      rfl
    have hle := List.length_eraseIdx_le ws j
    refine ⟨fd, _, (q3 : Nat), ws[j], rfl, rfl, upd_same, Evl.sz_lt (by omega), by omega, by omega, ?_⟩
    rw [Int.toNat_natCast]
    have n5 : NL G4 (upd (upd G4 fd (.lst (ws.eraseIdx j))) fd (.lst ((ws.eraseIdx j).take q3 ++ [ws[j]] ++ (ws.eraseIdx j).drop q3))) := (NL.upd g4).trans (NL.upd upd_same)
    have e5 : Ex G3 (upd (upd G4 fd (.lst (ws.eraseIdx j))) fd (.lst ((ws.eraseIdx j).take q3 ++ [ws[j]] ++ (ws.eraseIdx j).drop q3))) := Ex.mut (Ex.mut e4 hfd) hfd
    have g5 : upd (upd G4 fd (.lst (ws.eraseIdx j))) fd (.lst ((ws.eraseIdx j).take q3 ++ [ws[j]] ++ (ws.eraseIdx j).drop q3)) fd = some (.lst ((ws.eraseIdx j).take q3 ++ [ws[j]] ++ (ws.eraseIdx j).drop q3)) := upd_same
    generalize upd (upd G4 fd (.lst (ws.eraseIdx j))) fd (.lst ((ws.eraseIdx j).take q3 ++ [ws[j]] ++ (ws.eraseIdx j).drop q3)) = G5 at n5 e5 g5
    have hP5 : Paired (RowAt G5) ((rs.eraseIdx j).take q3 ++ [r] ++ (rs.eraseIdx j).drop q3) ((ws.eraseIdx j).take q3 ++ [ws[j]] ++ (ws.eraseIdx j).drop q3) := by
      have hPe := paired_erase j (paired_up (fun r u h => RowAt.up h e5) hrw3)
      exact paired_app48 (paired_snoc (hRr.up e5) (paired_take hPe q3)) (paired_drop hPe q3)
    have hpm : ((rs.eraseIdx j).take q3 ++ [r] ++ (rs.eraseIdx j).drop q3).Perm rs := (ins_perm (rs.eraseIdx j) q3 r).trans (turn_perm hr)
    walk_at "ss"
    refine ⟨_, _, rfl, .inl ⟨SqL.of g5, fun tp htp => ?_⟩⟩
    have e6 : Ex G5 (upd G5 tp (.tup ((ws.eraseIdx j).take q3 ++ [ws[j]] ++ (ws.eraseIdx j).drop q3))) := Ex.new htp
    have g6 : upd G5 tp (.tup ((ws.eraseIdx j).take q3 ++ [ws[j]] ++ (ws.eraseIdx j).drop q3)) tp = some (.tup ((ws.eraseIdx j).take q3 ++ [ws[j]] ++ (ws.eraseIdx j).drop q3)) := upd_same
    generalize upd G5 tp (.tup ((ws.eraseIdx j).take q3 ++ [ws[j]] ++ (ws.eraseIdx j).drop q3)) = G6 at e6 g6
    walk_at "ss"
    refine newT fun t8 G8 ht8 e8 g8 => ?_
    walk_at "ss"
    refine newL fun l9 G9 hl9 e9 g9 => ?_
    have E := e5.trans (e6.trans (e8.trans e9))
    exact fin _ true l9 t8 p q tp _ G9 (oth6 hN hWo hpm) E g9 (e9 _ _ g8) (E _ _ gp3) (E _ _ gq3) ((e8.trans e9) _ _ g6) (paired_up (fun r u h => RowAt.up h (e6.trans (e8.trans e9))) hP5)

/-! ### k48: what is asked of two nodes -/
open TL (tl)
theorem two_fm {N : Ns} {n m : Nd} : ([N.inner, n].map Nd.fm).Perm ([N.inner, m].map Nd.fm) ↔ n.fm = m.fm := by
  constructor
  · intro h
    have h2 : [n.fm].Perm [m.fm] := List.Perm.cons_inv (a := N.inner.fm) h
    simpa using h2
  · intro h
    simp [h]
theorem one_fm {N : Ns} {n : Nd} : ¬ ([N.inner, n].map Nd.fm).Perm ([N.inner].map Nd.fm) := fun h => by
  have := h.length_eq
  simp at this
theorem c_repr3 {H : Hp} {Q : VK} {a : Addr} {bs : List Bool} (h : H a = some (.lst (bs.map V.bl))) (hl : bs.length ≤ 10) (q : Q (.str (PyData.list (bs.map PyData.bool)).shown) H) : rRepr K [.ref a] H Q := by
  have h1 : DpAll K H (bs.map V.bl) (bs.map PyData.bool) := by
    clear hl h q
    induction bs with
    | nil => exact .nil
    | cons b bs ih => exact .cons (.bl b) ih
  have h2 : RpAll 0 ((bs.map PyData.bool).length * (0 + 1)) (bs.map PyData.bool) := rp_all fun d hd => by
    obtain ⟨b, _, rfl⟩ := List.mem_map.mp hd
    exact rp_bl b
  have h3 : RpOk 1 10 (.list (bs.map PyData.bool)) := (rp_lst h2).mono (Nat.le_refl _) (by rw [List.length_map]; omega)
  exact c_repr (.lst (SqL.of h) h1) h3 q (by decide) (by decide)
theorem mk_Prog {H : Hp} {Q : VK} {E : XK} {p : Addr} {ns : List Nd} {us : List V} (gp : H p = some (.lst us)) (h0 : 0 < us.length) (h1 : us.length ≤ 300) (hps : Paired (NdAt Z H) ns us) (hnd : (ns.map Nd.nm).Nodup) (hgd : ∀ n ∈ ns, n.good ∧ NoDot n) (hpg : pgBad [] ns = none) (k : ∀ v H2, Ex H H2 → PgOk Z H H2 ns us v → Q v H2) : MkP2 Z.c_Program (sp_Program_init Z) [.ref p] H Q E := fun x dx hx hd _ =>
  ⟨x, dx, p, ns, us, H, true, rfl, upd_same, hx, mk_heap hx hd, gp, h0, h1, hps, hnd, hgd, by
    rw [hpg]
    have hl := paired_len hps
    exact fun H2 e2 hf => ⟨rfl, k _ H2 e2 ⟨hf, e2, hps, fun n hn => (hgd n hn).1, by omega⟩⟩⟩
theorem PgOk.up48 {H0 H G : Hp} {ns : List Nd} {us : List V} {v : V} (h : PgOk Z H0 H ns us v) (e : Ex H G) : PgOk Z H0 G ns us v := by
  obtain ⟨⟨x, dx, td, a1, a2, a3, a4, a5, a6⟩, a7, a8⟩ := h
  exact ⟨⟨x, dx, td, a1, e _ _ a2, e _ _ a3, paired_up (fun n u h => h.up e) a4, a5, a6⟩, a7.trans e, a8⟩
def sp_right_l : Sp := fun vs H Q _ => ∃ (nl : Addr) (N : Ns) (n m : Nd) (u v : V) (o : Bool), vs = [.ref nl, u, v, .bl o] ∧ H nl = some (.lst (N.l.map V.str)) ∧ N14 N.l ∧ NdT H n u ∧ NdT H m v ∧ KNd N n ∧ KNd N m ∧ (o = true ↔ m.fm = n.fm) ∧ RetV (.bl true) H Q
theorem ok_right_l (T : Txt K mg Z)  : FnG P w K mg base CX0 (46) Z.f_right_l Z.fd_right_l ["_law_names_here", "_law_one", "_law_other_here", "_law_order"] sp_right_l := by
  have G_node_of := ok_node_of (P := P) (w := w) (base := base) T
  have G_inner_l := ok_inner_l (P := P) (w := w) (base := base) T
  have G_same_node := ok_same_node (P := P) (w := w) (base := base) T
  have G_same_but_order := ok_same_but_order (P := P) (w := w) (base := base) T
  refine T.F_right_l.okG sc_right_l (fun vs H Q E h => ?_) (fun cdv AA outer s H vs Q E hgd hr h => ?_)
  · obtain ⟨nl, N, n, m, u, v, o, rfl, _⟩ := h
    rfl
  · obtain ⟨nl, N, n, m, u, v, o, rfl, gn, hN, hu, hv, kn, km, ho, k⟩ := h
    have GX_Program_init := okX_Program_init (P := P) (w := w) (base := base) T
    refine ⟨_, (pss_cons (ps_set (i := 4) sc_right_l.nd rfl (Or.inl rfl) (pe_call G_node_of (hr.mono (by omega)) rfl T.g_node_of T.F_node_of.kp T.b_node_of .nil pass0 (pa_cons (pv 1) pa_nil)))
      (pss_cons (ps_set (i := 5) sc_right_l.nd rfl (Or.inl rfl) (pe_call G_node_of (hr.mono (by omega)) rfl T.g_node_of T.F_node_of.kp T.b_node_of .nil pass0 (pa_cons (pv 2) pa_nil)))
      (pss_cons (ps_set (i := 6) sc_right_l.nd rfl (Or.inl rfl) (pe_cmpR op_eq (pe_callB (call_reprD hgd hr) (by rfl) T.n_repr (by decide +kernel) (pa_cons (pv 1) pa_nil)) (pe_callB (call_reprD hgd hr) (by rfl) T.n_repr (by decide +kernel) (pa_cons (pv 2) pa_nil)) (nomark _)))
      (pss_cons (ps_set (i := 7) sc_right_l.nd rfl (Or.inl rfl) (pe_lst (pa_cons (pe_callG hgd G_same_node (hr.mono (by omega)) rfl T.g_same_node T.F_same_node.kp T.b_same_node pass0 (pa_cons (pv 4) (pa_cons (pv 5) pa_nil))) (pa_cons (pe_callG hgd G_same_node (hr.mono (by omega)) rfl T.g_same_node T.F_same_node.kp T.b_same_node pass0 (pa_cons (pv 5) (pa_cons (pv 4) pa_nil))) (pa_cons (pe_callG hgd G_same_node (hr.mono (by omega)) rfl T.g_same_node T.F_same_node.kp T.b_same_node pass0 (pa_cons (pv 4) (pa_cons (pe_call G_node_of (hr.mono (by omega)) rfl T.g_node_of T.F_node_of.kp T.b_node_of .nil pass0 (pa_cons (pv 1) pa_nil)) pa_nil))) pa_nil)))))
      (pss_cons (ps_if (pt_cmpR op_ne (pe_callB (call_reprD hgd hr) (by rfl) T.n_repr (by decide +kernel) (pa_cons (pv 7) pa_nil)) (pe_callB (call_reprD hgd hr) (by rfl) T.n_repr (by decide +kernel) (pa_cons (pe_lst (pa_cons (pv 6) (pa_cons (pv 6) (pa_cons pe_bl pa_nil)))) pa_nil)) (nomark _)) (pss_one (ps_ret pe_bl)) pss_nil)
      (pss_cons (ps_set (i := 8) sc_right_l.nd rfl (Or.inl rfl) (pe_call G_node_of (hr.mono (by omega)) rfl T.g_node_of T.F_node_of.kp T.b_node_of .nil pass0 (pa_cons (pe_call G_inner_l (hr.mono (by omega)) rfl T.g_inner_l T.F_inner_l.kp T.b_inner_l .nil pass0 (pa_cons (pv 0) pa_nil)) pa_nil)))
      (pss_cons (ps_set (i := 9) sc_right_l.nd rfl (Or.inl rfl) (pe_make ⟨(tcB_ok T.x_Program).makes, T.i_Program, T.y_Program_init, (tcB_ok T.x_Program).kp⟩ GX_Program_init (hr.mono (by omega)) rfl T.m_Program T.b_Program_init .nil passN0 (pa_cons (pe_lst (pa_cons (pv 8) (pa_cons (pv 4) pa_nil))) pa_nil)))
      (pss_cons (ps_set (i := 10) sc_right_l.nd rfl (Or.inl rfl) (pe_make ⟨(tcB_ok T.x_Program).makes, T.i_Program, T.y_Program_init, (tcB_ok T.x_Program).kp⟩ GX_Program_init (hr.mono (by omega)) rfl T.m_Program T.b_Program_init .nil passN0 (pa_cons (pe_lst (pa_cons (pv 8) (pa_cons (pv 5) pa_nil))) pa_nil)))
      (pss_cons (ps_set (i := 7) sc_right_l.nd rfl (Or.inl rfl) (pe_lst (pa_cons (pe_callG hgd G_same_but_order (hr.mono (by omega)) rfl T.g_same_but_order T.F_same_but_order.kp T.b_same_but_order pass0 (pa_cons (pv 9) (pa_cons (pv 10) pa_nil))) (pa_cons (pe_callG hgd G_same_but_order (hr.mono (by omega)) rfl T.g_same_but_order T.F_same_but_order.kp T.b_same_but_order pass0 (pa_cons (pv 10) (pa_cons (pv 9) pa_nil))) (pa_cons (pe_callG hgd G_same_but_order (hr.mono (by omega)) rfl T.g_same_but_order T.F_same_but_order.kp T.b_same_but_order pass0 (pa_cons (pv 9) (pa_cons (pv 9) pa_nil))) pa_nil)))))
      (pss_cons (ps_expr (pe_bm PySem.F.plainAttrs_list PySem.F.slot_list_append PySem.F.type_list_append mt_append (pv 7) (pa_cons (pe_callG hgd G_same_but_order (hr.mono (by omega)) rfl T.g_same_but_order T.F_same_but_order.kp T.b_same_but_order pass0 (pa_cons (pv 9) (pa_cons (pe_make ⟨(tcB_ok T.x_Program).makes, T.i_Program, T.y_Program_init, (tcB_ok T.x_Program).kp⟩ GX_Program_init (hr.mono (by omega)) rfl T.m_Program T.b_Program_init .nil passN0 (pa_cons (pe_lst (pa_cons (pv 8) pa_nil)) pa_nil)) pa_nil))) pa_nil)))
      (pss_one (ps_ret (pe_cmpR op_eq (pe_callB (call_reprD hgd hr) (by rfl) T.n_repr (by decide +kernel) (pa_cons (pv 7) pa_nil)) (pe_callB (call_reprD hgd hr) (by rfl) T.n_repr (by decide +kernel) (pa_cons (pe_lst (pa_cons (pe_orT (pv 3) (pe_one (pv 6))) (pa_cons (pe_orT (pv 3) (pe_one (pv 6))) (pa_cons pe_bl (pa_cons pe_bl pa_nil))))) pa_nil)) (nomark _)))))))))))))), ?_⟩
    walk_at "ss"
    refine ⟨u, n, rfl, hu, kn.b.g, fun v1 G1 e1 f1 => ?_⟩
    walk_at "ss"
    refine ⟨v, m, rfl, hv.up e1, km.b.g, fun v2 G2 e2 f2 => ?_⟩
    have e12 := e1.trans e2
    walk_at "ss"
    obtain ⟨a1, _, _, _, _, rfl, _⟩ := id hu
    obtain ⟨a2, _, _, _, _, rfl, _⟩ := id hv
    refine c_repr ((hu.up e12).dp kn.b) kn.b.rp ?_ (by decide) (by decide)
    walk_at "ss"
    refine c_repr ((hv.up e12).dp km.b) km.b.rp ?_ (by decide) (by decide)
    walk_at "ss"
    have hdue := shown_dat kn.b km.b
    generalize decide (V.str n.dat.shown = V.str m.dat.shown) = due at hdue ⊢
    refine ⟨n, m, v1, v2, rfl, f1.at_.up e2, f2.at_, kn.b, km.b, fun b1 hb1 G3 e3 => ?_⟩
    walk_at "ss"
    refine ⟨m, n, v2, v1, rfl, f2.at_.up e3, f1.at_.up (e2.trans e3), km.b, kn.b, fun b2 hb2 G4 e4 => ?_⟩
    have e14 := e12.trans (e3.trans e4)
    walk_at "ss"
    refine ⟨_, n, rfl, hu.up e14, kn.b.g, fun v3 G5 e5 f3 => ?_⟩
    have e25 := e2.trans (e3.trans (e4.trans e5))
    walk_at "ss"
    refine ⟨n, n, v1, v3, rfl, f1.at_.up e25, f3.at_, kn.b, kn.b, fun b3 hb3 G6 e6 => ?_⟩
    have q1 : b1 = due := by
      rw [Bool.eq_iff_iff]
      exact hb1.trans hdue.symm
    have q2 : b2 = due := by
      rw [Bool.eq_iff_iff]
      exact hb2.trans ⟨fun z => hdue.mpr z.symm, fun z => (hdue.mp z).symm⟩
    have q3 : b3 = true := hb3.mpr rfl
    subst q1 q2 q3
    walk_at "ss"
    refine newL fun l7 G7 hl7 e7 g7 => ?_
    walk_at "ss"
    refine c_repr3 (bs := [_, _, true]) g7 (by simp) ?_
    walk_at "ss"
    refine newL fun l8 G8 hl8 e8 g8 => ?_
    walk_at "ss"
    refine c_repr3 (bs := [_, _, true]) g8 (by simp) ?_
    walk_at "ss"
    rw [decide_eq_true rfl]
    walk_at "ss"
    have e28 := e25.trans (e6.trans (e7.trans e8))
    have e18 := e1.trans e28
    have hik := inner_k hN
    refine ⟨nl, N, rfl, e18 _ _ gn, fun u9 G9 e9 h9 => ?_⟩
    walk_at "ss"
    refine ⟨u9, N.inner, rfl, h9, hik.1, fun v10 G10 e10 f10 => ?_⟩
    walk_at "ss"
    refine newL fun l11 G11 hl11 e11 g11 => ?_
    have x1 : Ex G1 G11 := e28.trans (e9.trans (e10.trans e11))
    have gdn : ∀ z ∈ [N.inner, n], z.good ∧ NoDot z := fun z hz => by
      simp at hz
      rcases hz with rfl | rfl
      · exact hik
      · exact ⟨kn.b.g, kn.nd⟩
    have gdm : ∀ z ∈ [N.inner, m], z.good ∧ NoDot z := fun z hz => by
      simp at hz
      rcases hz with rfl | rfl
      · exact hik
      · exact ⟨km.b.g, km.nd⟩
    walk_at "ss"
    refine mk_Prog (ns := [N.inner, n]) g11 (by simp) (by simp) (.cons (f10.at_.up e11) (.cons (f1.at_.up x1) .nil)) (nd_two kn) gdn (pg_two kn) fun pl G12 e12' hpl => ?_
    walk_at "ss"
    refine newL fun l13 G13 hl13 e13 g13 => ?_
    have x2 : Ex G10 G13 := e11.trans (e12'.trans e13)
    have x3 : Ex G2 G13 := (e3.trans (e4.trans (e5.trans (e6.trans (e7.trans (e8.trans (e9.trans e10))))))).trans x2
    walk_at "ss"
    refine mk_Prog (ns := [N.inner, m]) g13 (by simp) (by simp) (.cons (f10.at_.up x2) (.cons (f2.at_.up x3) .nil)) (nd_two km) gdm (pg_two km) fun pr G14 e14' hpr => ?_
    walk_at "ss"
    have hpl14 := hpl.up48 (e13.trans e14')
    refine ⟨_, _, [N.inner, n], [N.inner, m], _, _, pl, pr, rfl, hpl14, hpr, nd_two kn, nd_two km, fun c1 G15 hc1 e15 => ?_⟩
    walk_at "ss"
    refine ⟨_, _, [N.inner, m], [N.inner, n], _, _, pr, pl, rfl, hpr.up48 e15, hpl14.up48 e15, nd_two km, nd_two kn, fun c2 G16 hc2 e16 => ?_⟩
    walk_at "ss"
    have hpl16 := hpl14.up48 (e15.trans e16)
    refine ⟨_, _, [N.inner, n], [N.inner, n], _, _, pl, pl, rfl, hpl16, hpl16, nd_two kn, nd_two kn, fun c3 G17 hc3 e17 => ?_⟩
    walk_at "ss"
    refine newL fun l18 G18 hl18 e18' g18 => ?_
    walk_at "ss"
    refine ⟨.inl ⟨rfl, _, SqL.of g18⟩, ?_⟩
    walk_at "ss"
    refine newL fun l19 G19 hl19 e19 g19 => ?_
    have x4 : Ex G10 G19 := x2.trans (e14'.trans (e15.trans (e16.trans (e17.trans (e18'.trans e19)))))
    walk_at "ss"
    refine mk_Prog (ns := [N.inner]) g19 (by simp) (by simp) (.cons (f10.at_.up x4) .nil) (by simp) (fun z hz => by rw [List.mem_singleton.mp hz]; exact hik) pg_one fun po G20 e20 hpo => ?_
    walk_at "ss"
    refine ⟨_, _, [N.inner, n], [N.inner], _, _, pl, po, rfl, hpl16.up48 (e17.trans (e18'.trans (e19.trans e20))), hpo, nd_two kn, by simp, fun c4 G21 hc4 e21 => ?_⟩
    have fo : n.fm = m.fm ↔ o = true := ⟨fun z => ho.mpr z.symm, fun z => (ho.mp z).symm⟩
    have r1 : c1 = o := by
      rw [Bool.eq_iff_iff]
      exact hc1.trans (two_fm.trans fo)
    have r2 : c2 = o := by
      rw [Bool.eq_iff_iff]
      exact hc2.trans (two_fm.trans ⟨fun z => fo.mp z.symm, fun z => (fo.mpr z).symm⟩)
    have r3 : c3 = true := hc3.mpr (List.Perm.refl _)
    have r4 : c4 = false := by
      cases c4 with
      | false => rfl
      | true => exact absurd (hc4.mp rfl) one_fm
    subst r1 r2 r3 r4
    refine ⟨l18, _, _, rfl, rfl, (e19.trans (e20.trans e21)) _ _ g18, Evl.sz_lt (by simp), ?_⟩
    have hl18' : H l18 = none := fresh_back (e18.trans (e9.trans (e10.trans (x2.trans (e14'.trans (e15.trans (e16.trans e17))))))) hl18
    have EA : Ex H (upd G21 l18 (.lst ([V.bl c2, .bl c2, .bl true] ++ [.bl false]))) := Ex.mut (e18.trans (e9.trans (e10.trans (x4.trans (e20.trans e21))))) hl18'
    have gA : upd G21 l18 (.lst ([V.bl c2, .bl c2, .bl true] ++ [.bl false])) l18 = some (.lst ([c2, c2, true, false].map V.bl)) := upd_same
    generalize upd G21 l18 (.lst ([V.bl c2, .bl c2, .bl true] ++ [.bl false])) = GA at EA gA ⊢
    have hdo : b2 = true → c2 = true := fun z => fo.mp (by
      obtain ⟨d1, d2, d3, d4⟩ := dat_fm (hdue.mp z)
      exact fm_eq.mpr ⟨d1, d2, d3, by rw [d4]⟩)
    walk_at "ss"
    refine c_repr3 (bs := [c2, c2, true, false]) gA (by simp) ?_
    clear hc1 ho fo hc3 hc4
    walk_at "ss"
    cases c2 with
    | true =>
      walk_at "ss"
      refine ⟨true, rfl, ?_⟩
      walk_at "ss"
      refine ⟨true, rfl, ?_⟩
      walk_at "ss"
      refine newL fun l22 G22 hl22 e22 g22 => ?_
      walk_at "ss"
      refine c_repr3 (bs := [true, true, true, false]) g22 (by simp) ?_
      walk_at "ss"
      rw [decide_eq_true rfl]
      exact k _ (EA.trans e22)
    | false =>
      have hb : b2 = false := by
        cases b2 with
        | false => rfl
        | true => cases hdo rfl
      subst hb
      walk_at "ss"
      refine ⟨false, rfl, ?_⟩
      walk_at "ss"
      refine ⟨false, rfl, ?_⟩
      walk_at "ss"
      refine newL fun l22 G22 hl22 e22 g22 => ?_
      walk_at "ss"
      refine c_repr3 (bs := [false, false, true, false]) g22 (by simp) ?_
      walk_at "ss"
      rw [decide_eq_true rfl]
      exact k _ (EA.trans e22)

/-! ### k48: the law -/
open TL (tl)
def sp_law (K : PySem.W.Frag) : Sp := fun vs H Q _ => ∃ (a : Addr) (ns : List Int), vs = [.ref a] ∧ SqL K H a (ns.map V.int) ∧ ns.length ≤ 63 ∧ ∀ H', Q (.bl true) H'
theorem ok_law (T : Txt K mg Z)  : FnG P w K mg base CX0 (48) Z.f_law Z.fd_law ["_law_script"] (sp_law K) := by
  have G_cell_at_l := ok_cell_at_l (P := P) (w := w) (base := base) T
  have G_box_l := ok_box_l (P := P) (w := w) (base := base) T
  have G_names_l := ok_names_l (P := P) (w := w) (base := base) T
  have G_whole_l := ok_whole_l (P := P) (w := w) (base := base) T
  have G_other_l := ok_other_l (P := P) (w := w) (base := base) T
  have G_sames_put_l := ok_sames_put_l (P := P) (w := w) (base := base) T
  have G_right_l := ok_right_l (P := P) (w := w) (base := base) T
  refine T.F_law.okG sc_law (fun vs H Q E h => ?_) (fun cdv AA outer s H vs Q E hgd hr h => ?_)
  · obtain ⟨a, ns, rfl, _⟩ := h
    rfl
  · obtain ⟨a, xs0, rfl, hS, hl, k⟩ := h
    refine ⟨_, (pss_cons (ps_for PassesOwn.never rfl (pi_range1 (by rfl) T.n_range (pa_cons (pe_callB (call_max2 rfl) (by rfl) T.n_max (by decide +kernel) (pa_cons pe_int (pa_cons (pe_callB (call_min2 rfl) (by rfl) T.n_min (by decide +kernel) (pa_cons pe_int (pa_cons (pe_callB call_len_seq (by rfl) T.n_len (by decide +kernel) (pa_cons (pv 0) pa_nil)) pa_nil))) pa_nil))) pa_nil)) (pg_name (i := 1) sc_law.nd rfl (Or.inl rfl)) (pss_cons (ps_set (i := 2) sc_law.nd rfl (Or.inl rfl) (pe_call G_box_l (hr.mono (by omega)) rfl T.g_box_l T.F_box_l.kp T.b_box_l .nil pass0 (pa_cons (pe_call G_cell_at_l (hr.mono (by omega)) rfl T.g_cell_at_l T.F_cell_at_l.kp T.b_cell_at_l .nil pass0 (pa_cons (pv 0) (pa_cons (pv 1) pa_nil))) pa_nil)))
      (pss_cons (ps_set (i := 3) sc_law.nd rfl (Or.inl rfl) (pe_call G_names_l (hr.mono (by omega)) rfl T.g_names_l T.F_names_l.kp T.b_names_l .nil pass0 (pa_cons (pv 2) pa_nil)))
      (pss_cons (ps_set (i := 4) sc_law.nd rfl (Or.inl rfl) (pe_call G_whole_l (hr.mono (by omega)) rfl T.g_whole_l T.F_whole_l.kp T.b_whole_l .nil pass0 (pa_cons (pv 2) (pa_cons (pv 3) pa_nil))))
      (pss_cons (ps_for PassesOwn.never rfl (pi_range1 (by rfl) T.n_range (pa_cons pe_int pa_nil)) (pg_name (i := 5) sc_law.nd rfl (Or.inl rfl)) (pss_cons (ps_asg (pe_call G_other_l (hr.mono (by omega)) rfl T.g_other_l T.F_other_l.kp T.b_other_l .nil pass0 (pa_cons (pv 2) (pa_cons (pv 3) (pa_cons (pv 4) pa_nil)))) (pg_lst (by rfl) (pgs_cons (pg_name (i := 6) sc_law.nd rfl (Or.inl rfl)) (pgs_cons (pg_name (i := 7) sc_law.nd rfl (Or.inl rfl)) pgs_nil))))
      (pss_one (ps_if (pt_not (pt_val (pe_callG hgd G_right_l (hr.mono (by omega)) rfl T.g_right_l T.F_right_l.kp T.b_right_l pass0 (pa_cons (pv 3) (pa_cons (pv 4) (pa_cons (pv 6) (pa_cons (pv 7) pa_nil))))))) (pss_one (ps_ret pe_bl)) pss_nil))))
      (pss_cons (ps_set (i := 8) sc_law.nd rfl (Or.inl rfl) (pe_call G_sames_put_l (hr.mono (by omega)) rfl T.g_sames_put_l T.F_sames_put_l.kp T.b_sames_put_l .nil pass0 (pa_cons (pv 3) (pa_cons (pv 4) pa_nil))))
      (pss_one (ps_if (pt_not (pt_val (pe_callG hgd G_right_l (hr.mono (by omega)) rfl T.g_right_l T.F_right_l.kp T.b_right_l pass0 (pa_cons (pv 3) (pa_cons (pe_ix ix_list (pv 8) pe_int (fun _ _ => rfl)) (pa_cons (pe_ix ix_list (pv 8) pe_int (fun _ _ => rfl)) (pa_cons pe_bl pa_nil))))))) (pss_one (ps_ret pe_bl)) pss_nil))))))))
      (pss_one (ps_ret pe_bl))), ?_⟩
    walk_at "ss"
    refine ⟨_, _, rfl, .inl hS, ?_⟩
    walk_at "ss"
    refine ⟨_, _, rfl, ?_⟩
    walk_at "ss"
    refine ⟨_, _, rfl, ?_⟩
    walk_at "ss"
    refine ⟨by split <;> split <;> omega, by split <;> split <;> omega, ?_⟩
    refine forR (fun i σ' G => (∃ v1 v2 v3 v4 v5 v6 v7 v8, σ' = [some (.ref a), v1, v2, v3, v4, v5, v6, v7, v8]) ∧ Ex H G) ⟨⟨_, _, _, _, _, _, _, _, rfl⟩, Ex.refl _⟩ ?_ ?_
    · rintro i σ' G hi ⟨⟨v1, v2, v3, v4, v5, v6, v7, v8, rfl⟩, eG⟩
      walk_at "ss"
      refine ⟨_, _, _, rfl, ex_l eG hS, by omega, fun c0 => ?_⟩
      walk_at "ss"
      refine ⟨_, rfl, fun b G1 hbn f1 hB => ?_⟩
      walk_at "ss"
      refine ⟨b, rfl, hB, fun ns nl G2 hN hnl x2 b2 g2 => ?_⟩
      obtain ⟨N, rfl⟩ := hN.ns
      walk_at "ss"
      refine ⟨b, nl, N, rfl, b2, g2, fun m rs u G3 hm hW hT x3 b3 => ?_⟩
      have nnb : nl ≠ b := box_ne b2 g2 fun x y z => strs_nobox x y z
      have g3 := x3 _ _ nnb g2
      walk_at "ss"
      refine ⟨by decide, by decide, ?_⟩
      refine forR (fun j σ' G4 => (∃ w5 w6 w7, σ' = [some (.ref a), some (.int (i : Nat)), some (.ref b), some (.ref nl), some u, w5, w6, w7, v8]) ∧ ExB b G3 G4 ∧ BoxAt G4 b) ⟨⟨_, _, _, rfl⟩, ExB.refl _ _, b3⟩ ?_ ?_
      · rintro j σ' G4 hj ⟨⟨w5, w6, w7, rfl⟩, x4, b4⟩
        have nl4 : NL G3 G4 := NL.box x4 b3
        walk_at "ss"
        refine ⟨b, nl, N, m, rs, u, rfl, b4, x4 _ _ nnb g3, hN, hm, hW, ndT_nl48 hT nl4, fun l5 n v o G5 ho g5 hv x5 b5 => ?_⟩
        walk_at "ss"
        refine c_gLst (SqL.of g5) rfl ?_
        walk_at "ss"
        have nl5 : NL G3 G5 := nl4.trans (NL.box x5 b4)
        refine ⟨nl, N, N.whole rs, n, u, v, o, rfl, (x4.trans x5) _ _ nnb g3, hN, ndT_nl48 hT nl5, hv, w_k hN (hW.wok (by omega)), ho.1, ho.2, fun G6 e6 => ?_⟩
        walk_at "ss"
        exact ⟨⟨_, _, _, rfl⟩, x4.trans (x5.trans (ExB.of e6)), b5.up e6⟩
      · rintro σ' G4 ⟨⟨w5, w6, w7, rfl⟩, x4, b4⟩
        have nl4 : NL G3 G4 := NL.box x4 b3
        have g4 := x4 _ _ nnb g3
        walk_at "ss"
        refine ⟨nl, N, rs, u, rfl, g4, ndT_nl48 hT nl4, by have := hW.len; omega, fun l5 v1' v2' G5 e5 g5 h1 h2 => ?_⟩
        obtain ⟨k1, k2⟩ := pair_ok hN hW
        walk_at "ss"
        refine c_ixL (SqL.of g5) rfl ?_
        walk_at "ss"
        refine c_ixL (SqL.of g5) rfl ?_
        walk_at "ss"
        refine ⟨nl, N, _, _, v1', v2', false, rfl, e5 _ _ g4, hN, h1, h2, k1, k2.1, k2.2, fun G6 e6 => ?_⟩
        walk_at "ss"
        exact ⟨⟨_, _, _, _, _, _, _, _, rfl⟩, eG.trans (exB_ex f1 hbn (x2.trans (x3.trans (x4.trans (ExB.of (e5.trans e6))))))⟩
    · rintro σ' G ⟨⟨v1, v2, v3, v4, v5, v6, v7, v8, rfl⟩, eG⟩
      walk_at "ss"
      exact k _

end
end Toy
theorem PySem.Challenge.cw_beatrows_k48_alike_but_for_one_thing_holds : PySem.Challenge.rw_beatrows_k48_alike_but_for_one_thing.Holds :=
  Toy.holds_of (spl := Toy.sp_law) (fun T => Toy.ok_law T) (fun K H a ns hS hl => ⟨a, ns, rfl, hS, hl, fun _ => rfl⟩)
