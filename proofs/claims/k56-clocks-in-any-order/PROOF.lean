import PyProof.Rows.All
import KE.KDictZip
import Wide.All
import OpenK.AllK
import Wide.FinOn
import KE.KExcIs
import HandS.ForMost
import HandS.IsInst
import HandS.Flow
import HandS.Evl
import HandS.Walk
import HandS.Replace
import HandS.Deep
import HandS.SortKw
import HandS.Wide
import HandS.ExcOwn
import HandS.WordsExc
import HandS.TryMany
import HandS.More
import KE.DatumOrd
import HandS.DeepEq
import KE.KEqDict
import HandS.Exc
import HandS.ExcField
import HandS.ExcInit
import HandS.ExcValue
import HandS.Defaults
import HandS.ListItems
import HandS.TupAny
import HandS.SetKeys
import HandS.Style
import HandS.Finally
import HandS.SuiteRaise
import HandS.Head0
import HandS.Head1
import HandS.Head2
import HandS.HeadEnd
import HandS.HeadHook1
import HandS.HeadHook2
import HandS.HeadHook3
import HandS.HeadHook4
import PySem.Challenge.RW_beatrows_k56_whole_clocks_in_any_order
set_option Elab.async false
set_option linter.all false
set_option maxRecDepth 100000
set_option maxHeartbeats 4000000
/-! ### own small rules -/
namespace L2
open PySem PySem.Spec PyProof.Rows
section
variable {X : Cx}
theorem pe_gcst {x : Str} {v : V} {pos : Pos} (hg : Gl X x) (h : ∃ u, X.mg x = some u ∧ RelV v u) (hd : (x == ("__debug__" : Str)) = false := by decide) : PE X (.Name x pos) (tC v) :=
  let ⟨_, hm, r⟩ := h
  pe_glob hg hm r hd
/-- divmod by any divisor but nought, below 2^30 -/
theorem call_divmodN : CallR X (.builtin "divmod") (fun xs H Q => ∃ i j : Int, xs = [.int i, .int j] ∧ CDivN i j ∧ ∀ p, H p = none → Q (.ref p) (upd H p (.tup [.int (i.fdiv j), .int (i.fmod j)]))) := by
  intro pins s σ H xs us Q I r h
  obtain ⟨i, j, rfl, ⟨h1, h2⟩, q⟩ := h
  obtain ⟨u, w', rfl, ⟨t, rfl⟩, ⟨t', rfl⟩⟩ := vals2 r
  refine divmod_int h1 ?_ (.inl (PyProof.noPylong_small h2))
  have hn := I.hok.fresh (Nat.le_refl s.heap.objs.size)
  refine ⟨.ref s.heap.objs.size, upd H s.heap.objs.size (.tup [.int (i.fdiv j), .int (i.fmod j)]), ?_, rfl, q _ hn⟩
  refine I.laid (fun b o e => Heap.get?_push_of_some _ e) (Nat.le_refl _) ?_
  refine ⟨by show 2 ≤ sizeLine; decide, [.int (i.fdiv j) s.toks, .int (i.fmod j) (s.toks + 1)], ?_, ?_⟩
  · exact .cons ⟨_, rfl⟩ (.cons ⟨_, rfl⟩ .nil)
  · exact ⟨_, Heap.get?_push_size s.heap rfl, rfl, 0, rfl⟩
end
/-- a new tuple, a new list of these, all else kept -/
def RetT (xs : List V) (H : Hp) (Q : VK) : Prop := ∀ p H2, H p = none → Evl.Ex H H2 → H2 p = some (.tup xs) → Q (.ref p) H2
def RetL (xs : List V) (H : Hp) (Q : VK) : Prop := ∀ p H2, H p = none → Evl.Ex H H2 → H2 p = some (.lst xs) → Q (.ref p) H2
def RetV (v : V) (H : Hp) (Q : VK) : Prop := ∀ H2, Evl.Ex H H2 → Q v H2
theorem RetT.up {xs : List V} {H0 H : Hp} {Q : VK} (k : RetT xs H0 Q) (e : Evl.Ex H0 H) : RetT xs H Q := fun p H2 hp e2 h2 => k p H2 (Evl.fresh_back e hp) (e.trans e2) h2
theorem RetL.up {xs : List V} {H0 H : Hp} {Q : VK} (k : RetL xs H0 Q) (e : Evl.Ex H0 H) : RetL xs H Q := fun p H2 hp e2 h2 => k p H2 (Evl.fresh_back e hp) (e.trans e2) h2
theorem RetV.up {v : V} {H0 H : Hp} {Q : VK} (k : RetV v H0 Q) (e : Evl.Ex H0 H) : RetV v H Q := fun H2 e2 => k H2 (e.trans e2)
def NewT (xs : List V) (H : Hp) (Q : VK) : Prop := xs.length ≤ sizeLine ∧ ∀ p, H p = none → Q (.ref p) (upd H p (.tup xs))
def NewL (xs : List V) (H : Hp) (Q : VK) : Prop := xs.length ≤ sizeLine ∧ ∀ p, H p = none → Q (.ref p) (upd H p (.lst xs))
theorem newT {xs : List V} {H : Hp} {Q : VK} (k : RetT xs H Q) (hz : xs.length ≤ 100000 := by exact Nat.le_of_ble_eq_true rfl) : NewT xs H Q := ⟨Evl.sz_of hz, fun p hp => k p _ hp (Evl.Ex.new hp) upd_same⟩
theorem newL {xs : List V} {H : Hp} {Q : VK} (k : RetL xs H Q) (hz : xs.length ≤ 100000 := by exact Nat.le_of_ble_eq_true rfl) : NewL xs H Q := ⟨Evl.sz_of hz, fun p hp => k p _ hp (Evl.Ex.new hp) upd_same⟩
theorem if_tt {c : Bool} {A B : Prop} (hc : c = true) (h : A) : if c = true then A else B := by rw [if_pos hc]; exact h
theorem if_ff {c : Bool} {A B : Prop} (hc : c = false) (h : B) : if c = true then A else B := by rw [hc]; exact iteF h
theorem if_nt {A B : Prop} (h : B) : if (!true) = true then A else B := iteF h
theorem if_nf {A B : Prop} (h : A) : if (!false) = true then A else B := iteT h
theorem if_cs {c : Bool} {A B : Prop} (h1 : c = true → A) (h2 : c = false → B) : if c = true then A else B := by
  cases c with
  | true => exact iteT (h1 rfl)
  | false => exact iteF (h2 rfl)
theorem kb_ii : kitB "int" "int" = some true := by decide +kernel
theorem kb_bi : kitB "bool" "int" = some true := by decide +kernel
theorem kb_ib : kitB "int" "bool" = some false := by decide +kernel
theorem kb_bb : kitB "bool" "bool" = some true := by decide +kernel
theorem ty_int {K : PySem.W.Frag} {H : Hp} (i : Int) : TyX K H (.int i) (.type "int") := .base (.int i)
theorem ty_bl {K : PySem.W.Frag} {H : Hp} (b : Bool) : TyX K H (.bl b) (.type "bool") := .base (.bl b)
theorem ty_str {K : PySem.W.Frag} {H : Hp} (b : Str) : TyX K H (.str b) (.type "str") := .base (.str b)
theorem ty_non {K : PySem.W.Frag} {H : Hp} : TyX K H .non (.type "NoneType") := .base .non
theorem ty_tup {K : PySem.W.Frag} {H : Hp} {a : Addr} {xs : List V} (h : H a = some (.tup xs)) : TyX K H (.ref a) (.type "tuple") := .base (.tup h)
theorem ty_lst {K : PySem.W.Frag} {H : Hp} {a : Addr} {xs : List V} (h : H a = some (.lst xs)) : TyX K H (.ref a) (.type "list") := .base (.lst h)
/-- isinstance of a thing of a built-in type -/
theorem isi {K : PySem.W.Frag} {H : Hp} {Q : VK} {x : V} {a b : String} {r : Bool} (h : TyX K H x (.type a)) (e : kitB a b = some r) (q : Q (.bl r) H) : rIsi K [x, .ty b] H Q :=
  ⟨x, .ty b, .type a, .type b, r, rfl, .ty b, h, kit_ty e, q⟩
end L2

/-! ### readings, one step each (the goal's head tells which) -/
namespace L2
open PySem PySem.Spec PyProof.Rows
section
variable {K : PySem.W.Frag} {σ : St} {H : Hp} {Q : VK} {B : Bool → Hp → Prop} {ta tb tc te : TE} {t u : TT} {tA : TA} {D : Ends} {s1 s2 : TS} {g : TG} {gs : TGs} {v : V} {r : R2}
theorem c_var {i : Nat} (h : σ[i]? = some (some v)) (q : Q v H) : tVar i σ H Q := ⟨v, h, q⟩
theorem c_c (q : Q v H) : tC v σ H Q := q
theorem c_op (h : ta σ H fun x H1 => tb σ H1 fun y H2 => r x y H2 Q) : tOp r ta tb σ H Q := h
theorem c_un {f : V → Hp → VK → Prop} (h : ta σ H fun x H1 => f x H1 Q) : tUn f ta σ H Q := h
theorem c_test (h : te σ H fun x H1 => ∃ k, x = .bl k ∧ B k H1) : tTest te σ H B := h
theorem c_b (h : te σ H fun x H1 => ∃ k, x = .bl k ∧ B k H1) : tB te σ H B := h
theorem c_and (h : t σ H fun c H1 => if c = true then u σ H1 B else B false H1) : tAnd t u σ H B := h
theorem c_or (h : t σ H fun c H1 => if c = true then B true H1 else u σ H1 B) : tOr t u σ H B := h
theorem c_not (h : t σ H fun c H1 => B (!c) H1) : tNot t σ H B := h
theorem c_andV (h : ta σ H fun x H1 => ∃ c, x = .bl c ∧ if c = true then tb σ H1 Q else Q (.bl false) H1) : tAndV ta tb σ H Q := h
theorem c_orV (h : ta σ H fun x H1 => ∃ c, x = .bl c ∧ if c = true then Q (.bl true) H1 else tb σ H1 Q) : tOrV ta tb σ H Q := h
theorem c_notV (h : ta σ H fun x H1 => ∃ c, x = .bl c ∧ Q (.bl (!c)) H1) : tNotV ta σ H Q := h
theorem c_if (h : t σ H fun c H1 => if c = true then ta σ H1 Q else tb σ H1 Q) : tIf t ta tb σ H Q := h
theorem c_orT (h : ta σ H fun x H1 => ∃ k, TruV K x H1 k ∧ if k = true then Q x H1 else tb σ H1 Q) : tOrT K ta tb σ H Q := h
theorem c_andT (h : ta σ H fun x H1 => ∃ k, TruV K x H1 k ∧ if k = true then tb σ H1 Q else Q x H1) : tAndT K ta tb σ H Q := h
theorem c_notT (h : ta σ H fun x H1 => ∃ k, TruV K x H1 k ∧ Q (.bl (!k)) H1) : tNotT K ta σ H Q := h
theorem c_yes (h : B true H) : tYes σ H B := h
theorem c_nil {q : List V → Hp → Prop} (h : q [] H) : tNil σ H q := h
theorem c_cons {q : List V → Hp → Prop} (h : ta σ H fun x H1 => tA σ H1 fun xs H2 => q (x :: xs) H2) : tCons ta tA σ H q := h
theorem c_tup (h : tA σ H fun xs H1 => NewT xs H1 Q) : tTup tA σ H Q := h
theorem c_lst (h : tA σ H fun xs H1 => NewL xs H1 Q) : tLst tA σ H Q := h
theorem c_call {sp : Sp} {E : XK} (h : tA σ H fun vs H1 => sp vs H1 Q E) : tCall sp [] E tA σ H Q := by
  show tA σ H fun vs H1 => sp (vs ++ []) H1 Q E
  simp only [List.append_nil]
  exact h
theorem c_cb {f : List V → Hp → VK → Prop} (h : tA σ H fun vs H1 => f vs H1 Q) : tCB f tA σ H Q := h
theorem c_sl {f : V → Option Int → Option Int → Hp → VK → Prop} {tl th : TO} (h : te σ H fun x H1 => tl σ H1 fun l H2 => th σ H2 fun u H3 => f x l u H3 Q) : tSl f te tl th σ H Q := h
theorem c_noPart {q : Option Int → Hp → Prop} (h : q none H) : tNoPart σ H q := h
theorem c_part {q : Option Int → Hp → Prop} (h : te σ H fun x H1 => ∃ i, x = .int i ∧ q (some i) H1) : tPart te σ H q := h
theorem c_bm {T : String} {f : V → List V → Hp → VK → Prop} (h : te σ H fun x H1 => tyV K T x H1 ∧ tA σ H1 fun xs H2 => f x xs H2 Q) : tBM K T f te tA σ H Q := h
theorem c_bm0 {T : String} {f : V → List V → Hp → VK → Prop} (h : te σ H fun x H1 => tyV K T x H1 ∧ f x [] H1 Q) : tBM0 K T f te σ H Q := h
theorem c_m0 {f : V → List V → Hp → VK → Prop} (h : te σ H fun x H1 => (∃ a, x = .str a) ∧ f x [] H1 Q) : tM0 f te σ H Q := h
theorem c_m1 {f : V → List V → Hp → VK → Prop} (h : ta σ H fun x H1 => (∃ a, x = .str a) ∧ tb σ H1 fun y H2 => f x [y] H2 Q) : tM1 f ta tb σ H Q := h
theorem c_chain {r' : R2} (h : ta σ H fun x H1 => tb σ H1 fun y H2 => r x y H2 fun z H3 => ∃ k, z = .bl k ∧ (if k = true then tc σ H3 fun w' H4 => r' y w' H4 Q else Q (.bl false) H3)) : tChain r r' ta tb tc σ H Q := h
/-! statements -/
theorem c_next (h : D.nx σ H) : tNext D σ H := h
theorem c_seq (h : s1 { D with nx := s2 D } σ H) : tSeq s1 s2 D σ H := h
theorem c_asg (h : te σ H fun x H1 => g x σ H1 D.nx) : tAsg te g D σ H := h
theorem c_ret (h : te σ H D.rt) : tRet te D σ H := h
theorem c_retN (h : D.rt .non H) : tRetN D σ H := h
theorem c_ifS (h : t σ H fun b H1 => if b = true then s1 D σ H1 else s2 D σ H1) : tIfS t s1 s2 D σ H := h
theorem c_drop (h : te σ H fun _ H1 => D.nx σ H1) : tDrop te D σ H := h
theorem c_break (h : D.bk σ H) : tBreak D σ H := h
theorem c_cont (h : D.ct σ H) : tCont D σ H := h
theorem c_nx {nx : St → Hp → Prop} {rt : VK} {bk ct : St → Hp → Prop} (h : nx σ H) : Ends.nx ⟨nx, rt, bk, ct⟩ σ H := h
theorem c_rt {nx : St → Hp → Prop} {rt : VK} {bk ct : St → Hp → Prop} (h : rt v H) : Ends.rt ⟨nx, rt, bk, ct⟩ v H := h
theorem c_bk {nx : St → Hp → Prop} {rt : VK} {bk ct : St → Hp → Prop} (h : bk σ H) : Ends.bk ⟨nx, rt, bk, ct⟩ σ H := h
theorem c_ct {nx : St → Hp → Prop} {rt : VK} {bk ct : St → Hp → Prop} (h : ct σ H) : Ends.ct ⟨nx, rt, bk, ct⟩ σ H := h
/-! as they stand (a cheap look ahead of c_nx ..) -/
theorem d_nx (h : D.nx σ H) : D.nx σ H := h
theorem d_bk (h : D.bk σ H) : D.bk σ H := h
theorem d_ct (h : D.ct σ H) : D.ct σ H := h
theorem d_rt (h : D.rt v H) : D.rt v H := h
theorem c_gName {i : Nat} {q : St → Hp → Prop} (h : q (σ.set i (some v)) H) : gName i v σ H q := h
theorem c_gTup {n : Nat} {a : Addr} {xs : List V} {q : St → Hp → Prop} (hs : SqT K H a xs) (hl : xs.length = n) (h : gs xs σ H q) : gTup K n gs (.ref a) σ H q := ⟨a, xs, rfl, hs, hl, h⟩
theorem c_gCons {vs : List V} {q : St → Hp → Prop} (h : g v σ H fun σ' H' => gs vs σ' H' q) : gCons g gs (v :: vs) σ H q := ⟨v, vs, rfl, h⟩
theorem c_gNil {q : St → Hp → Prop} (h : q σ H) : gNil [] σ H q := ⟨rfl, h⟩
theorem c_gSub {to ti : TE} {f : TSet} {q : St → Hp → Prop} (h : to σ H fun o H1 => ti σ H1 fun i H2 => f o i v H2 fun H3 => q σ H3) : gSub to ti f v σ H q := h
theorem c_cut {M : St → Hp → Prop} (h : s1 { D with nx := M } σ H) (k : ∀ σ' H', M σ' H' → s2 D σ' H') : Evl.tCut s1 s2 D σ H := ⟨M, h, k⟩
/-! operations on values -/
theorem c_I0 {f : Int → Int → V} {i j : Int} (q : Q (f i j) H) : rI0 f (.int i) (.int j) H Q := ⟨i, j, rfl, rfl, q⟩
theorem c_I {C : Int → Int → Prop} {f : Int → Int → V} {i j : Int} (hc : C i j) (q : Q (f i j) H) : rI C f (.int i) (.int j) H Q := ⟨i, j, rfl, rfl, hc, q⟩
theorem c_U {f : Int → V} {i : Int} (q : Q (f i) H) : rU f (.int i) H Q := ⟨i, rfl, q⟩
theorem c_eq {x y : V} (h : scal x y = true) (q : Q (.bl (decide (x = y))) H) : rEq x y H Q := ⟨h, q⟩
theorem c_ne {x y : V} (h : scal x y = true) (q : Q (.bl (!decide (x = y))) H) : rNe x y H Q := ⟨h, q⟩
theorem c_ixL {p : Addr} {xs : List V} {i : Int} (h : SqL K H p xs) (ha : atI xs i = some v) (q : Q v H) : rIxL K (.ref p) (.int i) H Q := ⟨p, xs, i, v, rfl, rfl, h, ha, q⟩
theorem c_ixT {p : Addr} {xs : List V} {i : Int} (h : SqT K H p xs) (ha : atI xs i = some v) (q : Q v H) : rIxT K (.ref p) (.int i) H Q := ⟨p, xs, i, v, rfl, rfl, h, ha, q⟩
theorem c_setL {p : Addr} {xs : List V} {k : Int} {j : Nat} {q : Hp → Prop} (h : H p = some (.lst xs)) (hj : ixN xs.length k = some j) (h2 : q (upd H p (.lst (xs.set j v)))) : rSetL (.ref p) (.int k) v H q := ⟨p, xs, k, j, rfl, rfl, h, hj, h2⟩
theorem c_in {x : V} {p : Addr} {xs : List V} (h : SqL K H p xs ∨ SqT K H p xs) (hx : flatV x = true) (ha : xs.all flatV = true) (q : Q (.bl (inV x xs)) H) : rIn K false x (.ref p) H Q := ⟨p, xs, rfl, h, hx, ha, q⟩
theorem c_notin {x : V} {p : Addr} {xs : List V} (h : SqL K H p xs ∨ SqT K H p xs) (hx : flatV x = true) (ha : xs.all flatV = true) (q : Q (.bl (!inV x xs)) H) : rIn K true x (.ref p) H Q := ⟨p, xs, rfl, h, hx, ha, q⟩
theorem c_cat {l b : Addr} {xs zs : List V} (h : H l = some (.lst xs)) (h' : H b = some (.lst zs)) (k : RetL (xs ++ zs) H Q) (hz : xs.length + zs.length ≤ 100000 := by exact Nat.le_of_ble_eq_true rfl) : rCat (.ref l) (.ref b) H Q :=
  ⟨l, b, xs, zs, rfl, rfl, h, h', Evl.sz_of hz, fun p hp => k p _ hp (Evl.Ex.new hp) upd_same⟩
end
end L2

/-! ### == of tuples and lists of flat things -/
namespace L2
open PySem PySem.Spec PyProof.Rows
def dOf : V → PyData
  | .non => .none
  | .bl b => .bool b
  | .int i => .int i
  | .str x => .str x
  | _ => .none
/-- flat, its signs within the line -/
def okV : V → Bool
  | .non => true
  | .bl _ => true
  | .int _ => true
  | .str x => PyData.strOk x
  | _ => false
theorem okV_flat {v : V} (h : okV v = true) : flatV v = true := by
  cases v <;> first | rfl | exact absurd h Bool.false_ne_true
theorem okL_flat {xs : List V} (h : xs.all okV = true) : xs.all flatV = true := by
  rw [List.all_eq_true] at h ⊢
  exact fun x hx => okV_flat (h x hx)
def eqL : List V → List V → Bool
  | [], [] => true
  | x :: xs, y :: ys => eqV x y && eqL xs ys
  | _, _ => false
theorem dp_flat {K : PySem.W.Frag} {H : Hp} {v : V} (h : flatV v = true) : Dp K H v (dOf v) := by
  cases v with
  | non => exact .non
  | bl b => exact .bl b
  | int i => exact .int i
  | str x => exact .str x
  | _ => exact absurd h Bool.false_ne_true
theorem dpAll_flat {K : PySem.W.Frag} {H : Hp} : ∀ {xs : List V}, xs.all flatV = true → DpAll K H xs (xs.map dOf)
  | [], _ => .nil
  | x :: xs, h => by
    rw [List.all_cons, Bool.and_eq_true] at h
    exact .cons (dp_flat h.1) (dpAll_flat h.2)
theorem eqv_flat {a b : V} (ha : flatV a = true) (hb : flatV b = true) : PyData.eqv (dOf a) (dOf b) = eqV a b := by
  cases a <;> first | exact absurd ha Bool.false_ne_true | (cases b <;> first | exact absurd hb Bool.false_ne_true | simp [dOf, PyData.eqv, eqV])
theorem eqvAll_flat : ∀ {xs ys : List V}, xs.all flatV = true → ys.all flatV = true → PyData.eqvAll (xs.map dOf) (ys.map dOf) = eqL xs ys
  | [], [], _, _ => by simp [PyData.eqvAll, eqL]
  | [], _ :: _, _, _ => by simp [PyData.eqvAll, eqL]
  | _ :: _, [], _, _ => by simp [PyData.eqvAll, eqL]
  | x :: xs, y :: ys, h, h' => by
    rw [List.all_cons, Bool.and_eq_true] at h h'
    rw [List.map_cons, List.map_cons, PyData.eqvAll, eqv_flat h.1 h'.1, eqvAll_flat h.2 h'.2] <;> rfl
theorem flat_lay {v : V} (ho : okV v = true) : (dOf v).canLay0 = true ∧ (dOf v).depth ≤ 1 := by
  cases v <;> first | exact absurd ho Bool.false_ne_true | (simp [okV] at ho; simp [dOf, PyData.canLay0, PyData.depth, ho]) | simp [dOf, PyData.canLay0, PyData.depth]
theorem flat_layAll : ∀ {xs : List V}, xs.all okV = true → PyData.canLayAll0 (xs.map dOf) = true ∧ PyData.depthAll (xs.map dOf) ≤ 1
  | [], _ => by simp [PyData.canLayAll0, PyData.depthAll]
  | x :: xs, ho => by
    rw [List.all_cons, Bool.and_eq_true] at ho
    have h := flat_lay (v := x) ho.1
    have h2 := flat_layAll (xs := xs) ho.2
    rw [List.map_cons, PyData.canLayAll0, PyData.depthAll, h.1, h2.1]
    refine ⟨rfl, ?_⟩
    have := h.2
    have := h2.2
    omega
theorem shaped_tup {xs : List V} (ho : xs.all okV = true) : SeqAt.shaped (.tuple (xs.map dOf)) = true := by
  have h := flat_layAll (xs := xs) ho
  have h2 := h.2
  unfold SeqAt.shaped
  rw [PyData.canLay0, PyData.depth, h.1, Bool.true_and, decide_eq_true_eq]
  omega
theorem shaped_lst {xs : List V} (ho : xs.all okV = true) : SeqAt.shaped (.list (xs.map dOf)) = true := by
  have h := flat_layAll (xs := xs) ho
  have h2 := h.2
  unfold SeqAt.shaped
  rw [PyData.canLay0, PyData.depth, h.1, Bool.true_and, decide_eq_true_eq]
  omega
section
variable {K : PySem.W.Frag} {H : Hp} {Q : VK} {p q : Addr} {xs ys : List V}
theorem c_eqT (h : SqT K H p xs) (h' : SqT K H q ys) (f : xs.all okV = true) (f' : ys.all okV = true) (k : Q (.bl (eqL xs ys)) H) : rEqD K (.ref p) (.ref q) H Q :=
  ⟨_, _, .tup h (dpAll_flat (okL_flat f)), .tup h' (dpAll_flat (okL_flat f')), shaped_tup f, shaped_tup f', by rw [PyData.eqv, eqvAll_flat (okL_flat f) (okL_flat f')]; exact k⟩
theorem c_neT (h : SqT K H p xs) (h' : SqT K H q ys) (f : xs.all okV = true) (f' : ys.all okV = true) (k : Q (.bl (!eqL xs ys)) H) : rNeD K (.ref p) (.ref q) H Q :=
  ⟨_, _, .tup h (dpAll_flat (okL_flat f)), .tup h' (dpAll_flat (okL_flat f')), shaped_tup f, shaped_tup f', by rw [PyData.eqv, eqvAll_flat (okL_flat f) (okL_flat f')]; exact k⟩
theorem c_eqLs (h : SqL K H p xs) (h' : SqL K H q ys) (f : xs.all okV = true) (f' : ys.all okV = true) (k : Q (.bl (eqL xs ys)) H) : rEqD K (.ref p) (.ref q) H Q :=
  ⟨_, _, .lst h (dpAll_flat (okL_flat f)), .lst h' (dpAll_flat (okL_flat f')), shaped_lst f, shaped_lst f', by rw [PyData.eqv, eqvAll_flat (okL_flat f) (okL_flat f')]; exact k⟩
theorem c_neLs (h : SqL K H p xs) (h' : SqL K H q ys) (f : xs.all okV = true) (f' : ys.all okV = true) (k : Q (.bl (!eqL xs ys)) H) : rNeD K (.ref p) (.ref q) H Q :=
  ⟨_, _, .lst h (dpAll_flat (okL_flat f)), .lst h' (dpAll_flat (okL_flat f')), shaped_lst f, shaped_lst f', by rw [PyData.eqv, eqvAll_flat (okL_flat f) (okL_flat f')]; exact k⟩
theorem eqV_refl {v : V} (h : flatV v = true) : eqV v v = true := by
  cases v <;> first | exact absurd h Bool.false_ne_true | simp [eqV]
theorem eqL_refl : ∀ {xs : List V}, xs.all flatV = true → eqL xs xs = true
  | [], _ => rfl
  | x :: xs, h => by
    rw [List.all_cons, Bool.and_eq_true] at h
    rw [eqL, eqV_refl h.1, eqL_refl h.2] <;> rfl
end
/-! ### the law's box -/
def BoxAt (H : Hp) (b : Addr) : Prop := ∃ x y z : Int, 0 ≤ x ∧ H b = some (.lst [.int x, .int y, .int z])
/-- all but b is kept -/
def ExB (b : Addr) (H H' : Hp) : Prop := ∀ a o, a ≠ b → H a = some o → H' a = some o
theorem ExB.refl (b : Addr) (H : Hp) : ExB b H H := fun _ _ _ h => h
theorem ExB.trans {b : Addr} {H H1 H2 : Hp} (e : ExB b H H1) (e2 : ExB b H1 H2) : ExB b H H2 := fun a o n h => e2 a o n (e a o n h)
theorem ExB.ex {b : Addr} {H H1 H2 : Hp} (e : ExB b H H1) (e2 : Evl.Ex H1 H2) : ExB b H H2 := fun a o n h => e2 a o (e a o n h)
theorem ExB.of {b : Addr} {H H1 : Hp} (e : Evl.Ex H H1) : ExB b H H1 := fun a o _ h => e a o h
theorem ExB.upd {b : Addr} {H : Hp} {o : HO} : ExB b H (upd H b o) := fun a u n h => by rw [upd_ne n]; exact h
theorem BoxAt.ex {H H' : Hp} {b : Addr} (h : BoxAt H b) (e : Evl.Ex H H') : BoxAt H' b := let ⟨x, y, z, p, q⟩ := h; ⟨x, y, z, p, e _ _ q⟩
/-- what did not stand before b was made is kept through ExB b -/
theorem ExB.tot {b : Addr} {H0 H H' : Hp} (e : Evl.Ex H0 H) (n : H0 b = none) (e2 : ExB b H H') : Evl.Ex H0 H' := fun a o h => e2 a o (ne_of_none h n) (e a o h)
theorem ExB.lst {K : PySem.W.Frag} {b a : Addr} {H H' : Hp} {xs : List V} (e : ExB b H H') (n : a ≠ b) (h : SqL K H a xs) : SqL K H' a xs := by
  rcases h with (h | ⟨o, h⟩) | h
  · exact .inl (.inl (e _ _ n h))
  · exact .inl (.inr ⟨o, e _ _ n h⟩)
  · exact .inr h
end L2
namespace L2
open PySem PySem.Spec PyProof.Rows
theorem shaped_flat {v : V} (h : okV v = true) : SeqAt.shaped (dOf v) = true := by
  have q := flat_lay h
  unfold SeqAt.shaped
  rw [q.1, Bool.true_and, decide_eq_true_eq]
  have := q.2
  omega
theorem c_eqF {K : PySem.W.Frag} {H : Hp} {Q : VK} {x y : V} (f : okV x = true) (f' : okV y = true) (k : Q (.bl (eqV x y)) H) : rEqD K x y H Q :=
  ⟨_, _, dp_flat (okV_flat f), dp_flat (okV_flat f'), shaped_flat f, shaped_flat f', by rw [eqv_flat (okV_flat f) (okV_flat f')]; exact k⟩
theorem c_neF {K : PySem.W.Frag} {H : Hp} {Q : VK} {x y : V} (f : okV x = true) (f' : okV y = true) (k : Q (.bl (!eqV x y)) H) : rNeD K x y H Q :=
  ⟨_, _, dp_flat (okV_flat f), dp_flat (okV_flat f'), shaped_flat f, shaped_flat f', by rw [eqv_flat (okV_flat f) (okV_flat f')]; exact k⟩
end L2
namespace L2
open PySem PySem.Spec PyProof.Rows
theorem dec_s {x y : Str} : decide (V.str x = V.str y) = decide (x = y) := by
  by_cases h : x = y
  · subst h; simp
  · rw [decide_eq_false h, decide_eq_false fun e => h (V.str.inj e)]
theorem str_ne {x y : Str} (h : x ≠ y) : decide (V.str x = V.str y) = false := by rw [dec_s]; exact decide_eq_false h
theorem str_eq {x y : Str} (h : x = y) : decide (V.str x = V.str y) = true := by rw [dec_s]; exact decide_eq_true h
end L2

/-! ### list.count of flat things -/
namespace L2
open PySem PySem.Spec PyProof.Rows
theorem countP_eqU {x : V} : ∀ {xs : List V} {us : List Value}, Vals xs us → xs.all flatV = true → us.countP (eqU x) = xs.countP fun y => eqV y x
  | _, _, .nil, _ => rfl
  | y :: xs, u :: us, .cons r t, h => by
    rw [List.all_cons, Bool.and_eq_true] at h
    rw [List.countP_cons, List.countP_cons, countP_eqU t h.2, eqU_of r h.1]
def rCntF (K : PySem.W.Frag) : V → List V → Hp → VK → Prop := fun x xs H Q => ∃ (p : Addr) (ys : List V) (y : V), x = .ref p ∧ xs = [y] ∧ SqL K H p ys ∧ flatV y = true ∧ ys.all flatV = true ∧ Q (.int ((ys.countP fun z => eqV z y : Nat) : Int)) H
theorem mt_countF {X : Cx} : MtR X "list.count" (rCntF X.K) := by
  intro pins s σ H x xs v us Q I rx rxs h
  obtain ⟨p, ys, y, rfl, rfl, hs, fy, fl, q⟩ := h
  cases rx
  obtain ⟨u, rfl, ru⟩ := rxs.one
  obtain ⟨its, rv, ⟨⟨cls, dd, data, sl⟩, n, ho, hc, hdn, hd⟩, hlen⟩ := I.list hs
  simp only at hc hd
  subst hc hd
  have ec : its.toArray.toList.countP (eqU y) = ys.countP fun z => eqV z y := countP_eqU rv fl
  refine call_meets PySem.F.slot_list_count ⟨_, ho, rfl⟩ PySem.F.entry_list_count (PySem.F.args_list_count_2 _ _)
    (SeqAt.list_countAt p its.toArray n dd sl u (eqU y)) ⟨ho, fun z hz => mem_eqAt ru fy rv fl z (by simpa using hz), ?_⟩
  refine ⟨.int ((ys.countP fun z => eqV z y : Nat) : Int), H, I.tok _, ⟨s.toks, ?_⟩, q⟩
  rw [ec]
end L2

/-! ### a list comprehension whose element and test are told by the turn -/
namespace L2
open PySem PySem.Spec PyProof.Rows
theorem range_fm {f : Nat → Option V} {n : Nat} : (List.range (n + 1)).filterMap f = (List.range n).filterMap f ++ (f n).toList := by
  rw [List.range_succ, List.filterMap_append]
  cases h : f n <;> simp [List.filterMap_cons, h]
theorem fm_len {f : Nat → Option V} {n : Nat} : ((List.range n).filterMap f).length ≤ n := by
  have h := List.length_filterMap_le f (List.range n)
  rw [List.length_range] at h
  exact h
section
variable {K : PySem.W.Frag} {σ : St} {H : Hp} {Q : VK} {g : TG} {tt : TT} {te : TE} {vs : List Nat}
/-- one turn: the target, the test, the element come to f i, all that stood kept -/
def LcTurn (g : TG) (tt : TT) (te : TE) (vs : List Nat) (σ : St) (H : Hp) (x : V) (y : Option V) : Prop :=
  ∀ H2, Evl.Ex H H2 → ∀ R : Option V → Hp → Prop, (∀ H3, Evl.Ex H2 H3 → R y H3) →
    g x (wipe σ vs) H2 fun σ2 H3 => wipe σ2 vs = wipe σ vs ∧ tt σ2 H3 fun b H4 => if b = true then te σ2 H4 fun y H5 => R (some y) H5 else R none H4
theorem lc_of {n : Nat} {D : Addr} {H1 : Hp} {f : Nat → Option V} {i : Nat} {H' : Hp} (hn : n ≤ 50000) (hi : i < n) (p1 : H1 D = none) (p2 : Evl.Ex H1 H') (p3 : H' D = some (.lst ((List.range i).filterMap f))) {x : V} (ht : LcTurn g tt te vs σ H1 x (f i)) :
    g x (wipe σ vs) H' fun σ2 H2 => wipe σ2 vs = wipe σ vs ∧ tt σ2 H2 fun b H3 =>
      if b = true then te σ2 H3 fun y H4 => ∃ acc, H4 D = some (.lst acc) ∧ acc.length < sizeLine ∧ (H1 D = none ∧ Evl.Ex H1 (upd H4 D (.lst (acc ++ [y]))) ∧ upd H4 D (.lst (acc ++ [y])) D = some (.lst ((List.range (i + 1)).filterMap f))) else (H1 D = none ∧ Evl.Ex H1 H3 ∧ H3 D = some (.lst ((List.range (i + 1)).filterMap f))) := by
  refine ht H' p2 (fun o H4 => match o with
    | some y => ∃ acc, H4 D = some (.lst acc) ∧ acc.length < sizeLine ∧ (H1 D = none ∧ Evl.Ex H1 (upd H4 D (.lst (acc ++ [y]))) ∧ upd H4 D (.lst (acc ++ [y])) D = some (.lst ((List.range (i + 1)).filterMap f)))
    | none => (H1 D = none ∧ Evl.Ex H1 H4 ∧ H4 D = some (.lst ((List.range (i + 1)).filterMap f)))) (fun H3 e3 => ?_)
  cases hf : f i with
  | some y =>
    refine ⟨_, e3 _ _ p3, ?_, p1, Evl.Ex.mut (p2.trans e3) p1, ?_⟩
    · have := fm_len (f := f) (n := i)
      exact Evl.sz_lt (by omega)
    · rw [upd_same, range_fm, hf] <;> rfl
  | none =>
    refine ⟨p1, p2.trans e3, ?_⟩
    rw [range_fm, hf]
    show H3 D = some (.lst (_ ++ []))
    rw [List.append_nil]
    exact e3 _ _ p3
end
end L2

/-! ### loops -/
namespace L2
open PySem PySem.Spec PyProof.Rows
/-- a loop over what is walked already -/
def ForI (J : It) (g : TG) (tb : TS) (D : Ends) (σ : St) (H : Hp) : Prop := tFor (fun _ H1 R => R J H1) g tb D σ H
section
variable {K : PySem.W.Frag} {σ : St} {H : Hp} {D : Ends} {g : TG} {tb : TS} {ta : TA} {tl : TE}
theorem c_forR1 (h : ta σ H fun vs H1 => ∃ j : Int, vs = [.int j] ∧ -(2 ^ 62) ≤ j ∧ j < 2 ^ 62 ∧ ForI (Itr 0 j.toNat) g tb D σ H1) : tFor (iRng1 ta) g tb D σ H := h
theorem c_forR2 (h : ta σ H fun vs H1 => ∃ i j : Int, vs = [.int i, .int j] ∧ (-(2 ^ 62) ≤ i ∧ i < 2 ^ 62 ∧ -(2 ^ 62) ≤ j ∧ j < 2 ^ 62) ∧ ForI (Itr i (j - i).toNat) g tb D σ H1) : tFor (iRng2 ta) g tb D σ H := h
theorem c_forL (h : tl σ H fun x H1 => ∃ a, x = .ref a ∧ (∃ xs, SqL K H1 a xs) ∧ ForI (Itl K a) g tb D σ H1) : tFor (iList K tl) g tb D σ H := h
theorem c_forT (h : tl σ H fun x H1 => ∃ a, x = .ref a ∧ (∃ xs, SqT K H1 a xs) ∧ ForI (Itt K a) g tb D σ H1) : tFor (iTup K tl) g tb D σ H := h
/-- range(n), n whole and not below 0 or below it -/
theorem forR {n : Nat} {j : Nat} (Pv : Nat → St → Hp → Prop) (h0 : Pv 0 σ H) (hs : ∀ (i : Nat) σ' H', i < n → Pv i σ' H' → tb { D with nx := Pv (i + 1), ct := Pv (i + 1), bk := D.nx } (σ'.set j (some (.int (i : Int)))) H') (hd : ∀ σ' H', Pv n σ' H' → D.nx σ' H') : ForI (Itr 0 n) (gName j) tb D σ H :=
  for_range (lo := 0) (n := n) Pv h0 (fun i σ' H' hi p => by
    have e0 : (0 : Int) + (i : Int) = (i : Int) := Int.zero_add _
    show tb { D with nx := Pv (i + 1), ct := Pv (i + 1), bk := D.nx } (σ'.set j (some (.int ((0 : Int) + (i : Int))))) H'
    rw [e0]
    exact hs i σ' H' hi p) hd
theorem forL {a : Addr} {xs : List V} {j : Nat} (Pv : Nat → St → Hp → Prop) (h0 : Pv 0 σ H) (hl : ∀ i σ' H', i ≤ xs.length → Pv i σ' H' → SqL K H' a xs)
    (hs : ∀ i x σ' H', xs[i]? = some x → Pv i σ' H' → tb { D with nx := Pv (i + 1), ct := Pv (i + 1), bk := D.nx } (σ'.set j (some x)) H') (hd : ∀ σ' H', Pv xs.length σ' H' → D.nx σ' H') : ForI (Itl K a) (gName j) tb D σ H := for_list Pv h0 hl hs hd
theorem forT {a : Addr} {xs : List V} {j : Nat} (Pv : Nat → St → Hp → Prop) (h0 : Pv 0 σ H) (hl : ∀ i σ' H', i ≤ xs.length → Pv i σ' H' → SqT K H' a xs)
    (hs : ∀ i x σ' H', xs[i]? = some x → Pv i σ' H' → tb { D with nx := Pv (i + 1), ct := Pv (i + 1), bk := D.nx } (σ'.set j (some x)) H') (hd : ∀ σ' H', Pv xs.length σ' H' → D.nx σ' H') : ForI (Itt K a) (gName j) tb D σ H := for_tup Pv h0 hl hs hd
end
/-- a comprehension over what is walked already -/
def LcI (J : It) (g : TG) (tt : TT) (te : TE) (vs : List Nat) (σ : St) (H : Hp) (Q : VK) : Prop := tLc (fun _ H1 R => R J H1) g tt te vs σ H Q
section
variable {K : PySem.W.Frag} {σ : St} {H : Hp} {Q : VK} {g : TG} {tt : TT} {te : TE} {vs : List Nat} {ta : TA} {tl : TE}
theorem c_lcR1 (h : ta σ H fun ws H1 => ∃ j : Int, ws = [.int j] ∧ -(2 ^ 62) ≤ j ∧ j < 2 ^ 62 ∧ LcI (Itr 0 j.toNat) g tt te vs σ H1 Q) : tLc (iRng1 ta) g tt te vs σ H Q := h
theorem c_lcLi (h : tl σ H fun x H1 => ∃ a, x = .ref a ∧ (∃ xs, SqL K H1 a xs) ∧ LcI (Itl K a) g tt te vs σ H1 Q) : tLc (iList K tl) g tt te vs σ H Q := h
theorem c_lcTi (h : tl σ H fun x H1 => ∃ a, x = .ref a ∧ (∃ xs, SqT K H1 a xs) ∧ LcI (Itt K a) g tt te vs σ H1 Q) : tLc (iTup K tl) g tt te vs σ H Q := h
theorem lcL {a : Addr} {xs : List V} (f : Nat → Option V) (hs : SqL K H a xs) (hl : xs.length ≤ 50000) (ht : ∀ (i : Nat) (x : V), xs[i]? = some x → LcTurn g tt te vs σ H x (f i)) (k : RetL ((List.range xs.length).filterMap f) H Q) : LcI (Itl K a) g tt te vs σ H Q := by
  refine fun D hD => ?_
  refine lc_list (xs := xs) (fun i H' => H D = none ∧ Evl.Ex H H' ∧ H' D = some (.lst ((List.range i).filterMap f))) ⟨hD, Evl.Ex.new hD, upd_same⟩ (fun i H' _ p => Evl.ex_l p.2.1 hs) (fun i x H' hi p => ?_) (fun H' p => k D H' p.1 p.2.1 p.2.2)
  exact lc_of hl (List.getElem?_eq_some_iff.mp hi).1 p.1 p.2.1 p.2.2 (ht i x hi)
theorem lcT {a : Addr} {xs : List V} (f : Nat → Option V) (hs : SqT K H a xs) (hl : xs.length ≤ 50000) (ht : ∀ (i : Nat) (x : V), xs[i]? = some x → LcTurn g tt te vs σ H x (f i)) (k : RetL ((List.range xs.length).filterMap f) H Q) : LcI (Itt K a) g tt te vs σ H Q := by
  refine fun D hD => ?_
  refine lc_tup (xs := xs) (fun i H' => H D = none ∧ Evl.Ex H H' ∧ H' D = some (.lst ((List.range i).filterMap f))) ⟨hD, Evl.Ex.new hD, upd_same⟩ (fun i H' _ p => Evl.ex_t p.2.1 hs) (fun i x H' hi p => ?_) (fun H' p => k D H' p.1 p.2.1 p.2.2)
  exact lc_of hl (List.getElem?_eq_some_iff.mp hi).1 p.1 p.2.1 p.2.2 (ht i x hi)
theorem lcR {n : Nat} (f : Nat → Option V) (hl : n ≤ 50000) (ht : ∀ (i : Nat), i < n → LcTurn g tt te vs σ H (.int (i : Int)) (f i)) (k : RetL ((List.range n).filterMap f) H Q) : LcI (Itr 0 n) g tt te vs σ H Q := by
  refine fun D hD => ?_
  refine lc_range (lo := 0) (n := n) (fun i H' => H D = none ∧ Evl.Ex H H' ∧ H' D = some (.lst ((List.range i).filterMap f))) ⟨hD, Evl.Ex.new hD, upd_same⟩ (fun i H' hi p => ?_) (fun H' p => k D H' p.1 p.2.1 p.2.2)
  have e0 : (0 : Int) + (i : Int) = (i : Int) := Int.zero_add _
  rw [e0]
  exact lc_of hl hi p.1 p.2.1 p.2.2 (ht i hi)
end
end L2

/-! ### texts -/
namespace L2
open PySem PySem.Spec PyProof.Rows
open TL (tl)
/-- x is b, x is not b, b True or False, x a flat thing -/
def rIsV : R2 := fun x y H Q => ∃ b : Bool, y = .bl b ∧ Q (.bl (decide (x = .bl b))) H
def rNotV : R2 := fun x y H Q => ∃ b : Bool, y = .bl b ∧ Q (.bl (!decide (x = .bl b))) H
section
variable {X : Cx}
theorem isV_plain {x : V} {v : Value} {b : Bool} (rx : RelV x v) : plainIs v (.bool b) = true ∧ (v == Value.bool b) = decide (x = .bl b) := by
  cases x with
  | non => cases (show v = Value.none from rx); exact ⟨rfl, rfl⟩
  | bl c =>
    cases (show v = Value.bool c from rx)
    refine ⟨rfl, ?_⟩
    cases c <;> cases b <;> rfl
  | int i => obtain ⟨t, e⟩ := (show ∃ t, v = Value.int i t from rx); cases e; exact ⟨rfl, rfl⟩
  | str z => obtain ⟨t, e⟩ := (show ∃ t, v = Value.str z t from rx); cases e; exact ⟨rfl, rfl⟩
  | byt z => obtain ⟨t, e⟩ := (show ∃ t, v = Value.bytes z t from rx); cases e; exact ⟨rfl, rfl⟩
  | flt z => obtain ⟨t, e⟩ := (show ∃ t, v = Value.float z t from rx); cases e; exact ⟨rfl, rfl⟩
  | ref a => cases (show v = Value.ref a from rx); exact ⟨rfl, rfl⟩
  | ty n => cases (show v = Value.type n from rx); exact ⟨rfl, rfl⟩
theorem op_isB : OpR X (compareOp .Is) rIsV := by
  intro pins s σ H x y v u Q I rx ry h
  obtain ⟨b, rfl, q⟩ := h
  cases (show u = Value.bool b from ry)
  have z := isV_plain (b := b) rx
  refine wpAny_is_plain z.1 ?_
  rw [z.2]
  exact ⟨.bl _, H, I, rfl, q⟩
theorem op_notB : OpR X (compareOp .IsNot) rNotV := by
  intro pins s σ H x y v u Q I rx ry h
  obtain ⟨b, rfl, q⟩ := h
  cases (show u = Value.bool b from ry)
  have z := isV_plain (b := b) rx
  refine wpAny_isNot_plain z.1 ?_
  rw [z.2]
  exact ⟨.bl _, H, I, rfl, q⟩
end
/-- s * n, n two at least -/
def repS (x : Str) (n : Nat) : Str := ⟨(List.replicate n x.cps).foldl (· ++ ·) #[]⟩
theorem rep_size (a : Array Nat) : ∀ (n : Nat) (acc : Array Nat), ((List.replicate n a).foldl (· ++ ·) acc).size = acc.size + n * a.size
  | 0, acc => by simp
  | n + 1, acc => by
    rw [List.replicate_succ, List.foldl_cons, rep_size a n, Array.size_append, Nat.succ_mul]
    omega
theorem repS_len (x : Str) (n : Nat) : (repS x n).length = n * x.length := by
  show ((List.replicate n x.cps).foldl (· ++ ·) #[]).size = _
  rw [rep_size]
  simp [Str.length]
section
variable {X : Cx}
theorem op_rep_str : OpR X (binaryOp .Mult) (fun x y H Q => ∃ (z : Str) (n : Int), x = .str z ∧ y = .int n ∧ 2 ≤ n ∧ n ≤ 100000 ∧ 0 < z.length ∧ z.length ≤ 100 ∧ Q (.str (repS z n.toNat)) H) := by
  intro pins s σ H x y v u Q I rx ry h
  obtain ⟨z, n, rfl, rfl, h2, h1, z0, z1, q⟩ := h
  obtain ⟨t, rfl⟩ := rx
  obtain ⟨t', rfl⟩ := ry
  have hs : sizeLine = 16777216 := sizeLine_eq
  have hp : z.length * n.toNat ≤ 100 * 100000 := Nat.mul_le_mul z1 (by omega)
  refine PySem.P.mul_str ?_ (fun _ _ => ?_) (fun _ _ => ?_) ?_
  · rw [decide_eq_false (by omega), decide_eq_false (by omega)]; rfl
  · have : (100 : Int) ≤ (2 ^ 63 - 1) / n := by
      rw [Int.le_ediv_iff_mul_le (by omega)]
      omega
    omega
  · unfold Builtin.Str.tooLong
    rw [decide_eq_false (by omega)]
  · rw [if_neg (by omega), if_neg (by
      rw [Bool.or_eq_true, beq_iff_eq, beq_iff_eq]
      omega)]
    refine ⟨?_, .str (repS z n.toNat), H, I.tok _, ⟨_, rfl⟩, q⟩
    have e := repS_len z n.toNat
    rw [Nat.mul_comm] at e
    show (repS z n.toNat).length ≤ sizeLine
    omega
end
/-! loops over a text -/
section
variable {K : PySem.W.Frag} {σ : St} {H : Hp} {D : Ends} {Q : VK} {g : TG} {tb : TS} {tl' : TE} {tt : TT} {te : TE} {vs : List Nat}
theorem c_forS (h : tl' σ H fun v H1 => ∃ x, v = .str x ∧ ForI (Its x) g tb D σ H1) : tFor (iStr tl') g tb D σ H := h
theorem c_lcSi (h : tl' σ H fun v H1 => ∃ x, v = .str x ∧ LcI (Its x) g tt te vs σ H1 Q) : tLc (iStr tl') g tt te vs σ H Q := h
theorem tl_get {x : Str} {i c : Nat} : x.cps[i]? = some c ↔ (tl x)[i]? = some c := by
  show _ ↔ x.cps.toList[i]? = some c
  rw [Array.getElem?_toList]
theorem tl_len (x : Str) : (tl x).length = x.length := by simp [tl, Str.length]
theorem forS {x : Str} {j : Nat} (Pv : Nat → St → Hp → Prop) (h0 : Pv 0 σ H)
    (hs : ∀ i c σ' H', (tl x)[i]? = some c → Pv i σ' H' → tb { D with nx := Pv (i + 1), ct := Pv (i + 1), bk := D.nx } (σ'.set j (some (.str ⟨#[c]⟩))) H') (hd : ∀ σ' H', Pv (tl x).length σ' H' → D.nx σ' H') : ForI (Its x) (gName j) tb D σ H :=
  for_it walk_str Pv h0 (fun _ _ _ _ _ => trivial) (fun i v σ' H' H'' hi p y => by
    obtain ⟨rfl, c, hc, rfl⟩ := y
    exact hs i c σ' H'' (tl_get.mp hc) p) (by
    have e : x.cps.size = (tl x).length := by simp [tl]
    rw [e]
    exact hd)
theorem fm_range {α : Type} {F : α → Option V} : ∀ {l : List α}, (List.range l.length).filterMap (fun i => (l[i]?).bind F) = l.filterMap F
  | [] => rfl
  | a :: l => by
    rw [List.length_cons, List.range_succ_eq_map, List.filterMap_cons, List.filterMap_map, List.filterMap_cons]
    have ih := fm_range (F := F) (l := l)
    rw [List.getElem?_cons_zero, Option.bind_some]
    have e : ((fun i => ((a :: l)[i]?).bind F) ∘ Nat.succ) = fun i => (l[i]?).bind F := by
      funext i
      simp
    rw [e, ih] <;> rfl
theorem lcS {x : Str} (F : Nat → Option V) (hl : x.length ≤ 50000) (ht : ∀ c, c ∈ tl x → LcTurn g tt te vs σ H (.str ⟨#[c]⟩) (F c)) (k : RetL ((tl x).filterMap F) H Q) : LcI (Its x) g tt te vs σ H Q := by
  refine fun D hD => ?_
  have e : x.cps.size = (tl x).length := by simp [tl]
  refine lc_it walk_str (fun i H' => H D = none ∧ Evl.Ex H H' ∧ H' D = some (.lst ((List.range i).filterMap fun i => ((tl x)[i]?).bind F))) ⟨hD, Evl.Ex.new hD, upd_same⟩ (fun _ _ _ _ => trivial) (fun i v H' H'' hi p y => ?_) (fun H' p => k D H' p.1 p.2.1 ?_)
  · obtain ⟨rfl, c, hc, rfl⟩ := y
    have hc2 := tl_get.mp hc
    refine lc_of (n := x.cps.size) (f := fun i => ((tl x)[i]?).bind F) hl hi p.1 p.2.1 p.2.2 ?_
    rw [hc2]
    exact ht c (List.mem_of_getElem? hc2)
  · have q := p.2.2
    rw [e, fm_range] at q
    exact q
/-- the same of a list, by what its things are -/
theorem lcLv {a : Addr} {xs : List V} (F : V → Option V) (hs : SqL K H a xs) (hl : xs.length ≤ 50000) (ht : ∀ x, x ∈ xs → LcTurn g tt te vs σ H x (F x)) (k : RetL (xs.filterMap F) H Q) : LcI (Itl K a) g tt te vs σ H Q := by
  refine lcL (fun i => (xs[i]?).bind F) hs hl (fun i x hi => ?_) ?_
  · rw [hi]
    exact ht x (List.mem_of_getElem? hi)
  · rw [fm_range]
    exact k
end
theorem fm_some {α : Type} {F : α → V} : ∀ (l : List α), l.filterMap (fun c => some (F c)) = l.map F
  | [] => rfl
  | a :: l => by rw [List.filterMap_cons, List.map_cons, fm_some l]
theorem tl_ext {x y : Str} : x = y ↔ tl x = tl y := ⟨fun h => by rw [h], TL.ext_tl⟩
theorem starts_is (x y : Str) : Txt.startswith x y = ((tl x).take (tl y).length == tl y) := by
  unfold Txt.startswith
  rw [StrLaws.subAt_eq]
  show (decide (0 + y.length ≤ x.length) && (((tl x).drop 0).take y.length == tl y)) = _
  rw [List.drop_zero, tl_len]
  cases h : (List.take y.length (tl x) == tl y) with
  | false => rw [Bool.and_false]
  | true =>
    rw [Bool.and_true, decide_eq_true_eq]
    have e := congrArg List.length (beq_iff_eq.mp h)
    rw [List.length_take, tl_len, tl_len] at e
    omega
theorem tl_cut (z : Str) (lo hi : Option Int) : tl (cutS z lo hi) = ((tl z).drop (HT.sIx z.length 0 lo)).take (HT.sIx z.length z.length hi - HT.sIx z.length 0 lo) := rfl
theorem tl_one (c : Nat) : tl ⟨#[c]⟩ = [c] := rfl
end L2
namespace L2
open PySem PySem.Spec PyProof.Rows
open TL (tl)
theorem c_ixS {H : Hp} {Q : VK} {z : Str} {i : Int} {c : Nat} (hz : z.length ≤ 100000) (ha : atI (tl z) i = some c) (q : Q (.str ⟨#[c]⟩) H) : rIxS (.str z) (.int i) H Q := ⟨z, i, c, rfl, rfl, Evl.sz_of hz, ha, q⟩
theorem c_slS {H : Hp} {Q : VK} {z : Str} {lo hi : Option Int} (hz : z.length ≤ 100000) (q : Q (.str (cutS z lo hi)) H) : rSlS (.str z) lo hi H Q := ⟨z, rfl, Evl.sz_of hz, q⟩
theorem sIx_le' (n d : Nat) (hd : d ≤ n) (o : Option Int) : HT.sIx n d o ≤ n := HT.sIx_le n d hd o
theorem add_len (a b : Str) : (a ++ b).length = a.length + b.length := by
  rw [← tl_len, TL.tl_append, List.length_append, tl_len, tl_len]
end L2
namespace L2
open PySem PySem.Spec PyProof.Rows
open TL (tl)
/-- a text whose signs lie within the line -/
def OkT (t : Str) : Prop := ∀ c, c ∈ tl t → c < 1114112
theorem okT_V {t : Str} (h : OkT t) : okV (.str t) = true := by
  show PyData.strOk t = true
  unfold PyData.strOk
  rw [Array.all_eq_true']
  intro c hc
  exact decide_eq_true (h c (Array.mem_toList_iff.mpr hc))
theorem okT_one {c : Nat} (h : c < 1114112) : okV (.str ⟨#[c]⟩) = true := okT_V fun d hd => by
  have : d = c := by simpa [tl] using hd
  omega
theorem OkT.app {a b : Str} (ha : OkT a) (hb : OkT b) : OkT (a ++ b) := fun c hc => by
  rw [TL.tl_append] at hc
  rcases List.mem_append.mp hc with h | h
  · exact ha c h
  · exact hb c h
theorem OkT.cut {a : Str} (ha : OkT a) (lo hi : Option Int) : OkT (cutS a lo hi) := fun c hc => ha c (List.mem_of_mem_drop (List.mem_of_mem_take hc))
theorem OkT.lit {t : Str} (h : (tl t).all (fun c => decide (c < 1114112)) = true) : OkT t := fun c hc => of_decide_eq_true (List.all_eq_true.mp h c hc)
end L2

/-! ### draws within a comprehension; joined texts -/
namespace L2
open PySem PySem.Spec PyProof.Rows
open TL (tl)
section
variable {K : PySem.W.Frag} {σ : St} {H : Hp} {Q : VK} {g : TG} {tt : TT} {te : TE} {vs : List Nat}
theorem BoxAt.some {H : Hp} {b : Addr} (h : BoxAt H b) : ∃ o, H b = Option.some o := let ⟨_, _, _, _, q⟩ := h; ⟨_, q⟩
theorem lcRB {n : Nat} {b : Addr} (good : V → Prop) (hn : n ≤ 1000) (hB : BoxAt H b)
    (ht : ∀ (i : Nat), i < n → ∀ H2, BoxAt H2 b → ExB b H H2 → ∀ (R : V → Hp → Prop) (N : Hp → Prop), (∀ y H3, good y → BoxAt H3 b → ExB b H2 H3 → R y H3) →
      g (.int (i : Int)) (wipe σ vs) H2 fun σ2 H3 => wipe σ2 vs = wipe σ vs ∧ tt σ2 H3 fun c H4 => if c = true then te σ2 H4 fun y H5 => R y H5 else N H4)
    (k : ∀ ys p H2, ys.length = n → (∀ y ∈ ys, good y) → H p = none → ExB b H H2 → BoxAt H2 b → H2 p = some (.lst ys) → Q (.ref p) H2) : LcI (Itr 0 n) g tt te vs σ H Q := by
  refine fun D hD => ?_
  obtain ⟨ob, hob⟩ := hB.some
  have nDb : D ≠ b := (ne_of_none hob hD).symm
  have bx : ∀ {G : Hp} {o : HO}, BoxAt G b → BoxAt (upd G D o) b := fun ⟨x, y, z, p, q⟩ => ⟨x, y, z, p, by rw [upd_ne nDb.symm]; exact q⟩
  have ex : ∀ {G : Hp} {o : HO}, ExB b H G → ExB b H (upd G D o) := fun e a u na ha => by rw [upd_ne (ne_of_none ha hD)]; exact e a u na ha
  refine lc_range (lo := 0) (n := n) (fun i H' => i ≤ n ∧ ExB b H H' ∧ BoxAt H' b ∧ ∃ ys, ys.length = i ∧ (∀ y ∈ ys, good y) ∧ H' D = some (.lst ys)) ⟨Nat.zero_le _, ex (ExB.refl _ _), bx hB, [], rfl, (fun _ h => by cases h), upd_same⟩ (fun i H' hi p => ?_) (fun H' p => ?_)
  · obtain ⟨_, e1, b1, ys, hl, hg, hy⟩ := p
    have e0 : (0 : Int) + (i : Int) = (i : Int) := Int.zero_add _
    rw [e0]
    refine ht i hi H' b1 e1 (fun y H4 => ∃ acc, H4 D = some (.lst acc) ∧ acc.length < sizeLine ∧ (i + 1 ≤ n ∧ ExB b H (upd H4 D (.lst (acc ++ [y]))) ∧ BoxAt (upd H4 D (.lst (acc ++ [y]))) b ∧ ∃ zs, zs.length = i + 1 ∧ (∀ y ∈ zs, good y) ∧ upd H4 D (.lst (acc ++ [y])) D = some (.lst zs))) _ (fun y H3 gy b3 e3 => ?_)
    refine ⟨ys, e3 D _ nDb hy, Evl.sz_lt (by omega), hi, ex (e1.trans e3), bx b3, ys ++ [y], by rw [List.length_append, hl]; rfl, fun z hz => ?_, upd_same⟩
    rcases List.mem_append.mp hz with h | h
    · exact hg z h
    · have : z = y := by simpa using h
      rw [this]
      exact gy
  · obtain ⟨_, e1, b1, ys, hl, hg, hy⟩ := p
    exact k ys D H' hl hg hD e1 b1 hy
end
theorem strs_of {P : Str → Prop} : ∀ {l : List V}, (∀ y ∈ l, ∃ s, y = .str s ∧ P s) → ∃ ss : List Str, l = ss.map V.str ∧ ∀ s ∈ ss, P s
  | [], _ => ⟨[], rfl, fun _ h => by cases h⟩
  | y :: l, h => by
    obtain ⟨s, rfl, hs⟩ := h y List.mem_cons_self
    obtain ⟨ss, rfl, hss⟩ := strs_of fun z hz => h z (List.mem_cons_of_mem _ hz)
    exact ⟨s :: ss, rfl, fun z hz => (List.mem_cons.mp hz).elim (fun e => e ▸ hs) (hss z)⟩
theorem joinL_in {S : List Nat} : ∀ {ps : List (List Nat)} {c : Nat}, c ∈ TL.joinL S ps → c ∈ S ∨ ∃ p ∈ ps, c ∈ p
  | [], c, h => by cases h
  | [p], c, h => .inr ⟨p, List.mem_cons_self, h⟩
  | p :: q :: ps, c, h => by
    have h' : c ∈ p ++ S ++ TL.joinL S (q :: ps) := by first | exact h | simpa [TL.joinL] using h
    rcases List.mem_append.mp h' with h | h
    · rcases List.mem_append.mp h with h | h
      · exact .inr ⟨p, List.mem_cons_self, h⟩
      · exact .inl h
    · rcases joinL_in h with h | ⟨r, hr, hc⟩
      · exact .inl h
      · exact .inr ⟨r, List.mem_cons_of_mem _ hr, hc⟩
theorem joinL_len {S : List Nat} {m : Nat} : ∀ {ps : List (List Nat)}, (∀ p ∈ ps, p.length ≤ m) → (TL.joinL S ps).length ≤ ps.length * (m + S.length)
  | [], _ => by simp [TL.joinL]
  | [p], h => by
    have := h p List.mem_cons_self
    show p.length ≤ _
    simp
    omega
  | p :: q :: ps, h => by
    have h1 := h p List.mem_cons_self
    have ih := joinL_len (S := S) (ps := q :: ps) fun r hr => h r (List.mem_cons_of_mem _ hr)
    have e : TL.joinL S (p :: q :: ps) = p ++ S ++ TL.joinL S (q :: ps) := by first | rfl | simp [TL.joinL]
    rw [e, List.length_append, List.length_append, List.length_cons, Nat.succ_mul]
    omega
theorem join_ok {sep : Str} {ss : List Str} {m : Nat} (ho : OkT sep) (hs : ∀ s ∈ ss, OkT s ∧ s.length ≤ m) : OkT (Txt.join sep ss) ∧ (Txt.join sep ss).length ≤ ss.length * (m + sep.length) := by
  rw [TL.join_eq]
  constructor
  · intro c hc
    rw [TL.tl_join] at hc
    rcases joinL_in hc with h | ⟨p, hp, h⟩
    · exact ho c h
    · obtain ⟨s, hs', rfl⟩ := List.mem_map.mp hp
      exact (hs s hs').1 c h
  · rw [← tl_len, TL.tl_join, ← tl_len sep]
    have := joinL_len (S := tl sep) (m := m) (ps := ss.map tl) fun p hp => by
      obtain ⟨s, hs', rfl⟩ := List.mem_map.mp hp
      rw [tl_len]
      exact (hs s hs').2
    rw [List.length_map] at this
    exact this
theorem sum_len {ss : List Str} {m : Nat} (h : ∀ s ∈ ss, s.length ≤ m) : (ss.map (·.length)).sum ≤ ss.length * m := by
  induction ss with
  | nil => simp
  | cons a l ih =>
    rw [List.map_cons, List.sum_cons, List.length_cons, Nat.succ_mul]
    have := h a List.mem_cons_self
    have := ih fun s hs => h s (List.mem_cons_of_mem _ hs)
    omega
end L2
namespace L2
open PySem PySem.Spec PyProof.Rows
theorem forLg {K : PySem.W.Frag} {σ : St} {H : Hp} {D : Ends} {g : TG} {tb : TS} {a : Addr} {xs : List V} (Pv : Nat → St → Hp → Prop) (h0 : Pv 0 σ H) (hl : ∀ i σ' H', i ≤ xs.length → Pv i σ' H' → SqL K H' a xs)
    (hs : ∀ i x σ' H', xs[i]? = some x → Pv i σ' H' → g x σ' H' fun σ2 H2 => tb { D with nx := Pv (i + 1), ct := Pv (i + 1), bk := D.nx } σ2 H2) (hd : ∀ σ' H', Pv xs.length σ' H' → D.nx σ' H') : ForI (Itl K a) g tb D σ H := for_list Pv h0 hl hs hd
theorem hu65 {A : Around} {k : Nat} (hr : Room k A) : A.units + 65 < cLine := by have := hr.un; omega
end L2

/-! ### own errors: made, held as values, read, asked for their class -/
namespace L2
open PySem PySem.Spec PyProof.Rows
def cBody (st : Stmt) : List Stmt := match st with
  | .ClassDef (body := l) .. => l
  | _ => []
/-- the class at C is an own error class over ValueError -/
def xcB (K : PySem.W.Frag) (C : Addr) : Bool := match K.lookup C with
  | some ⟨.type "type", _, .cls cd, sl⟩ => (match cd.mro, sl.toList with
    | .ref D :: bm, [_, _, _, _, some (.builtin n), _] => (D == C && n == "ValueError.__new__") && ((!cd.hasDel && cd.hasDict) && PySem.HandSPX.refsVE bm)
    | _, _ => false)
  | _ => false
def oxB (K : PySem.W.Frag) (C : Addr) : Bool :=
  (xcB K C && PySem.W.keepIn K (.ref C)) && (decide (PySem.W.findIn K (.ref C) "__setattr__" = some (some (.builtin "object.__setattr__"))) && decide (PySem.W.typeIn K (.ref C) = some (.type "type")))
def icB (K : PySem.W.Frag) (C : Addr) : Bool :=
  ((PySem.W.clsIn K C).isSome && xfB K C) && ((decide (PySem.W.findIn K (.ref C) "__class__" = some (some (.builtin "object.__class__"))) && decide (PySem.W.specialIn K (.builtin "object.__class__") "__get__" = some (some (.builtin "getset_descriptor.__get__")))) &&
    (decide (PySem.W.takesIn K (.builtin "object.__class__") = some true) && decide (PySem.W.mroIn K C (.type "object") = some true)))
def exB (K : PySem.W.Frag) (C : Addr) (fs : List Str) : Bool := (oxB K C && icB K C) && fs.all fun f => decide (PySem.W.findIn K (.ref C) f = some none)
structure IcC (K : PySem.W.Frag) (C : Addr) : Prop where
  cl : (PySem.W.clsIn K C).isSome = true
  xf : XfC K C
  ha : PySem.W.findIn K (.ref C) "__class__" = some (some (.builtin "object.__class__"))
  hn : PySem.W.specialIn K (.builtin "object.__class__") "__get__" = some (some (.builtin "getset_descriptor.__get__"))
  ht : PySem.W.takesIn K (.builtin "object.__class__") = some true
  hm : PySem.W.mroIn K C (.type "object") = some true
theorem icB_ok {K : PySem.W.Frag} {C : Addr} (h : icB K C = true) : IcC K C := by
  unfold icB at h
  simp only [Bool.and_eq_true, decide_eq_true_eq] at h
  obtain ⟨⟨h1, h2⟩, ⟨h3, h4⟩, h5, h6⟩ := h
  exact ⟨h1, xfB_ok h2, h3, h4, h5, h6⟩
structure ExF (K : PySem.W.Frag) (C : Addr) (fs : List Str) : Prop where
  ox : OexC K C
  ic : IcC K C
  no : ∀ f ∈ fs, PySem.W.findIn K (.ref C) f = some none
theorem exB_ok {K : PySem.W.Frag} {C : Addr} {fs : List Str} (h : exB K C fs = true) : ExF K C fs := by
  unfold exB at h
  rw [Bool.and_eq_true, Bool.and_eq_true] at h
  obtain ⟨⟨h1, h2⟩, h3⟩ := h
  have I := icB_ok h2
  refine ⟨?_, I, fun f hf => of_decide_eq_true (List.all_eq_true.mp h3 f hf)⟩
  unfold oxB at h1
  simp only [Bool.and_eq_true, decide_eq_true_eq] at h1
  obtain ⟨⟨q, hk⟩, hs, ht⟩ := h1
  refine ⟨?_, hs, I.xf.exC, ht, hk⟩
  unfold xcB at q
  split at q
  · rename_i dd cd sl ho
    split at q
    · rename_i D bm m0 m1 m2 m3 n m5 hm hl
      simp only [Bool.and_eq_true, beq_iff_eq, Bool.not_eq_true'] at q
      obtain ⟨⟨rfl, rfl⟩, ⟨hdel, hdct⟩, hr⟩ := q
      obtain ⟨nm, bs, mro, ns, qn, hd, sn, sub, ab, col, del⟩ := cd
      dsimp only at hm hdel hdct
      subst hm hdel hdct
      have e : sl = #[m0, m1, m2, m3, some (.builtin "ValueError.__new__"), m5] := by
        obtain ⟨l⟩ := sl
        simp only at hl
        rw [hl]
      subst e
      exact ⟨nm, qn, ns, bs, bm, sn, sub, ab, col, dd, m0, m1, m2, m3, m5, ho, hr⟩
    · cases q
  · cases q
/-- the class at B over which they stand -/
structure BaseC (K : PySem.W.Frag) (B : Addr) : Prop where
  rd : PySem.W.readsIn K B (.type "type") = true
  ga : PySem.W.specialIn K (.ref B) "__getattribute__" = some (some (.builtin "type.__getattribute__"))
  at_ : PySem.W.findCls K (.ref B) (.type "type") "__init__" = some (.val (.builtin "ValueError.__init__"))
def baseB (K : PySem.W.Frag) (B : Addr) : Bool := PySem.W.readsIn K B (.type "type") && (decide (PySem.W.specialIn K (.ref B) "__getattribute__" = some (some (.builtin "type.__getattribute__"))) && (match PySem.W.findCls K (.ref B) (.type "type") "__init__" with | some (.val (.builtin n)) => n == "ValueError.__init__" | _ => false))
theorem baseB_ok {K : PySem.W.Frag} {B : Addr} (h : baseB K B = true) : BaseC K B := by
  unfold baseB at h
  simp only [Bool.and_eq_true, decide_eq_true_eq] at h
  obtain ⟨h1, h2, h3⟩ := h
  split at h3
  · rename_i n e
    rw [beq_iff_eq] at h3
    subst h3
    exact ⟨h1, h2, e⟩
  · cases h3
section
variable {X : Cx} {a1 : Expr} {ar : List Expr} {ta : TA} {x : Str} {q1 q2 qc : Pos} {B : Addr}
theorem pe_binit {pl : Sem Bool} (hg : Gl X x) (hm : X.mg x = some (.ref B)) (T : BaseC X.K B) (ha : PA X (a1 :: ar) ta)
    (hcal : eval (.Call (.Attribute (.Name x q1) "__init__" q2) (a1 :: ar) [] qc) X.env = (eval (.Name x q1) X.env >>= fun ov => standAt q2.atName >>= fun _ => holding [ov] (getMethod ov "__init__" pl) >>= fun r => callWith qc r.1 r.2 (backTo qc (starEach (a1 :: ar) X.env)) (backToKw qc (keywordEach [] X.env))) := by rfl)
    (hst : starEach (a1 :: ar) X.env = (false, eval a1 X.env) :: starEach ar X.env := by rfl) (hps : (backTo qc (starEach ar X.env)).any (·.1) = false := by rfl) (hdb : (x == ("__debug__" : Str)) = false := by decide) :
    PE X (.Call (.Attribute (.Name x q1) "__init__" q2) (a1 :: ar) [] qc) (tVeI X.K ta) := by
  refine ⟨fun pins s σ H Q I h => ?_⟩
  refine PySem.W.methodCall_KW (ld_glob I hg hm ?_ hdb) hcal
  refine PySem.W.method_cls I.kIn T.ga (PySem.W.cls_value I.kIn T.rd T.at_ (by decide +kernel) ?_)
  show wpAny _ _ (callWith qc (Value.builtin "ValueError.__init__") [] (backTo qc (starEach (a1 :: ar) X.env)) []) _ _ _
  refine PyProof.Rows.callWith_method1 (thn (ha.run qc pins _ σ H _ (I.tok _) h) fun us s1 hh => ?_) hst hps
  obtain ⟨vs, H1, I1, r1, a, C, ws, ev, hl, OC, ea, q⟩ := hh
  subst ev
  cases r1 with
  | @cons _ u0 _ ur ra rr =>
    obtain rfl : u0 = Value.ref a := ra
    exact oinit_ok OC I1 ea (by rw [← Paired.length rr, sizeLine_eq]; omega) fun s' J => ⟨.non, H1, J, rfl, q⟩
/-- C(e, ..) as a value, its own __init__ keeping sp -/
def tMkV (C : Addr) (sp : Sp) (ta : TA) : TE := fun σ H Q => ta σ H fun vs H1 => vs.length ≤ 1000 ∧ ∀ a, H1 a = none → sp (.ref a :: vs) (upd H1 a (exo a C none)) (fun v H2 => v = .non ∧ Q (.ref a) H2) (fun _ _ _ => False)
theorem pe_mkv {CX : CXT} {C fI : Addr} {k : Nat} {fd : FuncData} {ps : List Str} {sp : Sp} (T : OexC X.K C) (iC : PySem.W.findIn X.K (.ref C) "__init__" = some (some (.ref fI))) (tI : PySem.W.typeIn X.K (.ref fI) = some (.type "function"))
    (F1 : FnOk X.prog X.w X.K X.mg X.base CX k fI fd ps sp) (hr : Room (k + 1) X.A) (hb : Binds X.K fd ps []) (hx : Passes CX X (fun _ _ _ => False)) (hg : Gl X x) (hm : X.mg x = some (.ref C)) (ha : PA X (a1 :: ar) ta)
    (hdb : (x == ("__debug__" : Str)) = false := by decide) (hst : starEach (a1 :: ar) X.env = (false, eval a1 X.env) :: starEach ar X.env := by rfl) (hps : (backTo qc (starEach ar X.env)).any (·.1) = false := by rfl) :
    PE X (.Call (.Name x q1) (a1 :: ar) [] qc) (tMkV C sp ta) := by
  refine ⟨fun pins s σ H Q I h => ?_⟩
  obtain ⟨nm, q, N, bs, bm, sn, sub, ab, col, dd, k0, k1, k2, k3, k5, hC, hbm⟩ := T.cls
  refine wpAny_Call_Name_kw (ld_glob I hg hm ?_ hdb)
  refine PySem.W.callWith_K (h₀ := X.base) I.ok.mod.kin T.kC (thn (ha.run qc pins s σ H _ I h) fun us s1 hh => ?_) hst hps
  obtain ⟨vs, H1, I1, r1, hz, qq⟩ := hh
  refine ⟨I1.kIn, ?_⟩
  show wpAny _ _ (call (.ref C) us) _ _ _
  obtain ⟨hp, g, dr, tk, os⟩ := s1
  have le1 : hp.objs.size ≤ hp.objs.size + 1 := Nat.le_succ _
  have hn : H1 (hp.objs.size + 1) = none := I1.hok.fresh le1
  have hq := qq (hp.objs.size + 1) hn
  have kep : ∀ b o, hp.get? b = some o → ((hp.push (PySem.W.kdv_tup us)).push (PySem.HandSPX.excO C hp.objs.size)).get? b = some o := fun b o z => Heap.get?_push_of_some _ (Heap.get?_push_of_some _ z)
  have hget : ((hp.push (PySem.W.kdv_tup us)).push (PySem.HandSPX.excO C hp.objs.size)).get? (hp.objs.size + 1) = some (PySem.HandSPX.excO C hp.objs.size) := by heap_get
  have J2 : Inv X pins σ (upd H1 (hp.objs.size + 1) (exo (hp.objs.size + 1) C none)) ⟨(hp.push (PySem.W.kdv_tup us)).push (PySem.HandSPX.excO C hp.objs.size), g, dr, tk, os⟩ :=
    I1.laid (t' := tk) (a := hp.objs.size + 1) (o := exo (hp.objs.size + 1) C none) (h' := (hp.push (PySem.W.kdv_tup us)).push (PySem.HandSPX.excO C hp.objs.size)) kep le1 (exo_ok hget)
  have rv2 : Vals (V.ref (hp.objs.size + 1) :: vs) (Value.ref (hp.objs.size + 1) :: us) := .cons rfl r1
  have hlen : (Value.ref (hp.objs.size + 1) :: us ++ []).length = ps.length := by
    have z := rv2.length
    rw [F1.len _ _ _ _ hq] at z
    rw [List.append_nil]
    exact z.symm
  have hus : us.length ≤ sizeLine := by
    rw [← Paired.length r1, sizeLine_eq]
    omega
  refine wpAny_call (PySem.HandSPX.call_own F.excBase_ValueError (fun Y => PySem.HandSPX.refsVE_contains Y bm hbm) (I1.kIn _ _ hC) (PySem.W.looks_findIn I1.kIn iC) (fun self => PySem.W.bind_fn I1.kIn self tI) hus ?_)
  have hbb := hb _ (Value.ref (hp.objs.size + 1) :: us) J2.kIn hlen
  rw [List.append_nil] at hbb
  refine codeAny_mono (F1.run _ X.stack _ _ ⟨Value.ref (hp.objs.size + 1) :: us, []⟩ (Value.ref (hp.objs.size + 1) :: us) _ _ (fun _ _ _ => False) (hr.make C us []) (J2.env0.make C us []) hbb rv2 hq) fun r s' hq' => ?_
  cases r with
  | error er => exact hx pins σ _ _ er s' J2 hq'
  | ok fl =>
    cases fl with
    | ret u =>
      obtain ⟨v, H2, os2, bare2, un2, hok2, rv, ev, q2⟩ := hq'
      subst ev
      exact ⟨rv, .ref _, H2, J2.call' (ch := []) os2 un2 hok2 bare2 (fun b z => absurd z (by simp)), rfl, q2⟩
    | next => exact False.elim hq'
    | brk => exact False.elim hq'
    | cont => exact False.elim hq'
/-- an error of the class at D stands at a -/
def ErrAt (H : Hp) (a D : Addr) : Prop := (∃ (d : Addr) (fs : List (Str × V)), H a = some (exo a D (some d)) ∧ H d = some (exd d fs)) ∨ H a = some (ExO (.ref D) a)
theorem err_inst {pins : List (Addr × Obj)} {σ : St} {H : Hp} {s : Shared} {a D : Addr} (I : Inv X pins σ H s) (h : ErrAt H a D) : ∃ ox od, PySem.W.InstAt s.heap a ox D od := by
  rcases h with ⟨d, fs, h1, h2⟩ | h1
  · obtain ⟨t1, ho⟩ := exo_at I.hok h1
    obtain ⟨mA, hns, _⟩ := exd_at I.hok h2
    obtain ⟨od, hod, _⟩ := lookIn_ns hns
    exact ⟨_, some od, ho, rfl, rfl, hod⟩
  · have z : ObjOk X.prog X.w H s.heap a (ExO (.ref D) a) := I.hok a _ h1
    obtain ⟨⟨oe, vs, e, zc, d, _⟩, _⟩ := z
    refine ⟨oe, none, e, zc.1, by unfold PySem.W.notCls; rw [d] <;> rfl, ?_⟩
    rw [zc.2]
    trivial
/-- isinstance(e, c) of such an error -/
def rIsX (K : PySem.W.Frag) : List V → Hp → VK → Prop := fun xs H Q => ∃ (a D : Addr) (c : V) (cv : Value) (b : Bool), xs = [.ref a, c] ∧ ClsV c cv ∧ IcC K D ∧ ErrAt H a D ∧ PySem.W.kitOne K (.ref D) cv = some b ∧ Q (.bl b) H
theorem call_isX : CallR X (.builtin "isinstance") (rIsX X.K) := by
  intro pins s σ H xs us Q I r h
  obtain ⟨a, D, c, cv, b, rfl, hcv, C, he, e, q⟩ := h
  cases r with
  | cons rx rr =>
    cases rr with
    | cons rt rn =>
      cases rn
      cases rx
      have ec := hcv.eq rt
      subst ec
      obtain ⟨ox, od, J⟩ := err_inst I he
      exact PySem.W.kia_one (PySem.W.kitx_exc C.cl C.xf.ga C.xf.gg C.xf.exC C.ha C.hn C.ht C.hm) I.kIn J e (fun z => nomatch z) fun tk => ⟨.bl b, H, I.kept (t' := tk) fun _ _ z => z, rfl, q⟩
/-- e.f of such an error -/
def tXfV (K : PySem.W.Frag) (f : Str) (te : TE) : TE := fun σ H Q => te σ H fun x H1 => ∃ (a C d : Addr) (fs : List (Str × V)) (v : V), x = .ref a ∧ XfC K C ∧ PySem.W.findIn K (.ref C) f = some none ∧ H1 a = some (exo a C (some d)) ∧ H1 d = some (exd d fs) ∧ fs.lookup f = some v ∧ Q v H1
theorem pe_xfv {e : Expr} {te : TE} {f : Str} (he : PE X e te) (hb : attributeBase e f X.env (eval e X.env) = eval e X.env := by rfl) : PE X (.Attribute e f qc) (tXfV X.K f te) := by
  refine ⟨fun pins s σ H Q I h => ?_⟩
  refine attr_of hb (thn (he.run pins s σ H _ I h) fun u s1 hh => ?_)
  obtain ⟨x, H1, I1, rx, a, C, d, fs, v, rfl, T, hno, ea, ed, l, q⟩ := hh
  obtain rfl : u = Value.ref a := rx
  obtain ⟨t1, ho⟩ := exo_at I1.hok ea
  obtain ⟨mA, hns, hr⟩ := exd_at I1.hok ed
  obtain ⟨od, hod, hl⟩ := lookIn_ns hns
  obtain ⟨u, hu, ru⟩ := RelO.some_of (v := v) (o := mA f) (by rw [← l]; exact hr f)
  have J : PySem.W.InstAt s1.heap a _ C (some od) := ⟨ho, rfl, rfl, hod⟩
  exact HandSPX.exc_get I1.kIn J T.ga T.gg T.exC (PySem.W.findObj_own T.hdC hno rfl (by rw [hl, hu])) (handed_of ru) ⟨v, H1, I1.tok _, ru, q⟩
/-- one rule or the other -/
theorem op_or2 {f : Value → Value → Sem Value} {r r' : R2} (h : OpR X f r) (h' : OpR X f r') : OpR X f (fun x y H Q => r x y H Q ∨ r' x y H Q) := by
  intro pins s σ H x y v u Q I rx ry q
  rcases q with q | q
  · exact h pins s σ H x y v u Q I rx ry q
  · exact h' pins s σ H x y v u Q I rx ry q
end
end L2
namespace L2
open PySem PySem.Spec PyProof.Rows
/-- what __init__ of such a class keeps: one field, two fields -/
def sp_err1 (C : Addr) (f : Str) : Sp := fun vs H Q _ => ∃ (a : Addr) (v : V), vs = [.ref a, v] ∧ H a = some (exo a C none) ∧ ∀ d H2, H d = none → d ≠ a → (∀ b, b ≠ a → b ≠ d → H2 b = H b) → H2 a = some (exo a C (some d)) → H2 d = some (exd d [(f, v)]) → Q .non H2
def sp_err2 (C : Addr) (f g : Str) : Sp := fun vs H Q _ => ∃ (a : Addr) (v w : V), vs = [.ref a, v, w] ∧ H a = some (exo a C none) ∧ ∀ d H2, H d = none → d ≠ a → (∀ b, b ≠ a → b ≠ d → H2 b = H b) → H2 a = some (exo a C (some d)) → H2 d = some (exd d [(g, w), (f, v)]) → Q .non H2
section
variable {K : PySem.W.Frag} {C a : Addr} {f g z : Str} {v w : V} {H : Hp} {Q : VK}
theorem err1_run (T : OexC K C) (n1 : PySem.W.findIn K (.ref C) f = some none) (ha : H a = some (exo a C none)) (k : ∀ d H2, H d = none → d ≠ a → (∀ b, b ≠ a → b ≠ d → H2 b = H b) → H2 a = some (exo a C (some d)) → H2 d = some (exd d [(f, v)]) → Q .non H2) :
    tSeq (tDrop (tVeI K (tCons (tVar 0) (tCons (tC (.str z)) tNil)))) (tOst K f (tVar 0) (tVar 1)) { nx := fun _ H' => Q .non H', rt := Q } [some (.ref a), some v] H := by
  refine ⟨_, rfl, a, C, _, rfl, (by show 1 ≤ 1000; omega), T, ha, _, rfl, _, rfl, a, C, rfl, T, n1, .inl ⟨ha, fun d hd hne => ?_⟩⟩
  refine k d _ hd hne (fun b h1 h2 => by rw [upd_ne h1, upd_ne h2]) upd_same ?_
  rw [upd_ne hne, upd_same]
theorem err2_run (T : OexC K C) (n1 : PySem.W.findIn K (.ref C) f = some none) (n2 : PySem.W.findIn K (.ref C) g = some none) (ha : H a = some (exo a C none)) (k : ∀ d H2, H d = none → d ≠ a → (∀ b, b ≠ a → b ≠ d → H2 b = H b) → H2 a = some (exo a C (some d)) → H2 d = some (exd d [(g, w), (f, v)]) → Q .non H2) :
    tSeq (tDrop (tVeI K (tCons (tVar 0) (tCons (tC (.str z)) tNil)))) (tSeq (tOst K f (tVar 0) (tVar 1)) (tOst K g (tVar 0) (tVar 2))) { nx := fun _ H' => Q .non H', rt := Q } [some (.ref a), some v, some w] H := by
  refine ⟨_, rfl, a, C, _, rfl, (by show 1 ≤ 1000; omega), T, ha, _, rfl, _, rfl, a, C, rfl, T, n1, .inl ⟨ha, fun d hd hne => ?_⟩⟩
  have e1 : upd (upd H d (exd d [(f, v)])) a (exo a C (some d)) d = some (exd d [(f, v)]) := by rw [upd_ne hne, upd_same]
  refine ⟨_, rfl, _, rfl, a, C, rfl, T, n2, .inr ⟨d, _, upd_same, e1, (by show 1 ≤ 900; omega), ?_⟩⟩
  refine k d _ hd hne (fun b h1 h2 => by rw [upd_ne h2, upd_ne h1, upd_ne h2]) ?_ upd_same
  rw [upd_ne hne.symm, upd_same]
theorem c_xfv {te : TE} {σ : St} (h : te σ H fun x H1 => ∃ (a C d : Addr) (fs : List (Str × V)) (v : V), x = .ref a ∧ XfC K C ∧ PySem.W.findIn K (.ref C) f = some none ∧ H1 a = some (exo a C (some d)) ∧ H1 d = some (exd d fs) ∧ fs.lookup f = some v ∧ Q v H1) : tXfV K f te σ H Q := h
/-- the same, what is asked told by one word -/
def MkE (C : Addr) (sp : Sp) (vs : List V) (H : Hp) (Q : VK) : Prop := vs.length ≤ 1000 ∧ ∀ a, H a = none → sp (.ref a :: vs) (upd H a (exo a C none)) (fun v H2 => v = .non ∧ Q (.ref a) H2) (fun _ _ _ => False)
theorem c_mkv {sp : Sp} {ta : TA} {σ : St} (h : ta σ H fun vs H1 => MkE C sp vs H1 Q) : tMkV C sp ta σ H Q := h
/-- an error of the class at C with these fields, at a, its dict at d -/
def Er (H : Hp) (a C d : Addr) (fs : List (Str × V)) : Prop := H a = some (exo a C (some d)) ∧ H d = some (exd d fs)
theorem Er.up {H H2 : Hp} {a C d : Addr} {fs : List (Str × V)} (h : Er H a C d fs) (e : Evl.Ex H H2) : Er H2 a C d fs := ⟨e _ _ h.1, e _ _ h.2⟩
theorem Er.at {H : Hp} {a C d : Addr} {fs : List (Str × V)} (h : Er H a C d fs) : ErrAt H a C := .inl ⟨d, fs, h.1, h.2⟩
theorem mkv1 (k : ∀ a d H2, H a = none → H d = none → Evl.Ex H H2 → Er H2 a C d [(f, v)] → Q (.ref a) H2) : MkE C (sp_err1 C f) [v] H Q := by
  refine ⟨by show 1 ≤ 1000; omega, fun a ha => ⟨a, v, rfl, upd_same, fun d H2 hd hne hk h1 h2 => ⟨rfl, ?_⟩⟩⟩
  rw [upd_ne hne] at hd
  refine k a d H2 ha hd (fun b o hb => ?_) ⟨h1, h2⟩
  have nb := ne_of_none hb ha
  rw [hk b nb (ne_of_none hb hd), upd_ne nb]
  exact hb
theorem mkv2 (k : ∀ a d H2, H a = none → H d = none → Evl.Ex H H2 → Er H2 a C d [(g, w), (f, v)] → Q (.ref a) H2) : MkE C (sp_err2 C f g) [v, w] H Q := by
  refine ⟨by show 2 ≤ 1000; omega, fun a ha => ⟨a, v, w, rfl, upd_same, fun d H2 hd hne hk h1 h2 => ⟨rfl, ?_⟩⟩⟩
  rw [upd_ne hne] at hd
  refine k a d H2 ha hd (fun b o hb => ?_) ⟨h1, h2⟩
  have nb := ne_of_none hb ha
  rw [hk b nb (ne_of_none hb hd), upd_ne nb]
  exact hb
end
end L2
namespace L2
open PySem PySem.Spec PyProof.Rows
/-- of the error classes Cs each is of itself alone, of B, of ValueError -/
def kinB (K : PySem.W.Frag) (Cs : List Addr) : Bool := (List.range Cs.length).all fun i => (List.range Cs.length).all fun j => match Cs[i]?, Cs[j]? with
  | some D, some C => decide (PySem.W.kitOne K (.ref D) (.ref C) = some (decide (i = j)))
  | _, _ => true
def famB (K : PySem.W.Frag) (B : Addr) (Cs : List Addr) : Bool := (Cs.all fun D => decide (PySem.W.kitOne K (.ref D) (.ref B) = some true) && (decide (PySem.W.kitOne K (.ref D) (.type "ValueError") = some true) && decide (PySem.W.kitOne K (.ref B) (.ref D) = some false))) && (decide (PySem.W.kitOne K (.ref B) (.type "ValueError") = some true) && kinB K Cs)
structure Fam (K : PySem.W.Frag) (B : Addr) (Cs : List Addr) : Prop where
  b : ∀ D ∈ Cs, PySem.W.kitOne K (.ref D) (.ref B) = some true
  v : ∀ D ∈ Cs, PySem.W.kitOne K (.ref D) (.type "ValueError") = some true
  n : ∀ D ∈ Cs, PySem.W.kitOne K (.ref B) (.ref D) = some false
  bv : PySem.W.kitOne K (.ref B) (.type "ValueError") = some true
  k : ∀ (i j : Nat) (D C : Addr), Cs[i]? = some D → Cs[j]? = some C → PySem.W.kitOne K (.ref D) (.ref C) = some (decide (i = j))
theorem famB_ok {K : PySem.W.Frag} {B : Addr} {Cs : List Addr} (h : famB K B Cs = true) : Fam K B Cs := by
  unfold famB at h
  rw [Bool.and_eq_true, Bool.and_eq_true] at h
  obtain ⟨h1, h2, h3⟩ := h
  have h1' := List.all_eq_true.mp h1
  simp only [Bool.and_eq_true, decide_eq_true_eq] at h1'
  refine ⟨fun D hD => (h1' D hD).1, fun D hD => (h1' D hD).2.1, fun D hD => (h1' D hD).2.2, of_decide_eq_true h2, fun i j D C hi hj => ?_⟩
  unfold kinB at h3
  have q := List.all_eq_true.mp (List.all_eq_true.mp h3 i (List.mem_range.mpr (List.getElem?_eq_some_iff.mp hi).1)) j (List.mem_range.mpr (List.getElem?_eq_some_iff.mp hj).1)
  rw [hi, hj] at q
  exact of_decide_eq_true q
theorem ErrAt.up {H H2 : Hp} {a D : Addr} (h : ErrAt H a D) (e : Evl.Ex H H2) : ErrAt H2 a D := by
  rcases h with ⟨d, fs, h1, h2⟩ | h1
  · exact .inl ⟨d, fs, e _ _ h1, e _ _ h2⟩
  · exact .inr (e _ _ h1)
theorem is_x {K : PySem.W.Frag} {H : Hp} {Q : VK} {a D : Addr} {c : V} {cv : Value} {b : Bool} (hc : ClsV c cv) (ic : IcC K D) (h : ErrAt H a D) (e : PySem.W.kitOne K (.ref D) cv = some b) (q : Q (.bl b) H) : rIsX K [.ref a, c] H Q := ⟨a, D, c, cv, b, rfl, hc, ic, h, e, q⟩
end L2

/-! ### more loops, more comparisons -/
namespace L2
open PySem PySem.Spec PyProof.Rows
section
variable {K : PySem.W.Frag} {σ : St} {H : Hp} {D : Ends} {Q : VK} {g : TG} {tb : TS} {tt : TT} {te : TE} {vs : List Nat} {ta : TA}
theorem c_forE (h : ta σ H fun ws H1 => ∃ a xs, ws = [.ref a] ∧ SqL K H1 a xs ∧ ForI (Ite K a) g tb D σ H1) : tFor (iEnum K ta) g tb D σ H := h
theorem c_lcZi (h : ta σ H fun ws H1 => ∃ a b xs ys, ws = [.ref a, .ref b] ∧ SqL K H1 a xs ∧ SqL K H1 b ys ∧ LcI (Itz K a b) g tt te vs σ H1 Q) : tLc (iZip K ta) g tt te vs σ H Q := h
/-- for i, x in enumerate(l) -/
theorem forE {a : Addr} {xs : List V} (Pv : Nat → St → Hp → Prop) (h0 : Pv 0 σ H) (hl : ∀ i σ' H', i ≤ xs.length → Pv i σ' H' → SqL K H' a xs)
    (hs : ∀ i x T σ' H', xs[i]? = some x → Pv i σ' H' → H' T = none → g (.ref T) σ' (upd H' T (.tup [.int (i : Nat), x])) fun σ2 H2 => tb { D with nx := Pv (i + 1), ct := Pv (i + 1), bk := D.nx } σ2 H2)
    (hd : ∀ σ' H', Pv xs.length σ' H' → D.nx σ' H') : ForI (Ite K a) g tb D σ H :=
  for_it walk_enum Pv h0 (fun i σ' H' hi p => hl i σ' H' hi p) (fun i v σ' H' H'' hi p y => by
    obtain ⟨T, x, z, rfl, hT, rfl, ex, ez⟩ := y
    cases ex
    exact hs i z T σ' H' ez p hT) hd
/-- [.. for x in l], each thing made so that P holds of it, whatever is done to the list or made behind it -/
theorem lcLP {a : Addr} {xs : List V} (P : Addr → Nat → V → Hp → Prop) (hst : ∀ D i y G G2, ExB D G G2 → P D i y G → P D i y G2) (hs : SqL K H a xs) (hn : xs.length ≤ 1000)
    (ht : ∀ (D : Addr) (i : Nat) (x : V), H D = none → xs[i]? = some x → ∀ H2, Evl.Ex H H2 → (∃ o, H2 D = some o) → ∀ (R : V → Hp → Prop) (N : Hp → Prop), (∀ y H3, Evl.Ex H2 H3 → P D i y H3 → R y H3) →
      g x (wipe σ vs) H2 fun σ2 H3 => wipe σ2 vs = wipe σ vs ∧ tt σ2 H3 fun c H4 => if c = true then te σ2 H4 fun y H5 => R y H5 else N H4)
    (k : ∀ ys p H2, ys.length = xs.length → (∀ i y, ys[i]? = some y → P p i y H2) → H p = none → Evl.Ex H H2 → H2 p = some (.lst ys) → Q (.ref p) H2) : LcI (Itl K a) g tt te vs σ H Q := by
  refine fun D hD => ?_
  have ex : ∀ {G : Hp} {o : HO}, Evl.Ex H G → Evl.Ex H (upd G D o) := fun e b u hb => by rw [upd_ne (ne_of_none hb hD)]; exact e b u hb
  refine lc_list (xs := xs) (fun i H' => i ≤ xs.length ∧ Evl.Ex H H' ∧ ∃ ys, ys.length = i ∧ (∀ j y, ys[j]? = some y → P D j y H') ∧ H' D = some (.lst ys))
    ⟨Nat.zero_le _, ex (Evl.Ex.refl _), [], rfl, (fun j y h => by simp at h), upd_same⟩ (fun i H' _ p => Evl.ex_l p.2.1 hs) (fun i x H' hi p => ?_) (fun H' p => ?_)
  · obtain ⟨_, e1, ys, hl, hy, hD'⟩ := p
    have hil := (List.getElem?_eq_some_iff.mp hi).1
    refine ht D i x hD hi H' e1 ⟨_, hD'⟩ (fun y H4 => ∃ acc, H4 D = some (.lst acc) ∧ acc.length < sizeLine ∧ (i + 1 ≤ xs.length ∧ Evl.Ex H (upd H4 D (.lst (acc ++ [y]))) ∧ ∃ zs, zs.length = i + 1 ∧ (∀ j y2, zs[j]? = some y2 → P D j y2 (upd H4 D (.lst (acc ++ [y])))) ∧ upd H4 D (.lst (acc ++ [y])) D = some (.lst zs))) _ (fun y H3 e3 py => ?_)
    have eD : ExB D H3 (upd H3 D (.lst (ys ++ [y]))) := fun b o nb hb => by rw [upd_ne nb]; exact hb
    refine ⟨ys, e3 _ _ hD', Evl.sz_lt (by omega), hil, ex (e1.trans e3), ys ++ [y], by rw [List.length_append, hl]; rfl, fun j y2 hj => ?_, upd_same⟩
    rcases Nat.lt_or_ge j ys.length with h | h
    · rw [List.getElem?_append_left h] at hj
      exact hst _ _ _ _ _ eD (hst _ _ _ _ _ (fun b o _ hb => e3 b o hb) (hy j y2 hj))
    · rw [List.getElem?_append_right h] at hj
      have hj0 : j - ys.length = 0 := by
        have := (List.getElem?_eq_some_iff.mp hj).1
        rw [List.length_singleton] at this
        omega
      rw [hj0] at hj
      have hyy : y = y2 := by simpa using hj
      subst hyy
      have : j = i := by omega
      subst this
      exact hst _ _ _ _ _ eD py
  · obtain ⟨_, e1, ys, hl, hy, hD'⟩ := p
    exact k ys D H' hl hy hD e1 hD'
/-- what stands outside of S stays -/
def ExS (S : Addr → Prop) (H H2 : Hp) : Prop := ∀ a o, ¬ S a → H a = some o → H2 a = some o
theorem ExS.refl {S : Addr → Prop} (H : Hp) : ExS S H H := fun _ _ _ h => h
theorem ExS.trans {S : Addr → Prop} {H H2 H3 : Hp} (h : ExS S H H2) (k : ExS S H2 H3) : ExS S H H3 := fun a o n q => k a o n (h a o n q)
theorem ExS.of {S : Addr → Prop} {H H2 : Hp} (h : Evl.Ex H H2) : ExS S H H2 := fun a o _ q => h a o q
/-- [f(x, y) for x, y in zip(l, m)], where each answer is True, and only what is in S may change -/
theorem lcZ {S : Addr → Prop} {a b : Addr} {xs ys : List V} (J : Nat → Hp → Prop) (hab : xs.length = ys.length) (hn : xs.length ≤ 1000) (ha : ∀ G, ExS S H G → SqL K G a xs) (hb : ∀ G, ExS S H G → SqL K G b ys) (h0 : J 0 H) (hJ : ∀ i G D o, H D = none → J i G → J i (upd G D o)) (hS : ∀ z, S z → H z ≠ none)
    (ht : ∀ (i : Nat) (x y : V), xs[i]? = some x → ys[i]? = some y → ∀ H2 T, ExS S H H2 → J i H2 → H2 T = none → ∀ (R : V → Hp → Prop) (N : Hp → Prop), (∀ H3, ExS S (upd H2 T (.tup [x, y])) H3 → J (i + 1) H3 → R (.bl true) H3) →
      g (.ref T) (wipe σ vs) (upd H2 T (.tup [x, y])) fun σ2 H3 => wipe σ2 vs = wipe σ vs ∧ tt σ2 H3 fun c H4 => if c = true then te σ2 H4 fun y H5 => R y H5 else N H4)
    (k : ∀ p H2, H p = none → ExS S H H2 → J xs.length H2 → H2 p = some (.lst (List.replicate xs.length (.bl true))) → Q (.ref p) H2) : LcI (Itz K a b) g tt te vs σ H Q := by
  refine fun D hD => ?_
  have nSD : ¬ S D := fun z => hS D z hD
  have ex : ∀ {G : Hp} {o : HO}, ExS S H G → ExS S H (upd G D o) := fun e c u nc hc => by rw [upd_ne (ne_of_none hc hD)]; exact e c u nc hc
  refine lc_it (walk_zip (xs := xs) (ys := ys) (n := xs.length) (by omega)) (fun i H' => i ≤ xs.length ∧ ExS S H H' ∧ J i H' ∧ H' D = some (.lst (List.replicate i (.bl true)))) ⟨Nat.zero_le _, ex (ExS.refl _), hJ _ _ _ _ hD h0, upd_same⟩ (fun i H' _ p => ⟨ha _ p.2.1, hb _ p.2.1⟩) (fun i v H' H'' hi p y => ?_) (fun H' p => k D H' hD p.2.1 p.2.2.1 p.2.2.2)
  obtain ⟨T, x, z, rfl, hT, rfl, ex1, ez⟩ := y
  obtain ⟨_, e1, j1, hD'⟩ := p
  have nTD : D ≠ T := ne_of_none hD' hT
  refine ht i x z ex1 ez H' T e1 j1 hT (fun y H4 => ∃ acc, H4 D = some (.lst acc) ∧ acc.length < sizeLine ∧ (i + 1 ≤ xs.length ∧ ExS S H (upd H4 D (.lst (acc ++ [y]))) ∧ J (i + 1) (upd H4 D (.lst (acc ++ [y]))) ∧ upd H4 D (.lst (acc ++ [y])) D = some (.lst (List.replicate (i + 1) (.bl true))))) _ (fun H3 e3 j3 => ?_)
  refine ⟨_, e3 D _ nSD (by rw [upd_ne nTD]; exact hD'), ?_, hi, ex ?_, hJ _ _ _ _ hD j3, ?_⟩
  · rw [List.length_replicate]
    exact Evl.sz_lt (by omega)
  · refine fun c o nc hc => e3 c o nc ?_
    have h1 := e1 c o nc hc
    rw [upd_ne (ne_of_none h1 hT)]
    exact h1
  · rw [upd_same, List.replicate_succ'] <;> rfl
end
/-! == and != of dicts of flat things -/
def eqK (ks ls : List (Key × V)) : Bool := ks.length == ls.length && ks.all fun p => match valV ls p.1 with
  | some u => eqV p.2 u
  | none => false
section
variable {X : Cx} {pins : List (Addr × Obj)} {σ : St} {H : Hp} {s : Shared}
theorem hitsK (I : Inv X pins σ H s) (hu : X.A.units + 66 < cLine) {ls : List (Key × V)} {vb : List (Key × Value)} (rb : KV ls vb) (fl : ∀ k u, valV ls k = some u → okV u = true) {ks : List (Key × V)} {va : List (Key × Value)} (ra : KV ks va) (fk : ∀ p ∈ ks, okV p.2 = true) :
    PySem.W.KeqHits X.A.in1 s vb va (ks.all fun p => match valV ls p.1 with | some u => eqV p.2 u | none => false) := by
  unfold KV at ra
  induction ra with
  | nil => exact .nil
  | @cons p q ps qs h t ih =>
    obtain ⟨key, v⟩ := q
    obtain ⟨h1, h2⟩ := h
    have h1' : p.1 = key := h1
    have ih' := ih fun p' hm => fk p' (List.mem_cons_of_mem _ hm)
    rw [List.all_cons]
    have rr : RelO (valV ls p.1) (PySem.valueAt vb p.1) := rb.val p.1
    rw [h1'] at rr ⊢
    cases e : valV ls key with
    | none =>
      rw [e] at rr
      cases e2 : PySem.valueAt vb key with
      | none => exact .miss e2
      | some y =>
        rw [e2] at rr
        exact rr.elim
    | some u =>
      rw [e] at rr
      obtain ⟨y, hy, ry⟩ := rr.some_of
      have fp := fk p List.mem_cons_self
      have fu := fl key u e
      obtain ⟨as, r1⟩ := Dp.reads I (dOf p.2) p.2 v (dp_flat (okV_flat fp)) h2
      obtain ⟨bs, r2⟩ := Dp.reads I (dOf u) u y (dp_flat (okV_flat fu)) ry
      have z := PySem.W.keq_at (A := X.A) r1 r2 (shaped_flat fp) (shaped_flat fu) (by show X.A.units + 1 + 64 < cLine; omega)
      rw [eqv_flat (okV_flat fp) (okV_flat fu)] at z
      exact .hit hy z ih'
def rEqK : R2 := fun x y H Q => ∃ (a b : Addr) (ks ls : List (Key × V)), x = .ref a ∧ y = .ref b ∧ H a = some (.dK ks) ∧ H b = some (.dK ls) ∧ (∀ p ∈ ks, okV p.2 = true) ∧ (∀ k u, valV ls k = some u → okV u = true) ∧ Q (.bl (eqK ks ls)) H
def rNeK : R2 := fun x y H Q => ∃ (a b : Addr) (ks ls : List (Key × V)), x = .ref a ∧ y = .ref b ∧ H a = some (.dK ks) ∧ H b = some (.dK ls) ∧ (∀ p ∈ ks, okV p.2 = true) ∧ (∀ k u, valV ls k = some u → okV u = true) ∧ Q (.bl (!eqK ks ls)) H
theorem op_eqK (hu : X.A.units + 66 < cLine) : OpR X (compareOp .Eq) rEqK := by
  intro pins s σ H x y v u Q I rx ry h
  obtain ⟨a, b, ks, ls, rfl, rfl, ha, hb, fk, fl, q⟩ := h
  cases (show v = Value.ref a from rx)
  cases (show u = Value.ref b from ry)
  obtain ⟨_, ya, va, ra, da⟩ := (show ObjOk X.prog X.w H s.heap a (.dK ks) from I.hok a _ ha)
  obtain ⟨_, yb, vb, rb, db⟩ := (show ObjOk X.prog X.w H s.heap b (.dK ls) from I.hok b _ hb)
  refine PySem.W.keq_eq (knd := mixKind X.prog X.w) ya yb da db (by omega) (fun _ => hitsK I hu rb fl ra fk) ?_
  rw [← ra.length, ← rb.length]
  exact ⟨.bl _, H, I, rfl, q⟩
theorem op_neK (hu : X.A.units + 66 < cLine) : OpR X (compareOp .NotEq) rNeK := by
  intro pins s σ H x y v u Q I rx ry h
  obtain ⟨a, b, ks, ls, rfl, rfl, ha, hb, fk, fl, q⟩ := h
  cases (show v = Value.ref a from rx)
  cases (show u = Value.ref b from ry)
  obtain ⟨_, ya, va, ra, da⟩ := (show ObjOk X.prog X.w H s.heap a (.dK ks) from I.hok a _ ha)
  obtain ⟨_, yb, vb, rb, db⟩ := (show ObjOk X.prog X.w H s.heap b (.dK ls) from I.hok b _ hb)
  refine PySem.W.keq_ne (knd := mixKind X.prog X.w) ya yb da db (by omega) (fun _ => hitsK I hu rb fl ra fk) ?_
  rw [← ra.length, ← rb.length]
  exact ⟨.bl _, H, I, rfl, q⟩
end
theorem hu66 {A : Around} {k : Nat} (hr : Room k A) : A.units + 66 < cLine := by have := hr.un; omega
end L2

/-! ### defs that may show things by repr: no repr stands above them -/
namespace L2
open PySem PySem.Spec PyProof.Rows
/-- FnOk where nothing is being shown yet -/
structure FnG (P : Program) (w : World) (K : PySem.W.Frag) (mg : Str → Option Value) (base : Heap) (CX : CXT) (k : Nat) (f : Addr) (fd : FuncData) (ps : List Str) (sp : Sp) : Prop where
  len : ∀ vs H Q E, sp vs H Q E → vs.length = ps.length
  run : ∀ (A : Around) (outer : List Env) (s : Shared) (H : Hp) (args : Args) (us : List Value) (vs : List V) (Q : VK) (E : XK), A.guards = some [] → Room k A → Env0 P w K mg base A outer s H → BindsTo s fd args (ps.zip us) → Vals vs us → sp vs H Q E →
    codeAny (model P w) A (.call (.ref f) args) (CR CX outer P w H s Q E) s
section
variable {P : Program} {w : World} {K : PySem.W.Frag} {mg : Str → Option Value} {base : Heap} {CX : CXT} {k : Nat} {f : Addr} {fd : FuncData} {ps : List Str} {sp : Sp}
theorem FnOk.g (F : FnOk P w K mg base CX k f fd ps sp) : FnG P w K mg base CX k f fd ps sp := ⟨F.len, fun A o s H ar us vs Q E _ => F.run A o s H ar us vs Q E⟩
theorem deeper_guards {A : Around} {env : Env} : (A.deeper env).guards = A.guards := by
  first
    | rfl
    | simp [Around.deeper]
end
section
variable {P : Program} {w : World} {K : PySem.W.Frag} {mg : Str → Option Value} {base : Heap}
/-- a def by its body, as Fun.ok, the body told that nothing is being shown -/
theorem Fun.okG {x qual : Str} {st : Stmt} {f : Addr} {fd : FuncData} {N ps : List Str} {k : Nat} {sp : Sp} (F : Fun K x qual st f fd) (S : FnScope N ps (defScope st)) (len : ∀ vs H Q E, sp vs H Q E → vs.length = ps.length)
    (hb : ∀ (cdv : Value) (A : Around) (outer : List Env) (s : Shared) (H : Hp) (vs : List V) (Q : VK) (E : XK), A.guards = some [] → Room k (A.deeper (envOfC qual (defScope st) s.heap.objs.size f cdv)) → sp vs H Q E →
      ∃ t, PSs (cxOf CX0 P w K mg base N qual (defScope st) f cdv A outer s H E).nox (defBody st) t ∧ t { nx := fun _ H' => Q .non H', rt := Q } (start N vs) H) : FnG P w K mg base CX0 (k + 1) f fd ps sp := by
  obtain ⟨oc, od, kV, doc, pm, an, cdv, ct, osl, rfl, lk, hcd⟩ := F.ex
  refine ⟨len, fun A outer s H args us vs Q E hgd hr env0 bnd rel hsp => ?_⟩
  have hlv := len _ _ _ _ hsp
  have kin : K.In s.heap := env0.mod.kin.keeps fun b o z => (env0.bs b o z).1
  have nol : s.heap.NoLimit := env0.mod.nolimit.keeps fun b o z => (env0.bs b o z).1
  have knd : ∀ y ∈ ps.zip us, (defScope st).names.lookup y.1 = some .local ∨ ((defScope st).names.lookup y.1 = some .cell ∧ ((cellsFrom (s.heap.objs.size + 1) (defScope st).names []).lookup y.1).isSome = true) := by
    rintro ⟨n, v⟩ hy
    rcases S.par n (List.of_mem_zip hy).1 with q | q
    · exact .inl q
    · exact .inr ⟨q, PySem.W.cellsFrom_some _ _ _ (.inl q)⟩
  refine codeAny_call_function hr.depth (kin _ _ lk) rfl S.co S.gen rfl (PySem.W.codeRec_of kin hcd) (bnd _ _ _ _ ?_)
  refine wpAny_newFunctionEnv_cells S.kind knd fun env henv s1 ic => ?_
  subst henv
  refine ⟨nol.keeps ic.toInCall.keep, codeAny_func ?_⟩
  obtain ⟨t, ht0, hq⟩ := hb cdv A outer s H vs Q E hgd (hr.deeper _) hsp
  have ht := ht0.nox
  have J0 : Inv (cxOf CX0 P w K mg base N qual (defScope st) f cdv A outer s H E) [] (start N vs) H s1 := inv_start S hr.hd env0 hlv rel ic
  refine wpAny_mono (ht.run [] s1 (start N vs) H _ J0 hq) (fun fl s' hs => ?_) fun _ _ z => z
  have done : ∀ {σ' : St} {H' : Hp} {v : V} {u : Value}, Inv (cxOf CX0 P w K mg base N qual (defScope st) f cdv A outer s H E) [] σ' H' s' → RelV v u → Q v H' → CE outer P w H s Q u s' :=
    fun {σ' H' v u} J r q => ⟨v, H', J.os, J.bare, J.base, J.hok, r, q⟩
  cases fl with
  | ret u => obtain ⟨v, σ', H', J, r, q⟩ := hs; exact done J r q
  | next => obtain ⟨σ', H', J, q⟩ := hs; exact done (v := V.non) (u := Value.none) J rfl q
  | brk => obtain ⟨_, _, _, q⟩ := hs; exact False.elim q
  | cont => obtain ⟨_, _, _, q⟩ := hs; exact False.elim q
end
section
variable {X : Cx} {CX : CXT} {k : Nat} {f : Addr} {fd : FuncData} {ps : List Str} {sp : Sp} {E : XK} {x : Str} {a1 : Expr} {ar : List Expr} {ta : TA} {q1 qc : Pos}
theorem run_fnG {pins : List (Addr × Obj)} {σ : St} {H : Hp} {s : Shared} {Q : VK} {us : List Value} {vs : List V} (hgd : X.A.guards = some []) (F : FnG X.prog X.w X.K X.mg X.base CX k f fd ps sp) (hr : Room k X.A) (hb : Binds X.K fd ps []) (hx : Passes CX X E)
    (I : Inv X pins σ H s) (r : Vals vs us) (h : sp vs H Q E) : wpAny (model X.prog X.w) X.A (call (.ref f) us) (EP X pins σ Q) X.xe s := by
  have hl : (us ++ []).length = ps.length := by
    rw [List.append_nil, ← r.length]
    exact F.len _ _ _ _ h
  have bb := hb s us I.kIn hl
  rw [List.append_nil] at bb
  refine wpAny_call (codeAny_mono (F.run X.A X.stack s H ⟨us, []⟩ us vs Q E hgd hr I.env0 bb r h) fun rs s' hq => ?_)
  cases rs with
  | error er => exact hx pins σ H s er s' I hq
  | ok fl =>
    cases fl with
    | ret u => exact I.after hq
    | next => exact False.elim hq
    | brk => exact False.elim hq
    | cont => exact False.elim hq
theorem pe_callG (hgd : X.A.guards = some []) (F : FnG X.prog X.w X.K X.mg X.base CX k f fd ps sp) (hr : Room k X.A) (hg : Gl X x) (hm : X.mg x = some (.ref f)) (hk : PySem.W.keepIn X.K (.ref f) = true) (hb : Binds X.K fd ps []) (hx : Passes CX X E) (ha : PA X (a1 :: ar) ta)
    (hdb : (x == ("__debug__" : Str)) = false := by decide) (hst : starEach (a1 :: ar) X.env = (false, eval a1 X.env) :: starEach ar X.env := by rfl) (hps : (backTo qc (starEach ar X.env)).any (·.1) = false := by rfl) :
    PE X (.Call (.Name x q1) (a1 :: ar) [] qc) (tCall sp [] E ta) := by
  refine ⟨fun pins s σ H Q I h => ?_⟩
  refine wpAny_Call_Name_kw (ld_glob I hg hm ?_ hdb)
  refine PySem.W.callWith_K (h₀ := X.base) I.ok.mod.kin hk (thn (ha.run qc pins s σ H _ I h) fun us s1 hh => ?_) hst hps
  obtain ⟨vs, H1, I1, r, q⟩ := hh
  rw [List.append_nil] at q
  exact ⟨I1.kIn, run_fnG hgd F hr hb hx I1 r q⟩
/-- repr of a thing made of flat things, lists, tuples -/
def rRepr (K : PySem.W.Frag) : List V → Hp → VK → Prop := fun xs H Q => ∃ (a : Addr) (d : PyData), xs = [.ref a] ∧ Dp K H (.ref a) d ∧ d.showable = true ∧ d.hasDict = false ∧ d.depth ≤ 60 ∧ d.shown.length ≤ sizeLine ∧ Q (.str d.shown) H
theorem call_reprD {n : Nat} (hgd : X.A.guards = some []) (hr : Room n X.A) : CallR X (.builtin "repr") (rRepr X.K) := by
  intro pins s σ H xs us Q I r h
  obtain ⟨a, d, rfl, hd, hs, hnd, hdp, hz, q⟩ := h
  cases r with
  | cons ra rr =>
    cases rr
    rename_i u
    cases (show u = Value.ref a from ra)
    obtain ⟨as, rd⟩ := Dp.reads I d _ _ hd rfl
    have hun := hr.un
    refine repr_of_reads' rd hs (fun z => by rw [hnd] at z; cases z) hgd (by omega) (fun _ _ z => z) (fun h' u tk hk => ?_) hz
    exact ⟨.str d.shown, H, I.kept (t' := tk) hk, ⟨_, rfl⟩, q⟩
end
end L2
namespace L2
open PySem PySem.Spec PyProof.Rows
theorem caller_guards : callerA.guards = some [] := rfl
/-- the law's call, as law_call, the promise over A with nothing shown -/
theorem law_callG {P : Program} {w : World} {K : PySem.W.Frag} {mg mb : Str → Option Value} {CX : CXT} {k : Nat} {fa a : Addr} {fd : FuncData} {x : Str} {sp : Sp} {z1 : Shared} {vs : List Value} {ns : List Int}
    (kin : K.In z1.heap) (hns : z1.heap.Ns mainGlobals mg) (hbn : z1.heap.Ns builtinsNs mb) (hbb : ∀ y : Str, y ≠ "__name__" → mb y = bootBuiltins y) (hlim : z1.heap.NoLimit) (hgen : z1.gens = #[])
    (hscr : z1.heap.get? a = some { cls := .type "list", data := .seq vs.toArray }) (hi : IntsAre vs ns) (hl : ns.length ≤ sizeLine) (hr : Room k callerA)
    (F : ∀ base : Heap, K.In base → base.Ns mainGlobals mg → FnG P w K mg base CX k fa fd [x] sp) (hbind : ∀ (s : Shared) (u : Value), BindsTo s fd ⟨[u], []⟩ [(x, u)])
    (hsp : ∀ H : Hp, Only H → SqL K H a (ns.map V.int) → sp [.ref a] H (fun v _ => v = .bl true) fun _ _ _ => False) (hCX : ∀ H e s', CX [] H z1 (fun _ _ _ => False) e s' → False) :
    codeAny (model P w) callerA (.call (.ref fa) ⟨[.ref a], []⟩) (fun r s' => r = .ok (.ret (.bool true)) ∧ OldK z1.heap s'.heap ∧ s'.os = z1.os ∧ AllBare s'.gens) z1 := by
  have rel := vals_ints hi
  have lenV := hi.length
  have core : ∀ H : Hp, Only H → SqL K H a (ns.map V.int) → HOk P w H z1.heap → (∀ b, H b ≠ none → b = a) → (H a ≠ none → K.lookup a = none) →
      codeAny (model P w) callerA (.call (.ref fa) ⟨[.ref a], []⟩) (fun r s' => r = .ok (.ret (.bool true)) ∧ OldK z1.heap s'.heap ∧ s'.os = z1.os ∧ AllBare s'.gens) z1 := by
    intro H hO hS hok hA hK
    have below : ∀ {b : Addr} {o : Obj}, z1.heap.get? b = some o → H b = none → (hidT z1.heap H).get? b = some o := fun q n => hidT_get q n
    have noDict : ∀ {b : Addr} {o : Obj} {es : Array DictEntry} {ep : Nat}, z1.heap.get? b = some o → o.data = .dict es ep → H b = none := by
      intro b o es ep q d
      cases hq : H b with
      | none => rfl
      | some u =>
        obtain rfl : b = a := hA b (by rw [hq]; simp)
        rw [hscr] at q
        cases q
        cases (show Data.seq vs.toArray _ = Data.dict es ep from d)
    have nsUp : ∀ {b : Addr} {m : Str → Option Value}, z1.heap.Ns b m → (hidT z1.heap H).Ns b m := by
      rintro b m ⟨o, es, ep, q, d, r⟩
      exact ⟨o, es, ep, below q (noDict q d), d, r⟩
    have kinB : K.In (hidT z1.heap H) := by
      intro b o q
      refine below (kin b o q) ?_
      cases hq : H b with
      | none => rfl
      | some u =>
        obtain rfl : b = a := hA b (by rw [hq]; simp)
        rw [hK (by rw [hq]; simp)] at q
        cases q
    have md : Mod K mg (hidT z1.heap H) := ⟨kinB, nsUp hns, ⟨mb, nsUp hbn, hbb⟩, let ⟨mc, h1, h2⟩ := hlim; ⟨mc, nsUp h1, h2⟩⟩
    have en0 : Env0 P w K mg (hidT z1.heap H) callerA [] z1 H := ⟨rfl, md, fun b o q => of_hidT q, Nat.le_of_eq (hidT_size _ _), trivial, fun b hb => absurd (show b ∈ ([] : List Addr) from hb) (by simp), hok, .of_eq hgen⟩
    refine codeAny_mono ((F _ kinB (nsUp hns)).run callerA [] z1 H ⟨[.ref a], []⟩ [.ref a] [.ref a] _ _ caller_guards hr en0 (hbind z1 (.ref a)) (.cons rfl .nil) (hsp H hO hS)) fun r s' h => ?_
    cases r with
    | error er => exact (hCX H er s' h).elim
    | ok fl =>
      cases fl with
      | next => exact False.elim h
      | brk => exact False.elim h
      | cont => exact False.elim h
      | ret u =>
        obtain ⟨v, H', hos, bare, un, hok', r', hv⟩ := h
        obtain rfl : v = .bl true := hv
        obtain rfl : u = Value.bool true := r'
        refine ⟨rfl, OldK.of_keep fun b o q => ?_, hos, bare⟩
        cases hq : H b with
        | none => exact un.keep b o q hq (fun z => absurd (show b ∈ ([] : List Addr) from z) (by simp)) (by simp)
        | some u =>
          rcases hO b with z | ⟨ob, xs, z⟩
          · rw [hq] at z
            cases z
          · obtain ⟨e1, _⟩ := hok b _ z
            obtain ⟨e2, _⟩ := hok' b _ (un.frzs b ob _ z)
            rw [q] at e1
            cases e1
            exact e2
  cases hk : K.lookup a with
  | some o =>
    have q := kin a o hk
    rw [hscr] at q
    cases q
    exact core (fun _ => none) (fun _ => .inl rfl) (.inr ⟨_, vs.toArray, _, hk, rfl, rfl, rfl, by rw [List.size_toArray, lenV]; exact hl, by simpa using rel⟩) (fun b u z => nomatch (show (none : Option HO) = some u from z)) (fun b z => absurd rfl z) (fun z => absurd rfl z)
  | none =>
    have hH : ∀ b, (if b = a then some (HO.frz { cls := .type "list", data := .seq vs.toArray } (.lst (ns.map V.int))) else none) ≠ none → b = a := fun b z => by
      by_cases hb : b = a
      · exact hb
      · exact absurd (if_neg hb) z
    refine core (fun b => if b = a then some (.frz { cls := .type "list", data := .seq vs.toArray } (.lst (ns.map V.int))) else none) (fun b => ?_) (.inl (.inr ⟨{ cls := .type "list", data := .seq vs.toArray }, if_pos rfl⟩)) (fun b u z => ?_) hH (fun _ => hk)
    · by_cases hb : b = a
      · exact .inr ⟨_, _, if_pos hb⟩
      · exact .inl (if_neg hb)
    · by_cases hb : b = a
      · cases (if_pos hb).symm.trans z
        subst hb
        exact ⟨hscr, by rw [List.length_map]; exact hl, vs, _, rel, hscr⟩
      · cases (if_neg hb).symm.trans z
theorem walk_ofG {l : PySem.W.OpenLaw} {n k : Nat} {q : Program} {loose : List Str} {XP : (Str → Option Value) → Heap → Prop} {YP : World → Heap → Prop} {d : DefRec} {K : Params → PySem.W.Frag} {CX : CXT} {sp : PySem.W.Frag → Sp} {x : Str}
    (hn : l.most = some n) (hn2 : n ≤ sizeLine) (hdf : d.params.defaults = []) (hr : Room k callerA) (hY : ∀ (w : World) (h : Heap), YP w h → (K w.params).In h)
    (F : ∀ (w : World) (mg : Str → Option Value) (fa : Addr) (h : Heap), (K w.params).In h → h.Ns mainGlobals mg → mg d.name = some (.ref fa) → ∃ fd : FuncData, (∀ (s : Shared) (u : Value), BindsTo s fd ⟨[u], []⟩ [(x, u)]) ∧
        ∀ base : Heap, (K w.params).In base → base.Ns mainGlobals mg → FnG l.prog w (K w.params) mg base CX k fa fd [x] (sp (K w.params)))
    (hsp : ∀ (K : PySem.W.Frag) (H : Hp) (a : Addr) (ns : List Int), ns.length ≤ n → Only H → SqL K H a (ns.map V.int) → sp K [.ref a] H (fun v _ => v = .bl true) fun _ _ _ => False) (hCX : ∀ (H : Hp) (s : Shared) (e : Value) (s' : Shared), CX [] H s (fun _ _ _ => False) e s' → False) :
    PySem.W.WalkO q loose XP YP l.row.toRowW d [] (fun f vs => PySem.call f vs) := by
  refine Att.attach_call hn hdf fun w s0 z1 mg mb fa o pm cd doc a vs ns G Y ho hd hcd hmg hobj hints hlen hg => ?_
  obtain ⟨fd, hb, hF⟩ := F w mg fa _ (hY w _ Y) G.T.g hmg
  exact law_callG (hY w _ Y) G.T.g G.T.b G.T.builtins G.T.nolimit hg hobj hints (Nat.le_trans hlen hn2) hr hF hb (fun H hO hS => hsp (K w.params) H a ns hlen hO hS) fun H e s' => hCX H z1 e s'
end L2

/-! ### own objects whose class is found by the object -/
namespace L2
open PySem PySem.Spec PyProof.Rows
/-- the method m of the class at C keeps sp, by a def of level k -/
structure MOk (P : Program) (w : World) (K : PySem.W.Frag) (mg : Str → Option Value) (base : Heap) (CX : CXT) (k : Nat) (C : Addr) (m : Str) (sp : Sp) : Prop where
  cl : Cls K C
  ex : ∃ (f : Addr) (fd : FuncData) (ps : List Str), Meth K C m f ∧ FnOk P w K mg base CX k f fd ps sp ∧ Binds K fd ps []
section
variable {X : Cx} {CX : CXT} {k : Nat} {sp : Addr → Sp} {E : XK} {m : Str} {o a1 : Expr} {ar : List Expr} {te : TE} {ta : TA} {qa qc : Pos} {M : Addr → Prop}
/-- o.m(), o of one of the classes M -/
def tMP (M : Addr → Prop) (m : Str) (sp : Addr → Sp) (E : XK) (te : TE) (ta : TA) : TE := fun σ H Q => te σ H fun x H1 => ∃ a C dx fs, x = .ref a ∧ H1 a = some (.ins C dx fs) ∧ M C ∧ fs.lookup m = none ∧ ta σ H1 fun vs H2 => sp C (x :: vs) H2 Q E
theorem pe_methP0 {pl : Sem Bool} (he : PE X o te) (hM : ∀ C, M C → MOk X.prog X.w X.K X.mg X.base CX k C m (sp C)) (hr : Room k X.A) (hx : Passes CX X E)
    (hcal : eval (.Call (.Attribute o m qa) [] [] qc) X.env = (eval o X.env >>= fun ov => standAt qa.atName >>= fun _ => holding [ov] (getMethod ov m pl) >>= fun r => callWith qc r.1 r.2 (backTo qc (starEach [] X.env)) (backToKw qc (keywordEach [] X.env))) := by rfl) :
    PE X (.Call (.Attribute o m qa) [] [] qc) (tMP M m sp E te tNil) := by
  refine ⟨fun pins s σ H Q I h => ?_⟩
  refine PySem.W.methodCall_KW (pl := pl) (thn (he.run pins s σ H _ I h) fun u s1 hh => ?_) hcal
  obtain ⟨x, H1, I1, rx, a, C, dx, fs, rfl, ea, hC, l, q⟩ := hh
  obtain rfl : u = Value.ref a := rx
  obtain ⟨cl, f, fd, ps, hm, F, hb⟩ := hM C hC
  refine getmeth_ok I1 ea cl hm l ?_
  exact PySem.W.callWith_K0 (first := [.ref a]) I1.kIn hm.kp (run_fn (us := [.ref a]) (vs := [.ref a]) (dvs := []) F hr hb .nil hx I1 (.cons rfl .nil) q)
theorem pe_methP {pl : Sem Bool} (he : PE X o te) (hM : ∀ C, M C → MOk X.prog X.w X.K X.mg X.base CX k C m (sp C)) (hr : Room k X.A) (hx : Passes CX X E) (ha : PA X (a1 :: ar) ta)
    (hst : starEach (a1 :: ar) X.env = (false, eval a1 X.env) :: starEach ar X.env := by rfl) (hps : (backTo qc (starEach ar X.env)).any (·.1) = false := by rfl)
    (hcal : eval (.Call (.Attribute o m qa) (a1 :: ar) [] qc) X.env = (eval o X.env >>= fun ov => standAt qa.atName >>= fun _ => holding [ov] (getMethod ov m pl) >>= fun r => callWith qc r.1 r.2 (backTo qc (starEach (a1 :: ar) X.env)) (backToKw qc (keywordEach [] X.env))) := by rfl) :
    PE X (.Call (.Attribute o m qa) (a1 :: ar) [] qc) (tMP M m sp E te ta) := by
  refine ⟨fun pins s σ H Q I h => ?_⟩
  refine PySem.W.methodCall_KW (pl := pl) (thn (he.run pins s σ H _ I h) fun u s1 hh => ?_) hcal
  obtain ⟨x, H1, I1, rx, a, C, dx, fs, rfl, ea, hC, l, q⟩ := hh
  obtain rfl : u = Value.ref a := rx
  obtain ⟨cl, f, fd, ps, hm, F, hb⟩ := hM C hC
  refine getmeth_ok I1 ea cl hm l ?_
  refine PySem.W.callWith_K (first := [.ref a]) (h₀ := X.base) I.ok.mod.kin hm.kp (thn (ha.run qc pins s1 σ H1 _ I1 q) fun us s2 h2 => ?_) hst hps
  obtain ⟨vs, H2, I2, r, q2⟩ := h2
  exact ⟨I2.kIn, run_fn (us := .ref a :: us) (vs := .ref a :: vs) (dvs := []) F hr hb .nil hx I2 (.cons rfl r) (by rw [List.append_nil]; exact q2)⟩
theorem c_mp {σ : St} {H : Hp} {Q : VK} (h : te σ H fun x H1 => ∃ a C dx fs, x = .ref a ∧ H1 a = some (.ins C dx fs) ∧ M C ∧ fs.lookup m = none ∧ ta σ H1 fun vs H2 => sp C (x :: vs) H2 Q E) : tMP M m sp E te ta σ H Q := h
def tNeverE : TE := fun _ _ _ => False
theorem pe_never {e : Expr} : PE X e tNeverE := ⟨fun _ _ _ _ _ _ h => h.elim⟩
end
end L2
namespace L2
open PySem PySem.Spec PyProof.Rows
section
variable {X : Cx}
theorem dpAll_int {K : PySem.W.Frag} {H : Hp} : ∀ ns : List Int, DpAll K H (ns.map V.int) (ns.map PyData.int)
  | [] => .nil
  | n :: ns => .cons (.int n) (dpAll_int ns)
/-- the greatest of these, and of the last one -/
def maxL : List Int → Int
  | [] => 0
  | y :: ys => PySem.W.maxOf y ys
/-- max(l, default=z), l of whole numbers -/
theorem call_maxD {n : Nat} (hr : Room n X.A) : CallRK X (.builtin "max") ["default"] (fun xs zs H Q => ∃ (a : Addr) (ns : List Int) (z : V), xs = [.ref a] ∧ zs = [z] ∧ SqL X.K H a (ns.map V.int) ∧ (ns = [] → Q z H) ∧ ∀ y ys, ns = y :: ys → Q (.int (PySem.W.maxOf y ys)) H) := by
  intro pins s σ H xs zs us ws Q I r rz h
  obtain ⟨a, ns, z, rfl, rfl, hS, h0, h1⟩ := h
  cases r with
  | cons ra rr =>
    cases rr
    rename_i u
    cases (show u = Value.ref a from ra)
    cases rz with
    | cons rz1 rzz =>
      cases rzz
      rename_i zu
      obtain ⟨its, rv, hp, hlen⟩ := I.list hS
      obtain ⟨as, rds⟩ := Dp.readsAll I _ _ its (dpAll_int ns) rv
      have hun := hr.un
      have hD : PySem.W.HoldAll s.heap its.toArray.toList ns := ⟨as, rds⟩
      refine PySem.W.max_list_datum_default (α := Int) hr.hd hp.isList hD (by show X.A.units + 1 + 0 < cLine; omega) (fun e h' tk hk => ?_) (fun y ys i v h' tk e hi hv hk => ?_)
      · exact ⟨z, H, I.kept (t' := tk) hk, rz1, h0 e⟩
      · obtain ⟨bs, rd⟩ := hv
        have hv2 : ∃ t, v = Value.int (PySem.W.maxOf y ys) t := by
          have rd' : Reads h' v (.int (PySem.W.maxOf y ys)) bs := rd
          cases rd' with
          | int i t => exact ⟨t, rfl⟩
        exact ⟨.int (PySem.W.maxOf y ys), H, I.kept (t' := tk) hk, hv2, h1 y ys e⟩
end
end L2
namespace L2
open PySem PySem.Spec PyProof.Rows
/-- a plain class with these fields, that can be made -/
def tcB (K : PySem.W.Frag) (C : Addr) (fs : List Str) : Bool :=
  ((PySem.W.plainGet K C Str.empty && PySem.W.hasDictIn K C) && (PySem.W.plainOver K C && (PySem.W.makesIn K C && PySem.W.keepIn K (.ref C)))) &&
  ((decide (PySem.W.findIn K (.ref C) "__setattr__" = some (some (.builtin "object.__setattr__"))) && decide (PySem.W.findIn K (.ref C) "__class__" = some (some (.builtin "object.__class__")))) &&
  ((decide (PySem.W.specialIn K (.builtin "object.__class__") "__get__" = some (some (.builtin "getset_descriptor.__get__"))) && decide (PySem.W.takesIn K (.builtin "object.__class__") = some true)) &&
  (decide (PySem.W.mroIn K C (.type "object") = some true) && fs.all fun f => decide (PySem.W.findIn K (.ref C) f = some none))))
structure TcC (K : PySem.W.Frag) (C : Addr) (fs : List Str) : Prop where
  cl : Cls K C
  makes : PySem.W.makesIn K C = true
  kp : PySem.W.keepIn K (.ref C) = true
  ty : ∀ {H : Hp} {a dx : Addr} {gs : List (Str × V)}, H a = some (.ins C dx gs) → TyX K H (.ref a) (.ref C)
  no : ∀ f ∈ fs, NoAttr K C f
theorem tcB_ok {K : PySem.W.Frag} {C : Addr} {fs : List Str} (h : tcB K C fs = true) : TcC K C fs := by
  unfold tcB at h
  simp only [Bool.and_eq_true, decide_eq_true_eq, List.all_eq_true] at h
  obtain ⟨⟨⟨h1, h2⟩, h3, h4, h5⟩, ⟨h6, h7⟩, ⟨h8, h9⟩, h10, h11⟩ := h
  have cl : Cls K C := ⟨h1, h2, h3, h6⟩
  exact ⟨cl, h4, h5, fun e => .base (.ins e cl h7 h8 h9 h10), h11⟩
section
variable {K : PySem.W.Frag} {σ : St} {H : Hp} {Q : VK} {D : Ends} {te tv : TE} {f : Str} {ta tk : TA} {C : Addr} {sp : Sp} {E : XK}
theorem c_fld (h : te σ H fun x H1 => ∃ a C dx fs v, x = .ref a ∧ H1 a = some (.ins C dx fs) ∧ Cls K C ∧ NoAttr K C f ∧ fs.lookup f = some v ∧ Q v H1) : tFld K te f σ H Q := h
theorem c_sfld (h : tv σ H fun y H1 => te σ H1 fun x H2 => ∃ a C dx fs, x = .ref a ∧ H2 a = some (.ins C dx fs) ∧ Cls K C ∧ NoAttr K C f ∧ fs.length < 1000 ∧ D.nx σ (upd H2 a (.ins C dx (putF f y fs)))) : sFld K te tv f D σ H := h
/-- C(..): what is asked, by one word -/
def MkP2 (C : Addr) (sp : Sp) (vs : List V) (H : Hp) (Q : VK) (E : XK) : Prop := ∀ x dx, H x = none → H dx = none → dx ≠ x → sp (.ref x :: vs) (upd (upd H dx (.own x)) x (.ins C dx [])) (fun v H2 => v = .non ∧ Q (.ref x) H2) E
theorem c_make (h : ta σ H fun vs H1 => MkP2 C sp vs H1 Q E) : tMake C sp [] E ta σ H Q := by
  show ta σ H fun vs H1 => ∀ x dx, H1 x = none → H1 dx = none → dx ≠ x → sp (.ref x :: (vs ++ [])) (upd (upd H1 dx (.own x)) x (.ins C dx [])) (fun v H2 => v = .non ∧ Q (.ref x) H2) E
  simp only [List.append_nil]
  exact h
theorem c_ckw {r : List V → List V → Hp → VK → Prop} (h : ta σ H fun vs H1 => tk σ H1 fun zs H2 => r vs zs H2 Q) : tCKw r ta tk σ H Q := h
end
end L2

/-! facts of classes, as truths -/
namespace L2
open PySem
def difB : List Addr → Bool
  | [] => true
  | a :: as => as.all (fun b => !decide (a = b)) && difB as
theorem difB_ne {a b : Addr} : ∀ {l : List Addr} {i j : Nat}, difB l = true → l[i]? = some a → l[j]? = some b → i < j → a ≠ b
  | [], i, j, _, h, _, _ => by simp at h
  | c :: l, i, j, h, hi, hj, hij => by
    rw [difB, Bool.and_eq_true, List.all_eq_true] at h
    cases j with
    | zero => omega
    | succ j =>
      rw [List.getElem?_cons_succ] at hj
      cases i with
      | zero =>
        have : c = a := by simpa using hi
        subst this
        have := h.1 b (List.mem_of_getElem? hj)
        intro e
        subst e
        simp at this
      | succ i =>
        rw [List.getElem?_cons_succ] at hi
        exact difB_ne h.2 hi hj (by omega)
/-- of class c, and with the plain == -/
def subB (K : PySem.W.Frag) (C c : Addr) : Bool := decide (PySem.W.kitOne K (.ref C) (.ref c) = some true) && (decide (PySem.W.mroIn K C (.type "object") = some true) && decide (PySem.W.findIn K (.ref C) "__eq__" = some (some (.builtin "object.__eq__"))))
end L2
namespace L2
open PySem
/-- each of these is of its own class and of E alone -/
def kitTab (K : PySem.W.Frag) (cs : List Addr) (E : Addr) : Bool := cs.all fun c => decide (PySem.W.kitOne K (.ref c) (.ref E) = some true) && (decide (PySem.W.mroIn K c (.type "object") = some true) && (decide (PySem.W.findIn K (.ref c) "__eq__" = some (some (.builtin "object.__eq__"))) && cs.all fun c' => decide (PySem.W.kitOne K (.ref c) (.ref c') = some (decide (c = c')))))
end L2

/-! ### repr of nested things: the bounds; comprehensions that make things -/
namespace L2
open PySem PySem.Spec PyProof.Rows
open TL (tl)
/-- may be shown: nested at most D deep, its signs and things at most B -/
def RpOk (D B : Nat) (d : PyData) : Prop := d.showable = true ∧ d.canLay0 = true ∧ d.leavesShort 13 = true ∧ d.depth ≤ D ∧ d.bulk ≤ B
def RpAll (D B : Nat) (ds : List PyData) : Prop := PyData.showableAll ds = true ∧ PyData.canLayAll0 ds = true ∧ PyData.leavesShortAll 13 ds = true ∧ PyData.depthAll ds ≤ D ∧ PyData.bulkAll ds ≤ B
theorem RpOk.mono {D B D2 B2 : Nat} {d : PyData} (h : RpOk D B d) (hD : D ≤ D2) (hB : B ≤ B2) : RpOk D2 B2 d := ⟨h.1, h.2.1, h.2.2.1, Nat.le_trans h.2.2.2.1 hD, Nat.le_trans h.2.2.2.2 hB⟩
theorem rp_non : RpOk 0 0 .none := ⟨by simp only [PyData.showable], by simp only [PyData.canLay0], by simp only [PyData.leavesShort], by simp only [PyData.depth]; omega, by simp only [PyData.bulk]; omega⟩
theorem rp_bl (b : Bool) : RpOk 0 0 (.bool b) := ⟨by simp only [PyData.showable], by simp only [PyData.canLay0], by simp only [PyData.leavesShort], by simp only [PyData.depth]; omega, by simp only [PyData.bulk]; omega⟩
theorem rp_int {i : Int} (h : i.natAbs < 10 ^ 12) : RpOk 0 0 (.int i) := by
  refine ⟨?_, by simp only [PyData.canLay0], ?_, by simp only [PyData.depth]; omega, by simp only [PyData.bulk]; omega⟩
  · simp only [PyData.showable, decide_eq_true_eq]
    by_cases h0 : i.natAbs = 0
    · rw [h0]; decide
    · have h1 : i.natAbs.log2 < 40 := (Nat.log2_lt h0).mpr (Nat.lt_trans h (by decide))
      omega
  · simp only [PyData.leavesShort, decide_eq_true_eq]
    exact PyData.shown_int_le h
theorem rp_str {x : Str} (h : OkT x) : RpOk 0 x.length (.str x) := by
  refine ⟨by simp only [PyData.showable], by simp only [PyData.canLay0]; exact okT_V h, ?_, by simp only [PyData.depth]; omega, by simp only [PyData.bulk]; exact Nat.le_refl _⟩
  simp only [PyData.leavesShort, List.all_eq_true, decide_eq_true_eq]
  exact fun c hc => Nat.lt_trans (h c hc) (by decide)
theorem rp_nil : RpAll 0 0 [] := ⟨by simp only [PyData.showableAll], by simp only [PyData.canLayAll0], by simp only [PyData.leavesShortAll], by simp only [PyData.depthAll]; omega, by simp only [PyData.bulkAll]; omega⟩
theorem rp_cons {D B D2 B2 : Nat} {d : PyData} {ds : List PyData} (h : RpOk D B d) (k : RpAll D2 B2 ds) : RpAll (max D D2) (B + 1 + B2) (d :: ds) := by
  obtain ⟨h1, h2, h3, h4, h5⟩ := h
  obtain ⟨k1, k2, k3, k4, k5⟩ := k
  refine ⟨by simp only [PyData.showableAll, h1, k1, Bool.and_self], by simp only [PyData.canLayAll0, h2, k2, Bool.and_self], by simp only [PyData.leavesShortAll, h3, k3, Bool.and_self], by simp only [PyData.depthAll]; omega, by simp only [PyData.bulkAll]; omega⟩
theorem rp_tup {D B : Nat} {ds : List PyData} (h : RpAll D B ds) : RpOk (D + 1) B (.tuple ds) := by
  obtain ⟨h1, h2, h3, h4, h5⟩ := h
  exact ⟨by simp only [PyData.showable, h1], by simp only [PyData.canLay0, h2], by simp only [PyData.leavesShort, h3], by simp only [PyData.depth]; omega, by simp only [PyData.bulk]; omega⟩
theorem rp_lst {D B : Nat} {ds : List PyData} (h : RpAll D B ds) : RpOk (D + 1) B (.list ds) := by
  obtain ⟨h1, h2, h3, h4, h5⟩ := h
  exact ⟨by simp only [PyData.showable, h1], by simp only [PyData.canLay0, h2], by simp only [PyData.leavesShort, h3], by simp only [PyData.depth]; omega, by simp only [PyData.bulk]; omega⟩
theorem rp_all {D B : Nat} : ∀ {ds : List PyData}, (∀ d ∈ ds, RpOk D B d) → RpAll D (ds.length * (B + 1)) ds
  | [], _ => ⟨by simp only [PyData.showableAll], by simp only [PyData.canLayAll0], by simp only [PyData.leavesShortAll], by simp only [PyData.depthAll]; omega, by simp only [PyData.bulkAll]; omega⟩
  | d :: ds, h => by
    obtain ⟨h1, h2, h3, h4, h5⟩ := rp_cons (h d List.mem_cons_self) (rp_all (ds := ds) fun e he => h e (List.mem_cons_of_mem _ he))
    refine ⟨h1, h2, h3, by omega, ?_⟩
    rw [List.length_cons, Nat.succ_mul]
    omega
theorem c_repr {K : PySem.W.Frag} {H : Hp} {Q : VK} {a : Addr} {d : PyData} {D B : Nat} (h : Dp K H (.ref a) d) (r : RpOk D B d) (q : Q (.str d.shown) H) (hD : D ≤ 60 := by decide) (hB : B ≤ 2 ^ 20 := by decide) : rRepr K [.ref a] H Q :=
  ⟨a, d, rfl, h, r.1, PyData.hasDict_of_canLay d r.2.1, Nat.le_trans r.2.2.2.1 hD, PyData.shown_fits_bulk (B := 13) (by decide) (by decide) r.2.2.1 (Nat.le_trans r.2.2.2.2 hB), q⟩
theorem BoxAt.up {H H2 : Hp} {b : Addr} (h : BoxAt H b) (e : Evl.Ex H H2) : BoxAt H2 b := let ⟨x, y, z, p, q⟩ := h; ⟨x, y, z, p, e _ _ q⟩
theorem RpOk.shaped {D B : Nat} {d : PyData} (h : RpOk D B d) (hD : D ≤ 64 := by decide) : SeqAt.shaped d = true := by
  unfold SeqAt.shaped
  rw [h.2.1, Bool.true_and, decide_eq_true_eq]
  exact Nat.le_trans h.2.2.2.1 hD
/-- s * n, n nought or one -/
theorem op_rep_str01 {X : Cx} : OpR X (binaryOp .Mult) (fun x y H Q => ∃ (z : Str) (n : Int), x = .str z ∧ y = .int n ∧ ((n = 0 ∧ Q (.str Str.empty) H) ∨ (n = 1 ∧ Q (.str z) H))) := by
  intro pins s σ H x y v u Q I rx ry h
  obtain ⟨z, n, rfl, rfl, h⟩ := h
  obtain ⟨t, rfl⟩ := rx
  obtain ⟨t', rfl⟩ := ry
  rcases h with ⟨rfl, q⟩ | ⟨rfl, q⟩
  · exact PySem.P.mul_str_none (by decide) (by decide) ⟨.str Str.empty, H, I.tok _, ⟨_, rfl⟩, q⟩
  · refine PySem.P.mul_str (by decide) (fun _ h2 => absurd h2 (by simp)) (fun _ h2 => absurd h2 (by simp)) ?_
    rw [if_neg (by decide), if_pos (by rfl)]
    exact ⟨.str z, H, I, ⟨_, rfl⟩, q⟩
/-- all that is no list stays -/
def NL (H H2 : Hp) : Prop := ∀ a o, (∀ ys, o ≠ HO.lst ys) → H a = some o → H2 a = some o
theorem NL.of {H H2 : Hp} (e : Evl.Ex H H2) : NL H H2 := fun a o _ h => e a o h
theorem NL.trans {H H2 H3 : Hp} (e : NL H H2) (e2 : NL H2 H3) : NL H H3 := fun a o n h => e2 a o n (e a o n h)
theorem NL.upd {H : Hp} {f : Addr} {xs ys : List V} (h : H f = some (.lst xs)) : NL H (upd H f (.lst ys)) := fun a o n ha => by
  rw [upd_ne (ne_of ha h (n xs))]
  exact ha
theorem NL.box {H H2 : Hp} {b : Addr} (e : ExB b H H2) (h : BoxAt H b) : NL H H2 := fun a o n ha => by
  obtain ⟨x, y, z, _, q⟩ := h
  exact e a o (ne_of ha q (n _)) ha
section
variable {K : PySem.W.Frag} {σ : St} {H : Hp} {Q : VK} {g : TG} {tt : TT} {te : TE} {vs : List Nat}
theorem lcTN {a : Addr} {xs : List V} (P : Nat → V → Hp → Prop) (hst : ∀ i y G G2, NL G G2 → P i y G → P i y G2) (hs : SqT K H a xs) (hn : xs.length ≤ 1000)
    (ht : ∀ (i : Nat) (x : V), xs[i]? = some x → ∀ H2, Evl.Ex H H2 → ∀ (R : V → Hp → Prop) (N : Hp → Prop), (∀ y H3, Evl.Ex H2 H3 → P i y H3 → R y H3) →
      g x (wipe σ vs) H2 fun σ2 H3 => wipe σ2 vs = wipe σ vs ∧ tt σ2 H3 fun c H4 => if c = true then te σ2 H4 fun y H5 => R y H5 else N H4)
    (k : ∀ ys p H2, ys.length = xs.length → (∀ i y, ys[i]? = some y → P i y H2) → H p = none → Evl.Ex H H2 → H2 p = some (.lst ys) → Q (.ref p) H2) : LcI (Itt K a) g tt te vs σ H Q := by
  refine fun D hD => ?_
  have ex : ∀ {G : Hp} {o : HO}, Evl.Ex H G → Evl.Ex H (upd G D o) := fun e b u hb => by rw [upd_ne (ne_of_none hb hD)]; exact e b u hb
  refine lc_tup (xs := xs) (fun i H' => i ≤ xs.length ∧ Evl.Ex H H' ∧ ∃ ys, ys.length = i ∧ (∀ j y, ys[j]? = some y → P j y H') ∧ H' D = some (.lst ys))
    ⟨Nat.zero_le _, ex (Evl.Ex.refl _), [], rfl, (fun j y h => by simp at h), upd_same⟩ (fun i H' _ p => Evl.ex_t p.2.1 hs) (fun i x H' hi p => ?_) (fun H' p => ?_)
  · obtain ⟨_, e1, ys, hl, hy, hD'⟩ := p
    have hil := (List.getElem?_eq_some_iff.mp hi).1
    refine ht i x hi H' e1 (fun y H4 => ∃ acc, H4 D = some (.lst acc) ∧ acc.length < sizeLine ∧ (i + 1 ≤ xs.length ∧ Evl.Ex H (upd H4 D (.lst (acc ++ [y]))) ∧ ∃ zs, zs.length = i + 1 ∧ (∀ j y2, zs[j]? = some y2 → P j y2 (upd H4 D (.lst (acc ++ [y])))) ∧ upd H4 D (.lst (acc ++ [y])) D = some (.lst zs))) _ (fun y H3 e3 py => ?_)
    have hD3 := e3 _ _ hD'
    have eD : NL H3 (upd H3 D (.lst (ys ++ [y]))) := NL.upd hD3
    refine ⟨ys, hD3, Evl.sz_lt (by omega), hil, ex (e1.trans e3), ys ++ [y], by rw [List.length_append, hl]; rfl, fun j y2 hj => ?_, upd_same⟩
    rcases Nat.lt_or_ge j ys.length with h | h
    · rw [List.getElem?_append_left h] at hj
      exact hst _ _ _ _ eD (hst _ _ _ _ (NL.of e3) (hy j y2 hj))
    · rw [List.getElem?_append_right h] at hj
      have hj0 : j - ys.length = 0 := by
        have := (List.getElem?_eq_some_iff.mp hj).1
        rw [List.length_singleton] at this
        omega
      rw [hj0] at hj
      have hyy : y = y2 := by simpa using hj
      subst hyy
      have : j = i := by omega
      subst this
      exact hst _ _ _ _ eD py
  · obtain ⟨_, e1, ys, hl, hy, hD'⟩ := p
    exact k ys D H' hl hy hD e1 hD'
/-- the same over range(n), with draws -/
theorem lcRN {n : Nat} {b : Addr} (P : Nat → V → Hp → Prop) (hst : ∀ i y G G2, NL G G2 → P i y G → P i y G2) (hn : n ≤ 1000) (hB : BoxAt H b)
    (ht : ∀ (i : Nat), i < n → ∀ H2, BoxAt H2 b → ExB b H H2 → ∀ (R : V → Hp → Prop) (N : Hp → Prop), (∀ y H3, ExB b H2 H3 → BoxAt H3 b → P i y H3 → R y H3) →
      g (.int (i : Int)) (wipe σ vs) H2 fun σ2 H3 => wipe σ2 vs = wipe σ vs ∧ tt σ2 H3 fun c H4 => if c = true then te σ2 H4 fun y H5 => R y H5 else N H4)
    (k : ∀ ys p H2, ys.length = n → (∀ i y, ys[i]? = some y → P i y H2) → H p = none → ExB b H H2 → BoxAt H2 b → H2 p = some (.lst ys) → Q (.ref p) H2) : LcI (Itr 0 n) g tt te vs σ H Q := by
  refine fun D hD => ?_
  obtain ⟨ob, hob⟩ := hB.some
  have nDb : D ≠ b := (ne_of_none hob hD).symm
  have bx : ∀ {G : Hp} {o : HO}, BoxAt G b → BoxAt (upd G D o) b := fun ⟨x, y, z, p, q⟩ => ⟨x, y, z, p, by rw [upd_ne nDb.symm]; exact q⟩
  have ex : ∀ {G : Hp} {o : HO}, ExB b H G → ExB b H (upd G D o) := fun e a u na ha => by rw [upd_ne (ne_of_none ha hD)]; exact e a u na ha
  refine lc_range (lo := 0) (n := n) (fun i H' => i ≤ n ∧ ExB b H H' ∧ BoxAt H' b ∧ ∃ ys, ys.length = i ∧ (∀ j y, ys[j]? = some y → P j y H') ∧ H' D = some (.lst ys))
    ⟨Nat.zero_le _, ex (ExB.refl _ _), bx hB, [], rfl, (fun j y h => by simp at h), upd_same⟩ (fun i H' hi p => ?_) (fun H' p => ?_)
  · obtain ⟨_, e1, b1, ys, hl, hy, hD'⟩ := p
    have e0 : (0 : Int) + (i : Int) = (i : Int) := Int.zero_add _
    rw [e0]
    refine ht i hi H' b1 e1 (fun y H4 => ∃ acc, H4 D = some (.lst acc) ∧ acc.length < sizeLine ∧ (i + 1 ≤ n ∧ ExB b H (upd H4 D (.lst (acc ++ [y]))) ∧ BoxAt (upd H4 D (.lst (acc ++ [y]))) b ∧ ∃ zs, zs.length = i + 1 ∧ (∀ j y2, zs[j]? = some y2 → P j y2 (upd H4 D (.lst (acc ++ [y])))) ∧ upd H4 D (.lst (acc ++ [y])) D = some (.lst zs))) _ (fun y H3 e3 b3 py => ?_)
    have hD3 := e3 _ _ nDb hD'
    have eD : NL H3 (upd H3 D (.lst (ys ++ [y]))) := NL.upd hD3
    refine ⟨ys, hD3, Evl.sz_lt (by omega), hi, ex (e1.trans e3), bx b3, ys ++ [y], by rw [List.length_append, hl]; rfl, fun j y2 hj => ?_, upd_same⟩
    rcases Nat.lt_or_ge j ys.length with h | h
    · rw [List.getElem?_append_left h] at hj
      exact hst _ _ _ _ eD (hst _ _ _ _ (NL.box e3 b1) (hy j y2 hj))
    · rw [List.getElem?_append_right h] at hj
      have hj0 : j - ys.length = 0 := by
        have := (List.getElem?_eq_some_iff.mp hj).1
        rw [List.length_singleton] at this
        omega
      rw [hj0] at hj
      have hyy : y = y2 := by simpa using hj
      subst hyy
      have : j = i := by omega
      subst this
      exact hst _ _ _ _ eD py
  · obtain ⟨_, e1, b1, ys, hl, hy, hD'⟩ := p
    exact k ys D H' hl hy hD e1 b1 hD'
theorem c_noneIn {p : Addr} {xs : List V} (h : SqL K H p xs) (hn : ∀ z ∈ xs, NoneOr K H z) (hr : ∀ z ∈ xs, z ≠ .non) (q : Q (.bl false) H) : rNoneIn K false .non (.ref p) H Q := by
  refine ⟨p, xs, rfl, rfl, h, hn, ?_⟩
  have e : xs.any isNon = false := by
    rw [List.any_eq_false]
    intro z hz he
    cases z with
    | non => exact hr _ hz rfl
    | _ => cases he
  show Q (.bl (xs.any isNon)) H
  rw [e]
  exact q
end
end L2

/-! ### C.m(self, ..), m a def of the class -/
namespace L2
open PySem PySem.Spec PyProof.Rows
structure CmC (K : PySem.W.Frag) (B f : Addr) (m : Str) : Prop where
  rd : PySem.W.readsIn K B (.type "type") = true
  ga : PySem.W.specialIn K (.ref B) "__getattribute__" = some (some (.builtin "type.__getattribute__"))
  at_ : PySem.W.findCls K (.ref B) (.type "type") m = some (.val (.ref f))
def cmB (K : PySem.W.Frag) (B f : Addr) (m : Str) : Bool := PySem.W.readsIn K B (.type "type") && (decide (PySem.W.specialIn K (.ref B) "__getattribute__" = some (some (.builtin "type.__getattribute__"))) && (match PySem.W.findCls K (.ref B) (.type "type") m with | some (.val (.ref g)) => decide (g = f) | _ => false))
theorem cmB_ok {K : PySem.W.Frag} {B f : Addr} {m : Str} (h : cmB K B f m = true) : CmC K B f m := by
  unfold cmB at h
  simp only [Bool.and_eq_true, decide_eq_true_eq] at h
  obtain ⟨h1, h2, h3⟩ := h
  split at h3
  · rename_i g e
    rw [decide_eq_true_eq] at h3
    subst h3
    exact ⟨h1, h2, e⟩
  · cases h3
section
variable {X : Cx} {CX : CXT} {k : Nat} {B f : Addr} {fd : FuncData} {ps : List Str} {sp : Sp} {E : XK} {x m : Str} {a1 : Expr} {ar : List Expr} {ta : TA} {q1 q2 qc : Pos}
theorem pe_cm {pl : Sem Bool} (hg : Gl X x) (hm : X.mg x = some (.ref B)) (T : CmC X.K B f m) (F : FnOk X.prog X.w X.K X.mg X.base CX k f fd ps sp) (hr : Room k X.A) (hk : PySem.W.keepIn X.K (.ref f) = true) (hb : Binds X.K fd ps []) (hx : Passes CX X E) (ha : PA X (a1 :: ar) ta)
    (hcal : eval (.Call (.Attribute (.Name x q1) m q2) (a1 :: ar) [] qc) X.env = (eval (.Name x q1) X.env >>= fun ov => standAt q2.atName >>= fun _ => holding [ov] (getMethod ov m pl) >>= fun r => callWith qc r.1 r.2 (backTo qc (starEach (a1 :: ar) X.env)) (backToKw qc (keywordEach [] X.env))) := by rfl)
    (hst : starEach (a1 :: ar) X.env = (false, eval a1 X.env) :: starEach ar X.env := by rfl) (hps : (backTo qc (starEach ar X.env)).any (·.1) = false := by rfl) (hdb : (x == ("__debug__" : Str)) = false := by decide) :
    PE X (.Call (.Attribute (.Name x q1) m q2) (a1 :: ar) [] qc) (tCall sp [] E ta) := by
  refine ⟨fun pins s σ H Q I h => ?_⟩
  refine PySem.W.methodCall_KW (ld_glob I hg hm ?_ hdb) hcal
  refine PySem.W.method_cls I.kIn T.ga (PySem.W.cls_value I.kIn T.rd T.at_ (by rfl) ?_)
  refine PySem.W.callWith_K (first := []) (h₀ := X.base) I.ok.mod.kin hk (thn (ha.run qc pins _ σ H _ (I.tok _) h) fun us s2 h2 => ?_) hst hps
  obtain ⟨vs, H2, I2, r, q2⟩ := h2
  exact ⟨I2.kIn, run_fn (us := us) (vs := vs) (dvs := []) F hr hb .nil hx I2 r (by rw [List.append_nil]; rw [List.append_nil] at q2; exact q2)⟩
end
end L2
namespace L2
open PySem PySem.Spec PyProof.Rows
theorem c_sdput {σ : St} {H : Hp} {D : Ends} {td ty tv : TE} (h : tv σ H fun v H1 => td σ H1 fun x H2 => ty σ H2 fun y H3 => ∃ a H4, x = .ref a ∧ DPut H3 a y v H4 ∧ D.nx σ H4) : sDPut td ty tv D σ H := h
theorem c_dget {σ : St} {H : Hp} {Q : VK} {td ty : TE} (h : td σ H fun x H1 => ty σ H1 fun y H2 => ∃ a v, x = .ref a ∧ DGet H2 a y (some v) ∧ Q v H2) : tDGet td ty σ H Q := h
end L2
namespace L2
open PySem PySem.Spec PyProof.Rows
section
variable {σ : St} {H : Hp} {Q : VK} {ta : TA} {te : TE} {sp : Sp} {E : St → XK} {C a : Addr} {cls : Value} {d : Option Addr} {f : Str} {W : XK}
theorem c_callS (h : ta σ H fun vs H1 => sp vs H1 Q (E σ)) : tCallS sp E ta σ H Q := h
theorem c_xf (h : te σ H fun x H1 => x = .ref a ∧ cls = .ref C ∧ ∃ (dd : Addr) (fs : List (Str × V)) (v : V), d = some dd ∧ H1 dd = some (.xd fs) ∧ fs.lookup f = some v ∧ Q v H1) : tXf a cls d C f te σ H Q := h
/-- what the making of an error that is raised asks -/
def RaP (C : Addr) (sp : Sp) (vs : List V) (H1 : Hp) (W : XK) : Prop := vs.length ≤ 1000 ∧ ∀ a, H1 a = none → sp (.ref a :: (vs ++ [])) (upd H1 a (exo a C none))
  (fun v H2 => v = .non ∧ ∃ (d : Addr) (fs : List (Str × V)), H2 a = some (exo a C (some d)) ∧ H2 d = some (exd d fs) ∧ H1 d = none ∧ W (.ref C) (some d) (upd (del H2 a) d (.xd fs))) (fun _ _ _ => False)
theorem c_mko (h : ta σ H fun vs H1 => RaP C sp vs H1 W) : tMkO C sp [] ta σ H W := h
theorem raise1 {u : V} (k : ∀ d H2, H d = none → Evl.Ex H H2 → H2 d = some (.xd [(f, u)]) → W (.ref C) (some d) H2) : RaP C (sp_err1 C f) [u] H W := by
  refine ⟨by simp, fun a ha => ⟨a, u, rfl, upd_same, fun d H2 hd nda hk h2a h2d => ⟨rfl, d, _, h2a, h2d, ?_, k d _ ?_ (fun b o hb => ?_) upd_same⟩⟩⟩
  · rw [upd_ne nda] at hd; exact hd
  · rw [upd_ne nda] at hd; exact hd
  · have nba : b ≠ a := ne_of_none hb ha
    have nbd : b ≠ d := by
      rw [upd_ne nda] at hd
      exact ne_of_none hb hd
    rw [upd_ne nbd, del_ne nba, hk b nba nbd, upd_ne nba]
    exact hb
end
end L2

/-! ### dicts: in, get -/
namespace L2
open PySem PySem.Spec PyProof.Rows
section
variable {X : Cx}
def rInDk : R2 := fun y x H Q => ∃ a o, x = .ref a ∧ DGet H a y o ∧ Q (.bl o.isSome) H
def rNotInDk : R2 := fun y x H Q => ∃ a o, x = .ref a ∧ DGet H a y o ∧ Q (.bl (!o.isSome)) H
theorem op_inDk (hu : X.A.units + 1 < cLine) : OpR X (compareOp .In) rInDk := by
  intro pins s σ H y x v u Q I ry rx h
  obtain ⟨a, o, rfl, g, q⟩ := h
  cases (show u = Value.ref a from rx)
  exact d_in hu I g ry fun s3 I3 => ⟨.bl o.isSome, H, I3, rfl, q⟩
theorem op_notInDk (hu : X.A.units + 1 < cLine) : OpR X (compareOp .NotIn) rNotInDk := by
  intro pins s σ H y x v u Q I ry rx h
  obtain ⟨a, o, rfl, g, q⟩ := h
  cases (show u = Value.ref a from rx)
  exact d_notIn hu I g ry fun s3 I3 => ⟨.bl (!o.isSome), H, I3, rfl, q⟩
end
end L2
/-! ### o.m(..) in a try, where m may raise -/
namespace L2
open PySem PySem.Spec PyProof.Rows
section
variable {X : Cx} {CX : CXT} {k : Nat} {sp : Addr → Sp} {E : St → XK} {m : Str} {o a1 : Expr} {ar : List Expr} {te : TE} {ta : TA} {qa qc : Pos} {M : Addr → Prop}
def tMPS (M : Addr → Prop) (m : Str) (sp : Addr → Sp) (E : St → XK) (te : TE) (ta : TA) : TE := fun σ H Q => te σ H fun x H1 => ∃ a C dx fs, x = .ref a ∧ H1 a = some (.ins C dx fs) ∧ M C ∧ fs.lookup m = none ∧ ta σ H1 fun vs H2 => sp C (x :: vs) H2 Q (E σ)
theorem pe_methPS {pl : Sem Bool} (he : PE X o te) (hM : ∀ C, M C → MOk X.prog X.w X.K X.mg X.base CX k C m (sp C)) (hr : Room k X.A) (hx : ∀ σ, PassesAt CX X σ (E σ)) (ha : PA X (a1 :: ar) ta)
    (hst : starEach (a1 :: ar) X.env = (false, eval a1 X.env) :: starEach ar X.env := by rfl) (hps : (backTo qc (starEach ar X.env)).any (·.1) = false := by rfl)
    (hcal : eval (.Call (.Attribute o m qa) (a1 :: ar) [] qc) X.env = (eval o X.env >>= fun ov => standAt qa.atName >>= fun _ => holding [ov] (getMethod ov m pl) >>= fun r => callWith qc r.1 r.2 (backTo qc (starEach (a1 :: ar) X.env)) (backToKw qc (keywordEach [] X.env))) := by rfl) :
    PE X (.Call (.Attribute o m qa) (a1 :: ar) [] qc) (tMPS M m sp E te ta) := by
  refine ⟨fun pins s σ H Q I h => ?_⟩
  refine PySem.W.methodCall_KW (pl := pl) (thn (he.run pins s σ H _ I h) fun u s1 hh => ?_) hcal
  obtain ⟨x, H1, I1, rx, a, C, dx, fs, rfl, ea, hC, l, q⟩ := hh
  obtain rfl : u = Value.ref a := rx
  obtain ⟨cl, f, fd, ps, hm, F, hb⟩ := hM C hC
  refine getmeth_ok I1 ea cl hm l ?_
  refine PySem.W.callWith_K (first := [.ref a]) (h₀ := X.base) I.ok.mod.kin hm.kp (thn (ha.run qc pins s1 σ H1 _ I1 q) fun us s2 h2 => ?_) hst hps
  obtain ⟨vs, H2, I2, r, q2⟩ := h2
  exact ⟨I2.kIn, run_fnS (us := .ref a :: us) (vs := .ref a :: vs) F hr hb (hx σ) I2 (.cons rfl r) q2⟩
theorem c_mps {σ : St} {H : Hp} {Q : VK} (h : te σ H fun x H1 => ∃ a C dx fs, x = .ref a ∧ H1 a = some (.ins C dx fs) ∧ M C ∧ fs.lookup m = none ∧ ta σ H1 fun vs H2 => sp C (x :: vs) H2 Q (E σ)) : tMPS M m sp E te ta σ H Q := h
end
end L2

/-! ### the end over a head by facts -/
namespace HandSHeadRun
/-- a list of numbers, reckoned first -/
def frL {α : Type} : List Nat → (List Nat → α) → α
  | [], k => k []
  | a :: as, k => frNat a fun b => frL as fun bs => k (b :: bs)
end HandSHeadRun
namespace L2
open PySem PySem.Spec PyProof.Rows
/-- as walk_ofE, the promise over A with nothing shown -/
theorem walk_ofEG {l : PySem.W.OpenLaw} {n k : Nat} {q : Program} {loose : List Str} {XP : (Str → Option Value) → Heap → Prop} {YP : World → Heap → Prop} {d : DefRec} {CX : CXT} {x : Str} (hn : l.most = some n) (hn2 : n ≤ sizeLine) (hdf : d.params.defaults = []) (hr : Room k callerA)
    (F : ∀ (w : World) (mg : Str → Option Value) (fa : Addr) (h : Heap), YP w h → h.Ns mainGlobals mg → mg d.name = some (.ref fa) → ∃ (K : PySem.W.Frag) (fd : FuncData) (sp : Sp), K.In h ∧ (∀ (s : Shared) (u : Value), BindsTo s fd ⟨[u], []⟩ [(x, u)]) ∧
        (∀ (H : Hp) (a : Addr) (ns : List Int), ns.length ≤ n → Only H → SqL K H a (ns.map V.int) → sp [.ref a] H (fun v _ => v = .bl true) fun _ _ _ => False) ∧ ∀ base : Heap, K.In base → base.Ns mainGlobals mg → FnG l.prog w K mg base CX k fa fd [x] sp)
    (hCX : ∀ (H : Hp) (s : Shared) (e : Value) (s' : Shared), CX [] H s (fun _ _ _ => False) e s' → False) : PySem.W.WalkO q loose XP YP l.row.toRowW d [] (fun f vs => PySem.call f vs) := by
  refine Att.attach_call hn hdf fun w s0 z1 mg mb fa o pm cd doc a vs ns G Y ho hd hcd hmg hobj hints hlen hg => ?_
  obtain ⟨K, fd, sp, KX, hb, hsp, hF⟩ := F w mg fa _ Y G.T.g hmg
  exact law_callG KX G.T.g G.T.b G.T.builtins G.T.nolimit hg hobj hints (Nat.le_trans hlen hn2) hr hF hb (fun H hO hS => hsp H a ns hlen hO hS) fun H e s' => hCX H z1 e s'
theorem fun_ofD {K : PySem.W.Frag} {x qual : Str} {st : Stmt} {f : Addr} {fd : FuncData} (F : FunD K x qual (defArgs st) (defBody st) (defScope st) [] [] f fd) : Fun K x qual st f fd := by
  obtain ⟨oc, od, dV, kV, doc, pm, an, cdv, ct, osl, e, lk, hcd, hD, _⟩ := F.ex
  rcases hD with ⟨_, rfl⟩ | ⟨z, _⟩
  · exact ⟨⟨oc, od, kV, doc, pm, an, cdv, ct, osl, e, lk, hcd⟩, F.kp⟩
  · exact absurd rfl z
theorem allAt {l : List Bool} (h : l.all id = true) (i : Nat) {b : Bool} (e : l[i]? = some b) : b = true := List.all_eq_true.mp h b (List.mem_of_getElem? e)
def strB (v : Value) (s : Str) : Bool := match v with
  | .str t _ => decide (t = s)
  | _ => false
def strsB : List Value → List Str → Bool
  | [], [] => true
  | v :: vs, s :: ss => strB v s && strsB vs ss
  | _, _ => false
theorem strsB_ok : ∀ {vs : List Value} {ss : List Str}, strsB vs ss = true → Vals (ss.map V.str) vs
  | [], [], _ => .nil
  | v :: vs, s :: ss, h => by
    rw [strsB, Bool.and_eq_true] at h
    refine .cons ?_ (strsB_ok h.2)
    cases v with
    | str t tk => exact ⟨tk, by rw [of_decide_eq_true (show decide (t = s) = true from h.1)]⟩
    | _ => exact absurd h.1 Bool.false_ne_true
  | [], _ :: _, h => absurd h Bool.false_ne_true
  | _ :: _, [], h => absurd h Bool.false_ne_true
/-- a tuple of texts of the written part -/
def tupB (K : PySem.W.Frag) (a : Addr) (ss : List Str) : Bool := match K.lookup a with
  | some ⟨.type c, _, .seq its _, _⟩ => decide (c = "tuple") && (decide (its.size ≤ 1000) && strsB its.toList ss)
  | _ => false
theorem tupB_ok {K : PySem.W.Frag} {a : Addr} {ss : List Str} (h : tupB K a ss = true) (H : Hp) : SqT K H a (ss.map V.str) := by
  unfold tupB at h
  split at h
  · rename_i c d its n sl e
    simp only [Bool.and_eq_true, decide_eq_true_eq] at h
    refine .inr ⟨_, its, n, e, ?_, rfl, Nat.le_trans h.2.1 (by decide), strsB_ok h.2.2⟩
    rw [h.1]
  · cases h
end L2
namespace L2
open PySem PySem.Spec PyProof.Rows
/-- where the named things stand: the module's names, classes and their tables, defs and their code -/
def nsOf (g : Addr → Option Obj) (C : Addr) : Addr := match g C with
  | some ⟨_, _, .cls cd, _⟩ => cd.ns
  | _ => 0
def cdOf (g : Addr → Option Obj) (f : Addr) : Addr := match g f with
  | some ⟨_, _, .func fd, _⟩ => (match fd.code with
    | .ref c => c
    | _ => 0)
  | _ => 0
def adrK (g : Addr → Option Obj) (cs ts : List Str) (fs : List (Str × Option Str)) : List Addr :=
  HandSHeadRun.frL (cs.map (He.ga (He.frG g [mainGlobals]))) fun ca => HandSHeadRun.frL (ca.map (nsOf g)) fun na =>
    HandSHeadRun.frL (fs.map (He.fAd (He.frG g (mainGlobals :: (ca ++ na))))) fun fa => HandSHeadRun.frL (fa.map (cdOf g)) fun ka =>
      HandSHeadRun.frL (ts.map (He.ga (He.frG g [mainGlobals]))) fun ta => mainGlobals :: cStatics :: (ca ++ (na ++ (fa ++ (ka ++ ta))))
def hkObs (cs ts : List Str) (fa : List He.Fa) (fn : List He.DefD) (ex : PySem.W.Frag → Bool) (g : Addr → Option Obj) : He.AlD × Bool := (He.obsD fa fn (He.frG g (adrK g cs ts (fn.map (·.at_)))), ex (He.frG g (adrK g cs ts (fn.map (·.at_)))))
def hookK (cs ts : List Str) (fa : List He.Fa) (fn : List He.DefD) (ex : PySem.W.Frag → Bool) : PySem.W.Hook where
  α := He.AlD × Bool
  obs := fun s => hkObs cs ts fa fn ex s.heap.get?
  val := fun _ => (He.valD fn, true)
  says := fun _ h => ∃ K : PySem.W.Frag, K.In h ∧ He.SaysD fa fn K ∧ ex K = true
  of := fun _ s e => ⟨_, He.frG_in, congrArg (fun z : He.AlD × Bool => z.1) e, congrArg (fun z : He.AlD × Bool => z.2) e⟩
  keeps := fun _ _ _ ⟨K, hK, c⟩ k => ⟨K, PySem.W.Frag.In.keeps hK k, c⟩
theorem hkObs_eq {cs ts : List Str} {fa : List He.Fa} {fn : List He.DefD} {ex : PySem.W.Frag → Bool} {g : Addr → Option Obj} {s : Shared} (h : ∀ a, g a = s.heap.get? a) : hkObs cs ts fa fn ex g = (hookK cs ts fa fn ex).obs s := by
  have e : g = s.heap.get? := funext h
  rw [e] <;> rfl
end L2

/-! ### try: clauses with a name or without, and else -/
namespace L2
open PySem PySem.Spec PyProof.Rows
abbrev Sui := Addr → Value → Option Addr → TS
/-- what the clauses wish: a class, the slot of the name (if there is one), the suite -/
def wAll (K : PySem.W.Frag) (Wo : WX) (D : Ends) : List (Value × Option Nat × Sui) → WX
  | [] => Wo
  | (c, none, ts) :: r => fun k d σ H => ∃ b, PySem.W.exmOne K k c = some b ∧ (b = true → ∀ a, H a = none → ts a k d D σ H) ∧ (b = false → wAll K Wo D r k d σ H)
  | (c, some i, ts) :: r => fun k d σ H => ∃ b, PySem.W.exmOne K k c = some b ∧ (b = true → ∀ a, H a = none → ts a k d ⟨fun σ' H' => D.nx (σ'.set i none) H', D.rt, fun σ' H' => D.bk (σ'.set i none) H', fun σ' H' => D.ct (σ'.set i none) H'⟩ (σ.set i (some (.ref a))) H) ∧ (b = false → wAll K Wo D r k d σ H)
abbrev SuiOk (X : Cx) (ss : List Stmt) (ts : Sui) : Prop := ∀ (a : Addr) (oe : Obj) (k : Value) (d : Option Addr) (pn : List (Addr × Obj)), Zc k d oe → (∃ vs, oe.data = .fields vs) → PSs (X.suite a ((a, oe) :: pn)) ss (ts a k d)
inductive Hds (X : Cx) : List ExceptHandler → List (Value × Option Nat × Sui) → Prop
  | nil : Hds X [] []
  | anon {x : Str} {c : Value} {ts : Sui} {s0 : Stmt} {ss : List Stmt} {p1 p2 : Pos} {hs : List ExceptHandler} {l : List (Value × Option Nat × Sui)} (hc : Names X x c) (su : SuiOk X (s0 :: ss) ts) (r : Hds X hs l) : Hds X (.ExceptHandler (some (.Name x p1)) none (s0 :: ss) p2 :: hs) ((c, none, ts) :: l)
  | named {x n : Str} {i : Nat} {c : Value} {ts : Sui} {s0 : Stmt} {ss : List Stmt} {p1 p2 : Pos} {hs : List ExceptHandler} {l : List (Value × Option Nat × Sui)} (hi : X.N[i]? = some n) (hk : X.env.kindOf n = some .local) (hc : Names X x c) (su : SuiOk X (s0 :: ss) ts) (r : Hds X hs l) : Hds X (.ExceptHandler (some (.Name x p1)) (some n) (s0 :: ss) p2 :: hs) ((c, some i, ts) :: l)
section
variable {X : Cx}
theorem ps_try_all {bd el : List Stmt} {g0 : ExceptHandler} {gs : List ExceptHandler} {l : List (Value × Option Nat × Sui)} {p : Pos} {tb : WX → TS} {te : TS} {Wo : WX} (hN : X.N.Nodup) (hs : X.stack = X.env :: X.outer) (hf : X.env.frame = some X.env.locals) (tk : Takes X Wo)
    (hb : ∀ (W : WX) (pn : List (Addr × Obj)) (xe : Value → Shared → Prop), Takes (X.tr pn xe) W → PassesOwn (model X.prog X.w) X.A X.env xe → PSs (X.tr pn xe) bd (tb W)) (hh : Hds X (g0 :: gs) l) (he : PSs X el te) :
    PS X (.Try bd (g0 :: gs) el [] p) (fun D σ H => tb (wAll X.K Wo D l) { D with nx := te D } σ H) := by
  refine ⟨fun pins s σ H D I h => ?_⟩
  have ok := I.ok
  have fr : X.A.frames = some (X.env :: X.outer) := by rw [ok.frames, hs]
  let M := model X.prog X.w
  let catches : Value → Shared → Prop := fun e s1 => wpAny M X.A (noteFrame e X.env) (fun _ s2 => wpAny M X.A (setFlight e none) (fun _ s3 => wpAny M X.A (handleBy e X.env (g0 :: gs)) (SP X pins D) X.xe s3) X.xe s2) X.xe s1
  refine wpAny_Try_except ?_
  have run := (hb (wAll X.K Wo D l) (X.pn ++ pins) catches (fun u s' got => ?_) PassesOwn.looking).run [] s σ H { D with nx := te D } (I.toTry _) h
  refine wpAny_mono run (fun f s1 out => ?_) (fun e s1 z => z)
  · cases f with
    | next => obtain ⟨σ1, H1, J1, q⟩ := out; exact he.run pins s1 σ1 H1 D (J1.ofTry ok) q
    | brk => obtain ⟨σ1, H1, J1, q⟩ := out; exact ⟨σ1, H1, J1.ofTry ok, q⟩
    | cont => obtain ⟨σ1, H1, J1, q⟩ := out; exact ⟨σ1, H1, J1.ofTry ok, q⟩
    | ret u => obtain ⟨v, σ1, H1, J1, r, q⟩ := out; exact ⟨v, σ1, H1, J1.ofTry ok, r, q⟩
  · obtain ⟨a, B, sI, pins1, σ1, H1, k, d, rfl, J1, nb, up, sky, na, os, ag, wish⟩ := got
    have J : Inv X pins σ1 H1 sI := J1.ofTry ok
    have sk : Sky B (X.env :: X.outer) a (Zc k d) X.env.locals s'.heap := hs ▸ sky
    show wpAny M X.A (noteFrame (.ref a) X.env) _ _ _
    refine Sky.land Zc.steady fr hf sk fun hA flA upA => ?_
    have JA : Inv X pins σ1 H1 { s' with heap := hA } := J.landed nb flA.1 (up.trans upA) os ag
    obtain ⟨oA, vA, eA, zA, dA⟩ := flA.there
    have off : a ∉ frs (X.env :: X.outer) := fun hm => by
      obtain ⟨_, o1, e1, hn⟩ := flA.2.2.1.mem hm
      rw [eA] at e1
      cases e1
      exact hn _ dA
    have off1 : a ≠ X.env.locals := fun z => off (List.mem_filterMap.mpr ⟨X.env, List.mem_cons_self, by rw [hf, z]⟩)
    have off2 : a ∉ X.fs := fun hm => by
      obtain ⟨e, h1, h2⟩ := List.mem_filterMap.mp hm
      exact off (List.mem_filterMap.mpr ⟨e, List.mem_cons_of_mem _ h1, h2⟩)
    have SA := JA.suite eA dA na off1 off2
    have ask : ∀ {x : Str} {c : Value} {np : Pos} {Q E : Value → Shared → Prop}, Names X x c → Q c { s' with heap := hA } → wpAny M (X.A.mark (some (.ref a))) (eval (.Name x np) X.env) Q E { s' with heap := hA } := fun {x c np Q E} hc q => by
      obtain ⟨hg, hd, hm | ⟨hm, hv, hn⟩⟩ := hc
      · exact ld_glob (X := X.suite a ((a, oA) :: (X.pn ++ pins))) SA hg hm q hd
      · exact ld_blt (X := X.suite a ((a, oA) :: (X.pn ++ pins))) SA hg hm hv q hn hd
    have type_ : PySem.W.Looks M hA (typeOf (.ref a)) k := fun A Q E s q1 q2 => wpAny_typeOf_ref (q1 _ _ eA) (by rw [zA.1]; exact q2)
    suffices go : ∀ {hs1 : List ExceptHandler} {l1 : List (Value × Option Nat × Sui)}, Hds X hs1 l1 → wAll X.K Wo D l1 k d σ1 H1 → wpAny M X.A (handleBy (.ref a) X.env hs1) (SP X pins D) X.xe { s' with heap := hA } from go hh wish
    intro hs1 l1 hk
    induction hk with
    | nil =>
      intro wsh
      refine wpAny_handleBy_nil ?_
      obtain ⟨_, _, _, oe, vs, T, oT, tt, e0, z0, d0, t0, r0⟩ := id flA
      unfold PySem.passOn
      refine wpAny_bind (wpAny_field e0 d0 t0 ?_)
      rw [if_neg (show ¬ ((Value.ref T == Value.none) = true) by simp)]
      have last : wpAny M X.A (setFlight (.ref a) X.env.frame) (fun _ s4 => wpAny M X.A (throw (.ref a) : Sem Flow) (SP X pins D) X.xe s4) X.xe { s' with heap := hA } := by
        rw [hf]
        refine HandSPX.setFlight_upZ flA fun hB kB upB => wpAny_throw (tk _ _ ?_)
        exact ⟨a, B, sI, pins, σ1, H1, k, d, rfl, J, nb, (up.trans upA).trans upB, .inr (.inr (hs ▸ kB)), na, os, ag, wsh⟩
      first
        | exact wpAny_bind (wpAny_pure (wpAny_bind last))
        | exact wpAny_bind last
    | @anon x c ts s0 ss p1 p2 hs2 l2 hc su r ih =>
      intro wsh
      obtain ⟨b, hb1, yes, no⟩ := wsh
      have LM := PySem.W.exm_one (M := M) JA.kIn type_ hb1
      refine wpAny_handleBy_cons (codeAny_handlers_test (ask hc (LM.here ?_))) (by intro q; cases q)
      cases b with
      | false => exact ih (no rfl)
      | true =>
        refine codeAny_handlers_suite (HandSPX.lands_againZ flA fun hB flB upB => ?_)
        have JB : Inv X pins σ1 H1 { s' with heap := hB } := J.landed nb flB.1 ((up.trans upA).trans upB) os ag
        obtain ⟨oB, vB, eB, zB, dB⟩ := flB.there
        have run2 := (su a oB k d (X.pn ++ pins) zB ⟨_, dB⟩).run [] _ _ H1 _ (JB.suite eB dB na off1 off2) (yes rfl a na)
        refine wpAny_mono run2 (fun f s6 out => ?_) (fun _ _ z => False.elim z)
        cases f with
        | next => obtain ⟨σ6, H6, S6, q6⟩ := out; exact ⟨_, _, S6.unsuite ok, q6⟩
        | brk => obtain ⟨σ6, H6, S6, q6⟩ := out; exact ⟨_, _, S6.unsuite ok, q6⟩
        | cont => obtain ⟨σ6, H6, S6, q6⟩ := out; exact ⟨_, _, S6.unsuite ok, q6⟩
        | ret u => obtain ⟨v6, σ6, H6, S6, r6, q6⟩ := out; exact ⟨_, _, _, S6.unsuite ok, r6, q6⟩
    | @named x n i c ts s0 ss p1 p2 hs2 l2 hi hkn hc su r ih =>
      intro wsh
      obtain ⟨b, hb1, yes, no⟩ := wsh
      have LM := PySem.W.exm_one (M := M) JA.kIn type_ hb1
      refine wpAny_handleBy_cons (codeAny_handlers_test (ask hc (LM.here ?_))) (by intro q; cases q)
      cases b with
      | false => exact ih (no rfl)
      | true =>
        refine codeAny_handlers_suite_as (HandSPX.lands_againZ flA fun hB flB upB => ?_)
        have JB : Inv X pins σ1 H1 { s' with heap := hB } := J.landed nb flB.1 ((up.trans upA).trans upB) os ag
        obtain ⟨oB, vB, eB, zB, dB⟩ := flB.there
        refine store_ok (X := X.suite a ((a, oB) :: (X.pn ++ pins))) (v := .ref a) (JB.suite eB dB na off1 off2) hN hi (.inl hkn) rfl (fun s5 S5 => ?_) (.inr hkn)
        have run2 := (su a oB k d (X.pn ++ pins) zB ⟨_, dB⟩).run [] s5 _ H1 _ S5 (yes rfl a na)
        refine wpAny_mono run2 (fun f s6 out => ?_) (fun _ _ z => False.elim z)
        cases f with
        | next => obtain ⟨σ6, H6, S6, q6⟩ := out; exact gone_ok (S6.unsuite ok) hN hi hkn fun s7 J7 => ⟨_, _, J7, q6⟩
        | brk => obtain ⟨σ6, H6, S6, q6⟩ := out; exact gone_ok (S6.unsuite ok) hN hi hkn fun s7 J7 => ⟨_, _, J7, q6⟩
        | cont => obtain ⟨σ6, H6, S6, q6⟩ := out; exact gone_ok (S6.unsuite ok) hN hi hkn fun s7 J7 => ⟨_, _, J7, q6⟩
        | ret u => obtain ⟨v6, σ6, H6, S6, r6, q6⟩ := out; exact gone_ok (S6.unsuite ok) hN hi hkn fun s7 J7 => ⟨_, _, _, J7, r6, q6⟩
end
end L2

/-! ### != of lists whose things are equal, within one model -/
namespace NeL
open PySem PySem.SeqAt
open AutoSeq1 (wpAny_loadPart')
open MeetsSeq MeetsSeq2 MeetsSeq3 SeqRoads2
abbrev LsAt (s : Shared) (l : Addr) (xs : Array Value) (n : Nat) (dd : Option Addr) (sl : Array (Option Value)) : Prop := s.heap.get? l = some { cls := .type "list", dict := dd, data := .seq xs n, slots := sl }
section
variable {P : Program} {w : World}
theorem loop_ne (l b : Addr) (xs ys : Array Value) (n m : Nat) (d1 d2 : Option Addr) (s1 s2 : Array (Option Value)) (hs : xs.size = ys.size) (k : Nat) : ∀ i : Nat, xs.size - i = k →
    MeetsIn P w (Builtin.«list.__eq__.loop» ⟨[.ref l, .ref b, rawInt i, rawInt 3], []⟩) (fun A R s => LsAt s l xs n d1 s1 ∧ LsAt s b ys m d2 s2 ∧ (∀ j (h1 : j < xs.size) (h2 : j < ys.size), EqP P w A.in1 s xs[j] ys[j] true) ∧ R (.ok (.ret (.bool false))) s) := by
  induction k with
  | zero =>
    intro i hi A R s hh
    obtain ⟨hp, g, d, tk, os⟩ := s
    obtain ⟨gl, gb, ge, r⟩ := hh
    wp_walk using wpAny_loadPart' gl, wpAny_loadPart' gb
    have n1 : xs[((i : Nat) : Int).toNat]? = none := by simp; omega
    have n2 : ys[((i : Nat) : Int).toNat]? = none := by simp; omega
    rw [n1, n2]
    wp_walk using wpAny_loadPart' gl, wpAny_loadPart' gb
    show R (.ok (.ret (.bool (xs.size != ys.size)))) _
    rw [hs, bne_self_eq_false]
    exact r
  | succ k ih =>
    intro i hi A R s hh
    obtain ⟨hp, g, d, tk, os⟩ := s
    obtain ⟨gl, gb, ge, r⟩ := hh
    wp_walk using wpAny_loadPart' gl, wpAny_loadPart' gb
    have l1 : i < xs.size := by omega
    have l2 : i < ys.size := by omega
    rw [show xs[((i : Nat) : Int).toNat]? = some xs[i] by simp [l1], show ys[((i : Nat) : Int).toNat]? = some ys[i] by simp [l2]]
    refine wpAny_bind (ge i l1 l2 _ _ ?_)
    wp_walk
    rw [show ((i : Int) + 1) = ((i + 1 : Nat) : Int) by push_cast; rfl]
    refine ⟨plainId_quiet plain_eq_loop _, codeAny_builtin entry_eq_loop ?_⟩
    rw [Around.under_plainId plain_eq_loop _]
    exact ih (i + 1) (by omega) A R _ ⟨gl, gb, ge, r⟩
theorem list_ne (l b : Addr) (xs ys : Array Value) (n m : Nat) (d1 d2 : Option Addr) (s1 s2 : Array (Option Value)) (hs : xs.size = ys.size) :
    MeetsIn P w (Builtin.«list.__ne__» ⟨[.ref l, .ref b], []⟩) (fun A R s => LsAt s l xs n d1 s1 ∧ LsAt s b ys m d2 s2 ∧ (∀ j (h1 : j < xs.size) (h2 : j < ys.size), EqP P w A.in1 s xs[j] ys[j] true) ∧ R (.ok (.ret (.bool false))) s) := by
  intro A R s hh
  obtain ⟨hp, g, d, tk, os⟩ := s
  obtain ⟨gl, gb, ge, r⟩ := hh
  have f3 := AutoSeq1.sub_list_list
  have nz : ¬ (xs.size != ys.size) = true := by simp [hs]
  wp_walk using wpAny_loadPart' gl, wpAny_loadPart' gb
  refine ⟨plainId_quiet plain_eq_loop _, codeAny_builtin entry_eq_loop ?_⟩
  rw [Around.under_plainId plain_eq_loop _]
  exact loop_ne l b xs ys n m d1 d2 s1 s2 hs _ 0 rfl A R _ ⟨gl, gb, ge, r⟩
theorem lists_ne {A : Around} {s : Shared} {l b : Addr} {xs ys : Array Value} (hl : s.heap.IsList l xs) (hb : s.heap.IsList b ys) (hs : xs.size = ys.size) (hu : A.units < cLine) (he : ∀ j (h1 : j < xs.size) (h2 : j < ys.size), EqP P w A.in1 s xs[j] ys[j] true) (E Q : Value → Shared → Prop) (q : Q (.bool false) s) :
    wpAny (model P w) A (richCompare .NotEq (.ref l) (.ref b)) Q E s := by
  obtain ⟨⟨c1, d1, t1, s1⟩, o1, e1, n, f1⟩ := id hl
  obtain ⟨⟨c2, d2, t2, s2⟩, o2, e2, m, f2⟩ := id hb
  simp only at e1 f1 e2 f2
  subst e1 f1 e2 f2
  have y1 : s.TypeIs (.ref l) "list" := ⟨_, o1, rfl⟩
  have y2 : s.TypeIs (.ref b) "list" := ⟨_, o2, rfl⟩
  refine wpAny_richCompare_same_room (op := .NotEq) y1 y2 F.slot_list_ne (call_meetsIn F.slot_list_ne y1 F.entry_list_ne (F.args_list_ne_2 _ _) (list_ne l b xs ys n m d1 d2 s1 s2 hs) ?_) hu
  exact ⟨o1, o2, he, show Value.bool false ≠ Value.notImplemented ∧ Q (.bool false) s from ⟨(fun x => nomatch x), q⟩⟩
end
end NeL

/-! ### dicts, what is shown of caught errors (printed by mk_bank16.py) -/
namespace L2
open PySem PySem.Spec PyProof.Rows
open TL (tl)
open Evl hiding RetV RetL
theorem putK_len (kvs : List (Key × V)) (k : Key) (v : V) : (putK kvs k v).length ≤ kvs.length + 1 := by
  unfold putK
  split
  · rw [List.length_map]; omega
  · rw [List.length_append]; simp
theorem dgetK {H : Hp} {d : Addr} {kvs : List (Key × V)} {s : Str} (h : H d = some (.dK kvs)) : DGet H d (.str s) (valV kvs (.inr s)) := .inl ⟨kvs, .inr s, .inl h, rfl, rfl⟩
theorem putK_nodup {kvs : List (Key × V)} {k : Key} {v : V} (h : (kvs.map (·.1)).Nodup) : ((putK kvs k v).map (·.1)).Nodup := by
  unfold putK
  cases ha : (kvs.any fun kv => decide (kv.1 = k)) with
  | true =>
    rw [if_pos rfl, List.map_map]
    refine (?_ : List.map _ kvs = kvs.map (·.1)) ▸ h
    refine List.map_congr_left fun p _ => ?_
    dsimp only [Function.comp]
    split <;> simp_all
  | false =>
    rw [if_neg (by decide), List.map_append, List.nodup_append]
    refine ⟨h, by simp, fun a ha2 b hb => ?_⟩
    obtain ⟨p, hp, rfl⟩ := List.mem_map.mp ha2
    have : b = k := by simpa using hb
    subst this
    intro he
    have : (kvs.any fun kv => decide (kv.1 = b)) = true := List.any_eq_true.mpr ⟨p, hp, by simpa using he⟩
    rw [ha] at this
    cases this
theorem c_lock {t : TS} {D : Ends} {σ : St} {H : Hp} {d : Addr} {u : HO} (hd : H d = some u) (hm : Mut (some u)) (h : ∀ od, t ⟨fun σ' H' => H' d = some (.frz od u) ∧ D.nx σ' (upd H' d u), fun v H' => H' d = some (.frz od u) ∧ D.rt v (upd H' d u), fun σ' H' => H' d = some (.frz od u) ∧ D.bk σ' (upd H' d u), fun σ' H' => H' d = some (.frz od u) ∧ D.ct σ' (upd H' d u)⟩ σ (upd H d (.frz od u))) : tLock t D σ H := ⟨d, u, hd, hm, h⟩
theorem c_forK {td : TE} {g : L2.TG} {tb : TS} {D : Ends} {σ : St} {H : Hp} (h : td σ H fun x H1 => ∃ d o, x = .ref d ∧ ((∃ kvs, H1 d = some (.frz o (.dK kvs)) ∧ ForI (Itk d o kvs) g tb D σ H1) ∨ ∃ kvs, H1 d = some (.frz o (.dT kvs)) ∧ ForI (Itkt d o kvs) g tb D σ H1)) : tFor (iKeys td) g tb D σ H := h
theorem forK {tb : TS} {D : Ends} {σ : St} {H : Hp} {d : Addr} {o : Obj} {kvs : List (Key × V)} {j : Nat} (Pv : Nat → St → Hp → Prop) (h0 : Pv 0 σ H) (hl : ∀ i σ' H', i ≤ kvs.length → Pv i σ' H' → H' d = some (.frz o (.dK kvs)))
    (hs : ∀ i k v σ' H', kvs[i]? = some (k, v) → Pv i σ' H' → tb { D with nx := Pv (i + 1), ct := Pv (i + 1), bk := D.nx } (σ'.set j (some (kV k))) H') (hd : ∀ σ' H', Pv kvs.length σ' H' → D.nx σ' H') : ForI (Itk d o kvs) (gName j) tb D σ H :=
  for_it walk_keys Pv h0 hl (fun i x σ' H' H'' _ p y => by
    obtain ⟨rfl, k, v, hk, rfl⟩ := y
    exact hs i k v σ' H'' hk p) hd
theorem valV_mem {kv : List (Key × V)} {k : Key} {v : V} (hn : (kv.map (·.1)).Nodup) (h : (k, v) ∈ kv) : valV kv k = some v := by
  induction kv with
  | nil => cases h
  | cons p r ih =>
    rw [List.map_cons, List.nodup_cons] at hn
    rcases List.mem_cons.mp h with e | h
    · subst e
      exact valV_pos rfl
    · have hne : ¬ p.1 = k := fun z => hn.1 (by rw [z]; exact List.mem_map.mpr ⟨(k, v), h, rfl⟩)
      rw [valV_neg hne]
      exact ih hn.2 h
theorem putK_len2 (kvs : List (Key × V)) (k : Key) (v : V) : (valV kvs k = none ∧ (putK kvs k v).length = kvs.length + 1) ∨ (putK kvs k v).length = kvs.length := by
  unfold putK
  cases h : (kvs.any fun kv => decide (kv.1 = k)) with
  | true => right; rw [if_pos rfl, List.length_map]
  | false =>
    left
    rw [valV_any] at h
    refine ⟨?_, by rw [if_neg (by decide), List.length_append]; rfl⟩
    cases hv : valV kvs k with
    | none => rfl
    | some x => rw [hv] at h; cases h
theorem valV_drop {kvs : List (Key × V)} {k k' : Key} : valV (dropK kvs k) k' = if k' = k then none else valV kvs k' := by
  induction kvs with
  | nil => split <;> rfl
  | cons p r ih =>
    by_cases e : p.1 = k
    · rw [dropK_pos e, ih]
      split
      · rfl
      · rename_i h
        rw [valV_neg (fun z => h (z.symm.trans e))]
    · rw [dropK_neg e]
      by_cases e2 : p.1 = k'
      · rw [valV_pos e2, valV_pos e2, if_neg (fun z => e (e2.trans z))]
      · rw [valV_neg e2, valV_neg e2, ih]
theorem c_dpop {σ : St} {H : Hp} {Q : VK} {td ty : TE} (h : td σ H fun x H1 => ∃ a, x = .ref a ∧ IsD H1 a ∧ ty σ H1 fun y H2 => ∃ kvs k v, H2 a = some (.dK kvs) ∧ y = kV k ∧ valV kvs k = some v ∧ Q v (upd H2 a (.dK (dropK kvs k)))) : tDPop1 td ty σ H Q := h
theorem c_lockE {t : TE} {Q : VK} {σ : St} {H : Hp} {d : Addr} {u : HO} (hd : H d = some u) (hm : Mut (some u)) (h : ∀ od, t σ (upd H d (.frz od u)) fun v H' => H' d = some (.frz od u) ∧ Q v (upd H' d u)) : tLockE t σ H Q := ⟨d, u, hd, hm, h⟩
theorem c_lcK {td : TE} {g : L2.TG} {tt : TT} {te : TE} {vs : List Nat} {σ : St} {H : Hp} {Q : VK} (h : td σ H fun x H1 => ∃ d o, x = .ref d ∧ ((∃ kvs, H1 d = some (.frz o (.dK kvs)) ∧ LcI (Itk d o kvs) g tt te vs σ H1 Q) ∨ ∃ kvs, H1 d = some (.frz o (.dT kvs)) ∧ LcI (Itkt d o kvs) g tt te vs σ H1 Q)) : tLc (iKeys td) g tt te vs σ H Q := h
theorem call_lenK {X : Cx} : CallR X (.builtin "len") (fun xs H Q => ∃ (a : Addr) (kvs : List (Key × V)), xs = [.ref a] ∧ Rd H a (.dK kvs) ∧ Q (.int kvs.length) H) := by
  intro pins s σ H xs us Q I r h
  obtain ⟨a, kvs, rfl, e, q⟩ := h
  rw [Vals.ref1 r]
  exact d_len I e fun t s' I' => ⟨.int _, H, I', ⟨_, rfl⟩, q⟩
theorem paired_up {α β : Type} {F G : α → β → Prop} (h : ∀ a b, F a b → G a b) : ∀ {l : List α} {m : List β}, Paired F l m → Paired G l m
  | _, _, .nil => .nil
  | _, _, .cons p q => .cons (h _ _ p) (paired_up h q)
theorem paired_snoc {α β : Type} {F : α → β → Prop} {a : α} {b : β} (p : F a b) : ∀ {l : List α} {m : List β}, Paired F l m → Paired F (l ++ [a]) (m ++ [b])
  | _, _, .nil => .cons p .nil
  | _, _, .cons q r => .cons q (paired_snoc p r)
theorem paired_len {α β : Type} {F : α → β → Prop} : ∀ {l : List α} {m : List β}, Paired F l m → l.length = m.length
  | _, _, .nil => rfl
  | _, _, .cons _ q => by rw [List.length_cons, List.length_cons, paired_len q]
theorem lcK {d : Addr} {o : Obj} {kvs : List (Key × V)} {g : L2.TG} {tt : TT} {te : TE} {vs : List Nat} {σ : St} {H : Hp} {Q : VK} (F : Key × V → Bool) (R0 : Key × V → V → Hp → Prop) (hst : ∀ kv y G G2, NL G G2 → R0 kv y G → R0 kv y G2)
    (hd : H d = some (.frz o (.dK kvs))) (hn : kvs.length ≤ 1000)
    (ht : ∀ (i : Nat) (kv : Key × V), kvs[i]? = some kv → ∀ H2, Ex H H2 → ∀ (R : V → Hp → Prop) (N : Hp → Prop), (F kv = true → ∀ y H3, Ex H2 H3 → R0 kv y H3 → R y H3) → (F kv = false → ∀ H3, Ex H2 H3 → N H3) →
      g (kV kv.1) (wipe σ vs) H2 fun σ2 H3 => wipe σ2 vs = wipe σ vs ∧ tt σ2 H3 fun c H4 => if c = true then te σ2 H4 fun y H5 => R y H5 else N H4)
    (k : ∀ ys p H2, Paired (fun y kv => R0 kv y H2) ys (kvs.filter F) → H p = none → Ex H H2 → H2 p = some (.lst ys) → Q (.ref p) H2) : LcI (Itk d o kvs) g tt te vs σ H Q := by
  refine fun D hD => ?_
  have ex : ∀ {G : Hp} {o : HO}, Ex H G → Ex H (upd G D o) := fun e b u hb => by rw [upd_ne (ne_of_none hb hD)]; exact e b u hb
  refine lc_it walk_keys (fun i H' => i ≤ kvs.length ∧ Ex H H' ∧ ∃ ys, Paired (fun y kv => R0 kv y H') ys ((kvs.take i).filter F) ∧ H' D = some (.lst ys))
    ⟨Nat.zero_le _, ex (Ex.refl _), [], .nil, upd_same⟩ (fun i H' _ p => p.2.1 _ _ hd) (fun i x H' H'' hi p y => ?_) (fun H' p => ?_)
  · obtain ⟨rfl, key, v, hk, rfl⟩ := y
    obtain ⟨_, e1, ys, hy, hD'⟩ := p
    have hyl : ys.length ≤ i := by
      rw [paired_len hy]
      exact Nat.le_trans (List.length_filter_le _ _) (by rw [List.length_take]; omega)
    have htk : kvs.take (i + 1) = kvs.take i ++ [(key, v)] := by rw [List.take_add_one, hk]; rfl
    refine ht i (key, v) hk H'' e1 (fun y H4 => ∃ acc, H4 D = some (.lst acc) ∧ acc.length < sizeLine ∧ (i + 1 ≤ kvs.length ∧ Ex H (upd H4 D (.lst (acc ++ [y]))) ∧ ∃ zs, Paired (fun z kv => R0 kv z (upd H4 D (.lst (acc ++ [y])))) zs ((kvs.take (i + 1)).filter F) ∧ upd H4 D (.lst (acc ++ [y])) D = some (.lst zs))) (fun H4 => i + 1 ≤ kvs.length ∧ Ex H H4 ∧ ∃ zs, Paired (fun y kv => R0 kv y H4) zs ((kvs.take (i + 1)).filter F) ∧ H4 D = some (.lst zs)) (fun hF y H3 e3 py => ?_) (fun hF H3 e3 => ?_)
    · have hD3 := e3 _ _ hD'
      have eD : NL H3 (upd H3 D (.lst (ys ++ [y]))) := NL.upd hD3
      refine ⟨ys, hD3, Evl.sz_lt (by omega), hi, ex (e1.trans e3), ys ++ [y], ?_, upd_same⟩
      rw [htk, List.filter_append, List.filter_cons_of_pos hF, List.filter_nil]
      exact paired_snoc (F := fun a b => R0 b a (upd H3 D (HO.lst (ys ++ [y])))) (hst _ _ _ _ eD py) (paired_up (fun a b h => hst _ _ _ _ eD (hst _ _ _ _ (NL.of e3) h)) hy)
    · refine ⟨hi, e1.trans e3, ys, ?_, e3 _ _ hD'⟩
      rw [htk, List.filter_append, List.filter_cons_of_neg (by rw [hF]; decide), List.filter_nil, List.append_nil]
      exact paired_up (fun a b h => hst _ _ _ _ (NL.of e3) h) hy
  · obtain ⟨_, e1, ys, hy, hD'⟩ := p
    rw [List.take_length] at hy
    exact k ys D H' hy hD e1 hD'
theorem ex_unlock {H G : Hp} {d : Addr} {od : Obj} {u : HO} (hd : H d = some u) (e : Ex (upd H d (.frz od u)) G) : Ex H (upd G d u) := fun a o ha => by
  by_cases h : a = d
  · subst h
    rw [upd_same, ← ha, hd]
  · rw [upd_ne h]
    exact e a o (by rw [upd_ne h]; exact ha)
theorem putK_fresh {kvs : List (Key × V)} {k : Key} {v : V} (h : k ∉ kvs.map (·.1)) : putK kvs k v = kvs ++ [(k, v)] := by
  unfold putK
  rw [if_neg]
  intro ha
  obtain ⟨p, hp, he⟩ := List.any_eq_true.mp ha
  exact h (List.mem_map.mpr ⟨p, hp, by simpa using he⟩)
theorem mergeK_nodup : ∀ (more kvs : List (Key × V)), ((kvs ++ more).map (·.1)).Nodup → mergeK kvs more = kvs ++ more
  | [], kvs, _ => (List.append_nil _).symm
  | p :: more, kvs, h => by
    have hp : p.1 ∉ kvs.map (·.1) := by
      rw [List.map_append, List.nodup_append] at h
      intro hm
      exact h.2.2 _ hm _ (List.mem_map.mpr ⟨p, List.mem_cons_self, rfl⟩) rfl
    show mergeK (putK kvs p.1 p.2) more = _
    rw [putK_fresh hp, mergeK_nodup more (kvs ++ [(p.1, p.2)]) (by rw [List.append_assoc]; exact h), List.append_assoc]
    rfl
theorem valV_filter {kvs : List (Key × V)} {F : Key × V → Bool} {k : Key} (h : ∀ v v', F (k, v) = F (k, v')) {v0 : V} (hF : F (k, v0) = true) : valV (kvs.filter F) k = valV kvs k := by
  induction kvs with
  | nil => rfl
  | cons p r ih =>
    by_cases e : p.1 = k
    · have hp : F p = true := by rw [← hF, show p = (k, p.2) from by rw [← e]]; exact h _ _
      rw [List.filter_cons_of_pos hp, valV_pos e, valV_pos e]
    · rw [valV_neg e]
      cases hp : F p with
      | true => rw [List.filter_cons_of_pos hp, valV_neg e, ih]
      | false => rw [List.filter_cons_of_neg (by rw [hp]; decide), ih]
theorem eqK_refl {kv : List (Key × V)} (hn : (kv.map (·.1)).Nodup) (hf : ∀ p ∈ kv, okV p.2 = true) : eqK kv kv = true := by
  unfold eqK
  rw [beq_self_eq_true, Bool.true_and, List.all_eq_true]
  intro p hp
  rw [valV_mem (k := p.1) (v := p.2) hn hp]
  exact eqV_refl (okV_flat (hf p hp))
def fK (kv : List (Key × V)) (s : Str) : Str := match valV kv (.inr s) with
  | some (.str s') => s'
  | _ => s
theorem fK_of {kv : List (Key × V)} {s s' : Str} (h : valV kv (.inr s) = some (.str s')) : fK kv s = s' := by unfold fK; rw [h]
theorem exB_put {b ld : Addr} {H G : Hp} {o : HO} (e : ExB b H G) (h : H ld = none) : ExB b H (upd G ld o) := fun a q na ha => by rw [upd_ne (ne_of_none ha h)]; exact e a q na ha
theorem box_put {b ld : Addr} {G : Hp} {o : HO} (h : BoxAt G b) (n : b ≠ ld) : BoxAt (upd G ld o) b := by
  obtain ⟨x, y, z, h0, q⟩ := h
  exact ⟨x, y, z, h0, by rw [upd_ne n]; exact q⟩
theorem freshB {b ld : Addr} {H G : Hp} (e : ExB b H G) (hb : BoxAt G b) (h : G ld = none) : H ld = none := by
  cases hq : H ld with
  | none => rfl
  | some o =>
    by_cases hn : ld = b
    · subst hn
      obtain ⟨ob, hob⟩ := hb.some
      exact absurd rfl (ne_of_none hob h)
    · have := e ld o hn hq
      rw [h] at this
      cases this
theorem at_last {xs : List V} (h : 0 < xs.length) : atI xs (-1) = xs[xs.length - 1]? := by
  unfold atI ixN
  rw [if_neg (by omega), if_pos (by omega)]
  show xs[_]? = _
  congr 1
  omega
theorem nodup_at {l : List Str} (h : l.Nodup) {j i : Nat} {s z : Str} (hj : l[j]? = some s) (hz : z ∈ l.take i) (hi : i ≤ j) : z ≠ s := by
  obtain ⟨k, hk, he⟩ := List.mem_iff_getElem.mp hz
  rw [List.length_take] at hk
  rw [List.getElem_take] at he
  intro e
  have hjl := (List.getElem?_eq_some_iff.mp hj).1
  have e2 : l[k]'(by omega) = l[j]'hjl := by rw [he, e]; exact ((List.getElem?_eq_some_iff.mp hj).2).symm
  have := (List.getElem_inj h).mp e2
  omega
theorem exB_ex {b : Addr} {H G G2 : Hp} (e : Ex H G) (hb : H b = none) (x : ExB b G G2) : Ex H G2 := fun a o h => x a o (ne_of_none h hb) (e a o h)
def RpV (K : PySem.W.Frag) (H : Hp) (v : V) (t : Str) : Prop := ∃ d : PyData, (Dp K H v d ∧ RpOk 50 100000 d ∨ ∃ a, v = .ref a ∧ H a = some (.dK []) ∧ d = .dict []) ∧ t = d.shown
def rReprQ (K : PySem.W.Frag) : List V → Hp → VK → Prop := fun xs H Q => ∃ (v : V) (t : Str), xs = [v] ∧ RpV K H v t ∧ Q (.str t) H
theorem un62 {n : Nat} {A : Around} (h : Room n A) : A.units + 62 < cLine := by have := h.un; omega
theorem call_reprQ {X : Cx} (hgd : X.A.guards = some []) (hu : X.A.units + 62 < cLine) : CallR X (.builtin "repr") (rReprQ X.K) := by
  intro pins s σ H xs us Q I r h
  obtain ⟨v, t, rfl, ⟨d, hd, rfl⟩, q⟩ := h
  cases r with
  | cons ra rr =>
    cases rr
    rename_i u
    rcases hd with ⟨hd, hk⟩ | ⟨a, rfl, ha, rfl⟩
    · have hz : d.shown.length ≤ sizeLine := PyData.shown_fits_bulk (B := 13) (by decide) (by decide) hk.2.2.1 (Nat.le_trans hk.2.2.2.2 (by decide))
      have hdp : d.depth ≤ 60 := Nat.le_trans hk.2.2.2.1 (by decide)
      have hnd : d.hasDict = false := PyData.hasDict_of_canLay d hk.2.1
      cases hd with
      | non =>
        cases ra
        exact PySem.P.repr_of_none ⟨.str _, H, I.tok _, ⟨_, by rw [PyData.shown]⟩, q⟩
      | bl b =>
        cases ra
        exact PySem.P.repr_of_bool ⟨.str _, H, I.tok _, ⟨_, by rw [PyData.shown]⟩, q⟩
      | int i =>
        obtain ⟨t, rfl⟩ := ra
        exact PySem.P.repr_of_int (by have := hk.1; simpa only [PyData.showable, decide_eq_true_eq] using this) ⟨.str _, H, I.tok _, ⟨_, by rw [PyData.shown]⟩, q⟩
      | str x =>
        obtain ⟨t, rfl⟩ := ra
        rw [PyData.shown] at hz
        exact PySem.P.repr_of_str ⟨.str _, H, I.tok _, ⟨_, by rw [PyData.shown]⟩, q⟩ hz
      | lst hs ha =>
        cases ra
        obtain ⟨as, rd⟩ := Dp.reads I _ _ _ (.lst hs ha) rfl
        refine repr_of_reads' rd hk.1 (fun z => by rw [hnd] at z; cases z) hgd (by omega) (fun _ _ z => z) (fun h' u tk hk => ?_) hz
        exact ⟨.str _, H, I.kept (t' := tk) hk, ⟨_, rfl⟩, q⟩
      | tup hs ha =>
        cases ra
        obtain ⟨as, rd⟩ := Dp.reads I _ _ _ (.tup hs ha) rfl
        refine repr_of_reads' rd hk.1 (fun z => by rw [hnd] at z; cases z) hgd (by omega) (fun _ _ z => z) (fun h' u tk hk => ?_) hz
        exact ⟨.str _, H, I.kept (t' := tk) hk, ⟨_, rfl⟩, q⟩
    · cases (show u = Value.ref a from ra)
      obtain ⟨_, hsys, vs, hkv, o, es, ep, ho, hx, hda, _, hp, _⟩ := I.hok a _ ha
      cases hkv
      have he : es = #[] := by
        obtain ⟨l⟩ := es
        cases hp
        rfl
      subst he
      have rd : Reads s.heap (.ref a) (.dict []) [a] := Reads.dict (kvs := []) (as := []) (bs := []) ho hx.1 hda (by exact ReadsAll.nil) (by exact ReadsAll.nil)
      refine repr_of_reads' rd (by simp only [PyData.showable, PyData.showableKv]) (fun _ z => ?_) hgd (by simp only [PyData.depth, PyData.depthKv]; omega) (fun _ _ z => z) (fun h' u tk hk => ?_) (by simp only [PyData.shown, PyData.shownKv]; rw [sizeLine_eq]; decide +kernel)
      · have : sysModules = a := by simpa using z
        rw [this] at hsys
        simp at hsys
      · exact ⟨.str _, H, I.kept (t' := tk) hk, ⟨_, rfl⟩, q⟩
theorem call_reprS {X : Cx} {a : Addr} {pn : List (Addr × Obj)} (hgd : X.A.guards = some []) (hu : X.A.units + 62 < cLine) : CallR (X.suite a pn) (.builtin "repr") (rReprQ X.K) := call_reprQ (X := X.suite a pn) hgd hu
def rIsP (K : PySem.W.Frag) (D a : Addr) (cls : Value) (d : Option Addr) : List V → Hp → VK → Prop := fun xs H Q => ∃ (c : V) (cv : Value) (b : Bool), xs = [.ref a, c] ∧ ClsV c cv ∧ cls = .ref D ∧ (∃ (dd : Addr) (fs : List (Str × V)), d = some dd ∧ H dd = some (.xd fs)) ∧ PySem.W.kitOne K (.ref D) cv = some b ∧ Q (.bl b) H
theorem call_isP {X : Cx} {a D : Addr} {oe : Obj} {cls : Value} {d : Option Addr} {pn : List (Addr × Obj)} (C : IcC X.K D) (hz : Zc cls d oe) (hf : ∃ vs, oe.data = .fields vs) : CallR (X.suite a ((a, oe) :: pn)) (.builtin "isinstance") (rIsP X.K D a cls d) := by
  intro pins s σ H xs us Q I r h
  obtain ⟨c, cv, b, rfl, hcv, rfl, ⟨dd, fs, rfl, ea⟩, e, q⟩ := h
  cases r with
  | cons rx rr =>
    cases rr with
    | cons rt rr =>
      cases rr
      cases rx
      have ec := hcv.eq rt
      subst ec
      obtain ⟨hget, _⟩ := I.pin (a, oe) (List.mem_append.mpr (.inl List.mem_cons_self))
      obtain ⟨vs, hd⟩ := hf
      have hx : ObjOk X.prog X.w H s.heap dd (.xd fs) := I.hok dd _ ea
      obtain ⟨mA, hns, hr⟩ := hx
      obtain ⟨od, ho, hl⟩ := lookIn_ns hns
      have J : PySem.W.InstAt s.heap a oe D (some od) := ⟨hget, hz.1, by unfold PySem.W.notCls; rw [hd] <;> rfl, by rw [hz.2]; exact ho⟩
      exact PySem.W.kia_one (PySem.W.kitx_exc C.cl C.xf.ga C.xf.gg C.xf.exC C.ha C.hn C.ht C.hm) I.kIn J e (fun z => nomatch z) fun tk => ⟨.bl b, H, I.kept (t' := tk) fun _ _ z => z, rfl, q⟩
theorem okc_repr {q c : Nat} (hq : q < 1114112) (hc : c < 1114112) : ∀ z ∈ Builtin.Str.reprChar q c, z < 1114112 := by
  intro z hz
  have hd : ∀ w, z ∈ (List.replicate (w - ((Nat.toDigits 16 c).map Char.toNat).length) 48 ++ (Nat.toDigits 16 c).map Char.toNat) → z < 1114112 := by
    intro w hz
    rcases List.mem_append.mp hz with h | h
    · have := List.eq_of_mem_replicate h; omega
    · obtain ⟨ch, _, rfl⟩ := List.mem_map.mp h
      rcases ch.valid with h | h
      · exact Nat.lt_trans h (by decide)
      · exact h.2
  unfold Builtin.Str.reprChar at hz
  dsimp only at hz
  repeat' split at hz
  all_goals simp only [List.mem_cons, List.mem_append, List.not_mem_nil, or_false] at hz
  all_goals first | omega | (rcases hz with (h | h) | h; · omega
                             · omega
                             · exact hd _ (List.mem_append.mpr h))
theorem okf_repr (q : Nat) (hq : q < 1114112) : ∀ (l : List Nat) (acc : Array Nat), (∀ z ∈ acc.toList, z < 1114112) → (∀ c ∈ l, c < 1114112) → ∀ z ∈ (l.foldl (fun out c => out ++ (Builtin.Str.reprChar q c).toArray) acc).toList, z < 1114112
  | [], acc, h, _ => h
  | c :: r, acc, h, hl => by
    rw [List.foldl_cons]
    refine okf_repr q hq r _ (fun z hz => ?_) fun d hd => hl d (List.mem_cons_of_mem _ hd)
    rw [Array.toList_append] at hz
    rcases List.mem_append.mp hz with h2 | h2
    · exact h z h2
    · exact okc_repr hq (hl c List.mem_cons_self) z h2
theorem okT_repr {x : Str} (h : OkT x) : OkT (reprText x) := by
  have hq : reprQuote x < 1114112 := by
    unfold reprQuote
    split <;> omega
  intro c hc
  have hc2 : c ∈ ((x.cps.foldl (fun out c => out ++ (Builtin.Str.reprChar (reprQuote x) c).toArray) #[reprQuote x]).push (reprQuote x)).toList := hc
  rw [Array.toList_push, ← Array.foldl_toList] at hc2
  rcases List.mem_append.mp hc2 with h2 | h2
  · refine okf_repr _ hq _ _ (fun z hz => ?_) (fun z hz => h z hz) c h2
    have : z = reprQuote x := by simpa using hz
    omega
  · have : c = reprQuote x := by simpa using h2
    omega
/-! new ones -/
section
variable {X : Cx} {σ : St} {H : Hp} {Q : VK} {D : Ends}
theorem c_dget2 {td ty tx : TE} (h : td σ H fun x H1 => ∃ a, x = .ref a ∧ IsD H1 a ∧ ty σ H1 fun y H2 => tx σ H2 fun z H3 => ∃ o, DGet H3 a y o ∧ Q (o.getD z) H3) : tDGet2 td ty tx σ H Q := h
theorem c_dget1 {td ty : TE} (h : td σ H fun x H1 => ∃ a, x = .ref a ∧ IsD H1 a ∧ ty σ H1 fun y H2 => ∃ o, DGet H2 a y o ∧ Q (o.getD .non) H2) : tDGet1 td ty σ H Q := h
theorem isD {d : Addr} {kvs : List (Key × V)} (h : H d = some (.dK kvs)) : IsD H d := .inl ⟨kvs, .inl h⟩
theorem isDz {d : Addr} {o : Obj} {kvs : List (Key × V)} (h : H d = some (.frz o (.dK kvs))) : IsD H d := .inl ⟨kvs, .inr ⟨o, h⟩⟩
theorem dgetZ {d : Addr} {o : Obj} {kvs : List (Key × V)} {s : Str} (h : H d = some (.frz o (.dK kvs))) : DGet H d (.str s) (valV kvs (.inr s)) := .inl ⟨kvs, .inr s, .inr ⟨o, h⟩, rfl, rfl⟩
theorem c_forIt {td : TE} {g : TG} {tb : TS} (h : td σ H fun x H1 => ∃ d o kvs, x = .ref d ∧ H1 d = some (.frz o (.dK kvs)) ∧ ForI (Iti d o kvs) g tb D σ H1) : tFor (iItems td) g tb D σ H := h
/-- for k, v in d.items() -/
theorem forIt {tb : TS} {g : TG} {d : Addr} {o : Obj} {kvs : List (Key × V)} (Pv : Nat → St → Hp → Prop) (h0 : Pv 0 σ H) (hl : ∀ i σ' H', i ≤ kvs.length → Pv i σ' H' → H' d = some (.frz o (.dK kvs)))
    (hs : ∀ i k v T σ' H', kvs[i]? = some (k, v) → Pv i σ' H' → H' T = none → g (.ref T) σ' (upd H' T (.tup [kV k, v])) fun σ2 H2 => tb { D with nx := Pv (i + 1), ct := Pv (i + 1), bk := D.nx } σ2 H2)
    (hd : ∀ σ' H', Pv kvs.length σ' H' → D.nx σ' H') : ForI (Iti d o kvs) g tb D σ H :=
  for_it walk_items Pv h0 hl (fun i v σ' H' H'' hi p y => by
    obtain ⟨T, x, z, rfl, hT, rfl, ex, ez⟩ := y
    cases hk : kvs[i]? with
    | none =>
      have h1 : (kvs[i]?.map fun kv => kV kv.1) = some x := ex
      rw [hk] at h1
      cases h1
    | some kv =>
      have h1 : (kvs[i]?.map fun kv => kV kv.1) = some x := ex
      have h2 : kvs[i]?.map Prod.snd = some z := ez
      rw [hk] at h1 h2
      cases h1
      cases h2
      exact hs i kv.1 kv.2 T σ' H' hk p hT) hd
/-- a dict that was locked is let go ahead of a statement -/
def tUnl (H0 : Hp) (t : TS) : TS := fun D σ H => ∃ d od u, H d = some (.frz od u) ∧ (∀ o' u', H0 d ≠ some (.frz o' u')) ∧ t D σ (upd H d u)
theorem ps_unl {st : Stmt} {t : TS} (h : PS X st t) : PS X st (tUnl X.H_0 t) := ⟨fun pins s σ H D I hw => let ⟨_, _, _, e, n, q⟩ := hw; h.run pins s σ _ D (I.unlock e n) q⟩
theorem c_listIt {te : TE} (h : te σ H fun x H1 => LiI.rItemsL x H1 Q) : LiI.tListItems te σ H Q := h
/-- s * n, n from 0 -/
def rRepA : R2 := fun x y H Q => ∃ (z : Str) (n : Int), x = .str z ∧ y = .int n ∧ 0 ≤ n ∧ n ≤ 1000 ∧ 0 < z.length ∧ z.length ≤ 100 ∧ Q (.str (repS z n.toNat)) H
theorem op_rep_strA : OpR X (binaryOp .Mult) rRepA := by
  intro pins s σ H x y v u Q I rx ry h
  obtain ⟨z, n, rfl, rfl, h0, h1, z0, z1, q⟩ := h
  rcases (by omega : n = 0 ∨ n = 1 ∨ 2 ≤ n) with rfl | rfl | h2
  · exact op_rep_str01 pins s σ H _ _ v u Q I rx ry ⟨z, 0, rfl, rfl, .inl ⟨rfl, q⟩⟩
  · refine op_rep_str01 pins s σ H _ _ v u Q I rx ry ⟨z, 1, rfl, rfl, .inr ⟨rfl, ?_⟩⟩
    have e : repS z (Int.toNat 1) = z := by
      show repS z 1 = z
      simp [repS]
    rw [e] at q
    exact q
  · exact op_rep_str pins s σ H _ _ v u Q I rx ry ⟨z, n, rfl, rfl, h2, by omega, z0, z1, q⟩
theorem rep_mem (a : Array Nat) : ∀ (n : Nat) (acc : Array Nat) (c : Nat), c ∈ ((List.replicate n a).foldl (· ++ ·) acc).toList → c ∈ acc.toList ∨ c ∈ a.toList
  | 0, acc, c, h => .inl (by simpa using h)
  | n + 1, acc, c, h => by
    rw [List.replicate_succ, List.foldl_cons] at h
    rcases rep_mem a n _ c h with h | h
    · rw [Array.toList_append] at h
      exact List.mem_append.mp h
    · exact .inr h
/-- a text of at most n signs that may be shown -/
def Tx (n : Nat) (s : Str) : Prop := OkT s ∧ s.length ≤ n
theorem Tx.mono {m n : Nat} {s : Str} (h : Tx m s) (k : m ≤ n) : Tx n s := ⟨h.1, Nat.le_trans h.2 k⟩
theorem Tx.app {m n : Nat} {s t : Str} (h : Tx m s) (k : Tx n t) : Tx (m + n) (s ++ t) := ⟨h.1.app k.1, by rw [add_len]; have := h.2; have := k.2; omega⟩
theorem Tx.rep {m : Nat} {s : Str} (h : Tx m s) (n : Nat) : Tx (n * m) (repS s n) := by
  refine ⟨fun c hc => ?_, by rw [repS_len]; exact Nat.mul_le_mul_left _ h.2⟩
  have hc2 : c ∈ ((List.replicate n s.cps).foldl (· ++ ·) #[]).toList := hc
  rcases rep_mem s.cps n #[] c hc2 with h2 | h2
  · simp at h2
  · exact h.1 c h2
theorem cut_len (z : Str) (lo hi : Option Int) : (cutS z lo hi).length ≤ z.length := by
  rw [← tl_len, tl_cut, List.length_take, List.length_drop, tl_len]
  omega
theorem Tx.cut {m : Nat} {s : Str} (h : Tx m s) (lo hi : Option Int) : Tx m (cutS s lo hi) := ⟨h.1.cut lo hi, Nat.le_trans (cut_len s lo hi) h.2⟩
theorem tx_sign {c : Nat} (h : c < 1114112) : Tx 1 ⟨#[c]⟩ := ⟨fun d hd => by
  have : d = c := by simpa [tl] using hd
  omega, Nat.le_refl _⟩
theorem tx_lit {n : Nat} {t : Str} (h : ((tl t).all (fun c => decide (c < 1114112)) && decide (t.length ≤ n)) = true) : Tx n t := by
  rw [Bool.and_eq_true, decide_eq_true_eq] at h
  exact ⟨OkT.lit h.1, h.2⟩
theorem at_str {ns : List Str} {d : Int} (h0 : 0 ≤ d) (h1 : d < (ns.length : Int)) : ∃ s, atI (ns.map V.str) d = some (.str s) ∧ s ∈ ns := by
  obtain ⟨j, rfl⟩ := Int.eq_ofNat_of_zero_le h0
  have hj : j < ns.length := by omega
  exact ⟨ns[j], atI_nat (by rw [List.getElem?_map, List.getElem?_eq_getElem hj] <;> rfl), List.getElem_mem hj⟩
theorem at_tl {t : Str} {n : Nat} {d : Int} (h0 : 0 ≤ d) (h1 : d < (t.length : Int)) (ht : Tx n t) : ∃ c, atI (tl t) d = some c ∧ c < 1114112 := by
  obtain ⟨j, rfl⟩ := Int.eq_ofNat_of_zero_le h0
  have hj : j < (tl t).length := by rw [tl_len]; omega
  exact ⟨(tl t)[j], atI_nat (List.getElem?_eq_getElem hj), ht.1 _ (List.getElem_mem hj)⟩
end
/-! != of two lists of dicts that are equal -/
section
variable {X : Cx} {pins : List (Addr × Obj)} {σ : St} {H : Hp} {s : Shared}
theorem hitsA (I : Inv X pins σ H s) {A : Around} (hu : A.units + 66 < cLine) {ls : List (Key × V)} {vb : List (Key × Value)} (rb : KV ls vb) (fl : ∀ k u, valV ls k = some u → okV u = true) {ks : List (Key × V)} {va : List (Key × Value)} (ra : KV ks va) (fk : ∀ p ∈ ks, okV p.2 = true) :
    PySem.W.KeqHits A.in1 s vb va (ks.all fun p => match valV ls p.1 with | some u => eqV p.2 u | none => false) := by
  unfold KV at ra
  induction ra with
  | nil => exact .nil
  | @cons p q ps qs h t ih =>
    obtain ⟨key, v⟩ := q
    obtain ⟨h1, h2⟩ := h
    have h1' : p.1 = key := h1
    have ih' := ih fun p' hm => fk p' (List.mem_cons_of_mem _ hm)
    rw [List.all_cons]
    have rr : RelO (valV ls p.1) (PySem.valueAt vb p.1) := rb.val p.1
    rw [h1'] at rr ⊢
    cases e : valV ls key with
    | none =>
      rw [e] at rr
      cases e2 : PySem.valueAt vb key with
      | none => exact .miss e2
      | some y =>
        rw [e2] at rr
        exact rr.elim
    | some u =>
      rw [e] at rr
      obtain ⟨y, hy, ry⟩ := rr.some_of
      have fp := fk p List.mem_cons_self
      have fu := fl key u e
      obtain ⟨as, r1⟩ := Dp.reads I (dOf p.2) p.2 v (dp_flat (okV_flat fp)) h2
      obtain ⟨bs, r2⟩ := Dp.reads I (dOf u) u y (dp_flat (okV_flat fu)) ry
      have z := PySem.W.keq_at (A := A) r1 r2 (shaped_flat fp) (shaped_flat fu) (by show A.units + 1 + 64 < cLine; omega)
      rw [eqv_flat (okV_flat fp) (okV_flat fu)] at z
      exact .hit hy z ih'
/-- two dicts of flat things that are equal -/
def EqDs (H : Hp) (u v : V) : Prop := ∃ (d e : Addr) (ks ls : List (Key × V)), u = .ref d ∧ v = .ref e ∧ d ≠ e ∧ H d = some (.dK ks) ∧ H e = some (.dK ls) ∧ (∀ p ∈ ks, okV p.2 = true) ∧ (∀ k u, valV ls k = some u → okV u = true) ∧ eqK ks ls = true
theorem eqds_at (I : Inv X pins σ H s) {A : Around} (hu : A.units + 66 < cLine) {u v : V} {x y : Value} (h : EqDs H u v) (rx : RelV u x) (ry : RelV v y) : SeqAt.EqP X.prog X.w A s x y true := by
  obtain ⟨d, e, ks, ls, rfl, rfl, hde, hd, he, fk, fl, hq⟩ := h
  cases (show x = Value.ref d from rx)
  cases (show y = Value.ref e from ry)
  obtain ⟨_, ya, va, ra, da⟩ := (show ObjOk X.prog X.w H s.heap d (.dK ks) from I.hok d _ hd)
  obtain ⟨_, yb, vb, rb, db⟩ := (show ObjOk X.prog X.w H s.heap e (.dK ls) from I.hok e _ he)
  refine SeqAt.eqP_refs hde fun E Q q => PySem.W.keq_eq (knd := mixKind X.prog X.w) ya yb da db (by omega) (fun _ => hitsA I hu rb fl ra fk) ?_
  rw [← ra.length, ← rb.length]
  unfold eqK at hq
  rw [hq]
  exact q
theorem eqds_all (I : Inv X pins σ H s) {A : Around} (hu : A.units + 66 < cLine) : ∀ {xs ys : List V}, Paired (EqDs H) xs ys → ∀ {us ws : List Value}, Vals xs us → Vals ys ws → ∀ (j : Nat) (h1 : j < us.length) (h2 : j < ws.length), SeqAt.EqP X.prog X.w A s us[j] ws[j] true
  | _, _, .nil, _, _, r1, _, j, h1, _ => by cases r1; exact absurd h1 (Nat.not_lt_zero j)
  | _, _, .cons h k, _, _, .cons a1 b1, .cons a2 b2, 0, _, _ => eqds_at I hu h a1 a2
  | _, _, .cons h k, _, _, .cons a1 b1, .cons a2 b2, j + 1, h1, h2 => eqds_all I hu k b1 b2 j (Nat.lt_of_succ_lt_succ h1) (Nat.lt_of_succ_lt_succ h2)
def rNeLD : R2 := fun x y H Q => ∃ (a b : Addr) (xs ys : List V), x = .ref a ∧ y = .ref b ∧ H a = some (.lst xs) ∧ H b = some (.lst ys) ∧ Paired (EqDs H) xs ys ∧ Q (.bl false) H
theorem op_neLD (hu : X.A.units + 68 < cLine) : OpR X (compareOp .NotEq) rNeLD := by
  intro pins s σ H x y v u Q I rx ry h
  obtain ⟨a, b, xs, ys, rfl, rfl, ha, hb, hp, q⟩ := h
  cases (show v = Value.ref a from rx)
  cases (show u = Value.ref b from ry)
  obtain ⟨us, r1, p1, _⟩ := I.list (SqL.of ha)
  obtain ⟨ws, r2, p2, _⟩ := I.list (SqL.of hb)
  have hsz : us.toArray.size = ws.toArray.size := by
    rw [List.size_toArray, List.size_toArray, ← r1.length, ← r2.length]
    exact Paired.length hp
  refine NeL.lists_ne p1.isList p2.isList hsz (by omega) (fun j h1 h2 => ?_) _ _ ⟨.bl false, H, I, rfl, q⟩
  have k := eqds_all I (A := X.A.in1) (by show X.A.units + 1 + 66 < cLine; omega) hp r1 r2 j (by simpa using h1) (by simpa using h2)
  simpa using k
theorem hu68 {A : Around} {k : Nat} (hr : Room k A) : A.units + 68 < cLine := by have := hr.un; omega
end
end L2

/-! ### == and != of dicts whose values are data that are equal; comprehensions over dicts that make lists -/
namespace L2
open PySem PySem.Spec PyProof.Rows
open Evl hiding RetV RetL
section
variable {X : Cx} {pins : List (Addr × Obj)} {σ : St} {H : Hp} {s : Shared}
def LikeD (K : PySem.W.Frag) (H : Hp) (ls : List (Key × V)) (p : Key × V) : Prop := ∃ u d e, valV ls p.1 = some u ∧ Dp K H p.2 d ∧ Dp K H u e ∧ SeqAt.shaped d = true ∧ SeqAt.shaped e = true ∧ PyData.eqv d e = true
theorem hitsD (I : Inv X pins σ H s) (hu : X.A.units + 66 < cLine) {ls : List (Key × V)} {vb : List (Key × Value)} (rb : KV ls vb) {ks : List (Key × V)} {va : List (Key × Value)} (ra : KV ks va) (fk : ∀ p ∈ ks, LikeD X.K H ls p) :
    PySem.W.KeqHits X.A.in1 s vb va true := by
  unfold KV at ra
  induction ra with
  | nil => exact .nil
  | @cons p q ps qs h t ih =>
    obtain ⟨key, v⟩ := q
    obtain ⟨h1, h2⟩ := h
    have h1' : p.1 = key := h1
    have ih' := ih fun p' hm => fk p' (List.mem_cons_of_mem _ hm)
    obtain ⟨u, d, e, e1, d1, d2, s1, s2, eq⟩ := fk p List.mem_cons_self
    have rr : RelO (valV ls p.1) (PySem.valueAt vb p.1) := rb.val p.1
    rw [h1'] at rr e1
    rw [e1] at rr
    obtain ⟨y, hy, ry⟩ := rr.some_of
    obtain ⟨as, r1⟩ := Dp.reads I d p.2 v d1 h2
    obtain ⟨bs, r2⟩ := Dp.reads I e u y d2 ry
    have z := PySem.W.keq_at (A := X.A) r1 r2 s1 s2 (by show X.A.units + 1 + 64 < cLine; omega)
    rw [eq] at z
    exact .hit (b := true) hy z ih'
def rEqKD (K : PySem.W.Frag) : R2 := fun x y H Q => ∃ (a b : Addr) (ks ls : List (Key × V)), x = .ref a ∧ y = .ref b ∧ H a = some (.dK ks) ∧ H b = some (.dK ls) ∧ ks.length = ls.length ∧ (∀ p ∈ ks, LikeD K H ls p) ∧ Q (.bl true) H
def rNeKD (K : PySem.W.Frag) : R2 := fun x y H Q => ∃ (a b : Addr) (ks ls : List (Key × V)), x = .ref a ∧ y = .ref b ∧ H a = some (.dK ks) ∧ H b = some (.dK ls) ∧ ks.length = ls.length ∧ (∀ p ∈ ks, LikeD K H ls p) ∧ Q (.bl false) H
theorem op_eqKD (hu : X.A.units + 66 < cLine) : OpR X (compareOp .Eq) (rEqKD X.K) := by
  intro pins s σ H x y v u Q I rx ry h
  obtain ⟨a, b, ks, ls, rfl, rfl, ha, hb, hl, fk, q⟩ := h
  cases (show v = Value.ref a from rx)
  cases (show u = Value.ref b from ry)
  obtain ⟨_, ya, va, ra, da⟩ := (show ObjOk X.prog X.w H s.heap a (.dK ks) from I.hok a _ ha)
  obtain ⟨_, yb, vb, rb, db⟩ := (show ObjOk X.prog X.w H s.heap b (.dK ls) from I.hok b _ hb)
  refine PySem.W.keq_eq (knd := mixKind X.prog X.w) ya yb da db (by omega) (fun _ => hitsD I hu rb ra fk) ?_
  rw [← ra.length, ← rb.length, hl, beq_self_eq_true, Bool.true_and]
  exact ⟨.bl _, H, I, rfl, q⟩
theorem op_neKD (hu : X.A.units + 66 < cLine) : OpR X (compareOp .NotEq) (rNeKD X.K) := by
  intro pins s σ H x y v u Q I rx ry h
  obtain ⟨a, b, ks, ls, rfl, rfl, ha, hb, hl, fk, q⟩ := h
  cases (show v = Value.ref a from rx)
  cases (show u = Value.ref b from ry)
  obtain ⟨_, ya, va, ra, da⟩ := (show ObjOk X.prog X.w H s.heap a (.dK ks) from I.hok a _ ha)
  obtain ⟨_, yb, vb, rb, db⟩ := (show ObjOk X.prog X.w H s.heap b (.dK ls) from I.hok b _ hb)
  refine PySem.W.keq_ne (knd := mixKind X.prog X.w) ya yb da db (by omega) (fun _ => hitsD I hu rb ra fk) ?_
  rw [← ra.length, ← rb.length, hl, beq_self_eq_true, Bool.true_and]
  exact ⟨.bl _, H, I, rfl, q⟩
theorem like_lists {K : PySem.W.Frag} {H : Hp} {ls : List (Key × V)} {k : Key} {p q : Addr} {xs : List V} (h : valV ls k = some (.ref q)) (hp : SqL K H p xs) (hq : SqL K H q xs) (ho : xs.all okV = true) : LikeD K H ls (k, .ref p) :=
  ⟨_, _, _, h, .lst hp (dpAll_flat (okL_flat ho)), .lst hq (dpAll_flat (okL_flat ho)), shaped_lst ho, shaped_lst ho, by rw [PyData.eqv, eqvAll_flat (okL_flat ho) (okL_flat ho)]; exact eqL_refl (okL_flat ho)⟩
end
theorem lcKD {d : Addr} {o : Obj} {kvs : List (Key × V)} {g : L2.TG} {tt : TT} {te : TE} {vs : List Nat} {σ : St} {H : Hp} {Q : VK} (F : Key × V → Bool) (R0 : Addr → Key × V → V → Hp → Prop) (hst : ∀ D kv y G G2, ExB D G G2 → R0 D kv y G → R0 D kv y G2)
    (hd : H d = some (.frz o (.dK kvs))) (hn : kvs.length ≤ 1000)
    (ht : ∀ (D : Addr) (i : Nat) (kv : Key × V), H D = none → kvs[i]? = some kv → ∀ H2, Ex H H2 → (∃ o, H2 D = some o) → ∀ (R : V → Hp → Prop) (N : Hp → Prop), (F kv = true → ∀ y H3, Ex H2 H3 → R0 D kv y H3 → R y H3) → (F kv = false → ∀ H3, Ex H2 H3 → N H3) →
      g (kV kv.1) (wipe σ vs) H2 fun σ2 H3 => wipe σ2 vs = wipe σ vs ∧ tt σ2 H3 fun c H4 => if c = true then te σ2 H4 fun y H5 => R y H5 else N H4)
    (k : ∀ ys p H2, Paired (fun y kv => R0 p kv y H2) ys (kvs.filter F) → H p = none → Ex H H2 → H2 p = some (.lst ys) → Q (.ref p) H2) : LcI (Itk d o kvs) g tt te vs σ H Q := by
  refine fun D hD => ?_
  have ex : ∀ {G : Hp} {o : HO}, Ex H G → Ex H (upd G D o) := fun e b u hb => by rw [upd_ne (ne_of_none hb hD)]; exact e b u hb
  refine lc_it walk_keys (fun i H' => i ≤ kvs.length ∧ Ex H H' ∧ ∃ ys, Paired (fun y kv => R0 D kv y H') ys ((kvs.take i).filter F) ∧ H' D = some (.lst ys))
    ⟨Nat.zero_le _, ex (Ex.refl _), [], .nil, upd_same⟩ (fun i H' _ p => p.2.1 _ _ hd) (fun i x H' H'' hi p y => ?_) (fun H' p => ?_)
  · obtain ⟨rfl, key, v, hk, rfl⟩ := y
    obtain ⟨_, e1, ys, hy, hD'⟩ := p
    have hyl : ys.length ≤ i := by
      rw [paired_len hy]
      exact Nat.le_trans (List.length_filter_le _ _) (by rw [List.length_take]; omega)
    have htk : kvs.take (i + 1) = kvs.take i ++ [(key, v)] := by rw [List.take_add_one, hk]; rfl
    refine ht D i (key, v) hD hk H'' e1 ⟨_, hD'⟩ (fun y H4 => ∃ acc, H4 D = some (.lst acc) ∧ acc.length < sizeLine ∧ (i + 1 ≤ kvs.length ∧ Ex H (upd H4 D (.lst (acc ++ [y]))) ∧ ∃ zs, Paired (fun z kv => R0 D kv z (upd H4 D (.lst (acc ++ [y])))) zs ((kvs.take (i + 1)).filter F) ∧ upd H4 D (.lst (acc ++ [y])) D = some (.lst zs))) (fun H4 => i + 1 ≤ kvs.length ∧ Ex H H4 ∧ ∃ zs, Paired (fun y kv => R0 D kv y H4) zs ((kvs.take (i + 1)).filter F) ∧ H4 D = some (.lst zs)) (fun hF y H3 e3 py => ?_) (fun hF H3 e3 => ?_)
    · have hD3 := e3 _ _ hD'
      have eD : ExB D H3 (upd H3 D (.lst (ys ++ [y]))) := ExB.upd
      refine ⟨ys, hD3, Evl.sz_lt (by omega), hi, ex (e1.trans e3), ys ++ [y], ?_, upd_same⟩
      rw [htk, List.filter_append, List.filter_cons_of_pos hF, List.filter_nil]
      exact paired_snoc (F := fun a b => R0 D b a (upd H3 D (HO.lst (ys ++ [y])))) (hst _ _ _ _ _ eD py) (paired_up (fun a b h => hst _ _ _ _ _ eD (hst _ _ _ _ _ (ExB.of e3) h)) hy)
    · refine ⟨hi, e1.trans e3, ys, ?_, e3 _ _ hD'⟩
      rw [htk, List.filter_append, List.filter_cons_of_neg (by rw [hF]; decide), List.filter_nil, List.append_nil]
      exact paired_up (fun a b h => hst _ _ _ _ _ (ExB.of e3) h) hy
  · obtain ⟨_, e1, ys, hy, hD'⟩ := p
    rw [List.take_length] at hy
    exact k ys D H' hy hD e1 hD'
/-- as lcLP, and what is not a list is kept -/
theorem lcLPl {K : PySem.W.Frag} {σ : St} {H : Hp} {Q : VK} {g : L2.TG} {tt : TT} {te : TE} {vs : List Nat} {a : Addr} {xs : List V} (P : Addr → Nat → V → Hp → Prop) (hst : ∀ D i y G G2, ExB D G G2 → NL G G2 → P D i y G → P D i y G2) (hs : SqL K H a xs) (hn : xs.length ≤ 1000)
    (ht : ∀ (D : Addr) (i : Nat) (x : V), H D = none → xs[i]? = some x → ∀ H2, Ex H H2 → (∃ o, H2 D = some o) → ∀ (R : V → Hp → Prop) (N : Hp → Prop), (∀ y H3, Ex H2 H3 → P D i y H3 → R y H3) →
      g x (wipe σ vs) H2 fun σ2 H3 => wipe σ2 vs = wipe σ vs ∧ tt σ2 H3 fun c H4 => if c = true then te σ2 H4 fun y H5 => R y H5 else N H4)
    (k : ∀ ys p H2, ys.length = xs.length → (∀ i y, ys[i]? = some y → P p i y H2) → H p = none → Ex H H2 → H2 p = some (.lst ys) → Q (.ref p) H2) : LcI (Itl K a) g tt te vs σ H Q := by
  refine fun D hD => ?_
  have ex : ∀ {G : Hp} {o : HO}, Ex H G → Ex H (upd G D o) := fun e b u hb => by rw [upd_ne (ne_of_none hb hD)]; exact e b u hb
  refine lc_list (xs := xs) (fun i H' => i ≤ xs.length ∧ Ex H H' ∧ ∃ ys, ys.length = i ∧ (∀ j y, ys[j]? = some y → P D j y H') ∧ H' D = some (.lst ys))
    ⟨Nat.zero_le _, ex (Ex.refl _), [], rfl, (fun j y h => by simp at h), upd_same⟩ (fun i H' _ p => Evl.ex_l p.2.1 hs) (fun i x H' hi p => ?_) (fun H' p => ?_)
  · obtain ⟨_, e1, ys, hl, hy, hD'⟩ := p
    have hil := (List.getElem?_eq_some_iff.mp hi).1
    refine ht D i x hD hi H' e1 ⟨_, hD'⟩ (fun y H4 => ∃ acc, H4 D = some (.lst acc) ∧ acc.length < sizeLine ∧ (i + 1 ≤ xs.length ∧ Ex H (upd H4 D (.lst (acc ++ [y]))) ∧ ∃ zs, zs.length = i + 1 ∧ (∀ j y2, zs[j]? = some y2 → P D j y2 (upd H4 D (.lst (acc ++ [y])))) ∧ upd H4 D (.lst (acc ++ [y])) D = some (.lst zs))) _ (fun y H3 e3 py => ?_)
    have eD : ExB D H3 (upd H3 D (.lst (ys ++ [y]))) := ExB.upd
    have eN : NL H3 (upd H3 D (.lst (ys ++ [y]))) := NL.upd (e3 _ _ hD')
    refine ⟨ys, e3 _ _ hD', Evl.sz_lt (by omega), hil, ex (e1.trans e3), ys ++ [y], by rw [List.length_append, hl]; rfl, fun j y2 hj => ?_, upd_same⟩
    rcases Nat.lt_or_ge j ys.length with h | h
    · rw [List.getElem?_append_left h] at hj
      exact hst _ _ _ _ _ eD eN (hst _ _ _ _ _ (ExB.of e3) (NL.of e3) (hy j y2 hj))
    · rw [List.getElem?_append_right h] at hj
      have hj0 : j - ys.length = 0 := by
        have := (List.getElem?_eq_some_iff.mp hj).1
        rw [List.length_singleton] at this
        omega
      rw [hj0] at hj
      have hyy : y = y2 := by simpa using hj
      subst hyy
      have : j = i := by omega
      subst this
      exact hst _ _ _ _ _ eD eN py
  · obtain ⟨_, e1, ys, hl, hy, hD'⟩ := p
    exact k ys D H' hl hy hD e1 hD'
/-- as lcRB, each thing with a property that no change of lists takes away -/
theorem lcRBP {σ : St} {H : Hp} {Q : VK} {g : L2.TG} {tt : TT} {te : TE} {vs : List Nat} {n : Nat} {b : Addr} (P : V → Hp → Prop) (hst : ∀ y G G2, NL G G2 → P y G → P y G2) (hn : n ≤ 1000) (hB : BoxAt H b)
    (ht : ∀ (i : Nat), i < n → ∀ H2, BoxAt H2 b → ExB b H H2 → ∀ (R : V → Hp → Prop) (N : Hp → Prop), (∀ y H3, P y H3 → BoxAt H3 b → ExB b H2 H3 → R y H3) →
      g (.int (i : Int)) (wipe σ vs) H2 fun σ2 H3 => wipe σ2 vs = wipe σ vs ∧ tt σ2 H3 fun c H4 => if c = true then te σ2 H4 fun y H5 => R y H5 else N H4)
    (k : ∀ ys p H2, ys.length = n → (∀ y ∈ ys, P y H2) → H p = none → ExB b H H2 → BoxAt H2 b → H2 p = some (.lst ys) → Q (.ref p) H2) : LcI (Itr 0 n) g tt te vs σ H Q := by
  refine fun D hD => ?_
  obtain ⟨ob, hob⟩ := hB.some
  have nDb : D ≠ b := (ne_of_none hob hD).symm
  have bx : ∀ {G : Hp} {o : HO}, BoxAt G b → BoxAt (upd G D o) b := fun ⟨x, y, z, p, q⟩ => ⟨x, y, z, p, by rw [upd_ne nDb.symm]; exact q⟩
  have ex : ∀ {G : Hp} {o : HO}, ExB b H G → ExB b H (upd G D o) := fun e a u na ha => by rw [upd_ne (ne_of_none ha hD)]; exact e a u na ha
  refine lc_range (lo := 0) (n := n) (fun i H' => i ≤ n ∧ ExB b H H' ∧ BoxAt H' b ∧ ∃ ys, ys.length = i ∧ (∀ y ∈ ys, P y H') ∧ H' D = some (.lst ys)) ⟨Nat.zero_le _, ex (ExB.refl _ _), bx hB, [], rfl, (fun _ h => by cases h), upd_same⟩ (fun i H' hi p => ?_) (fun H' p => ?_)
  · obtain ⟨_, e1, b1, ys, hl, hg, hy⟩ := p
    have e0 : (0 : Int) + (i : Int) = (i : Int) := Int.zero_add _
    rw [e0]
    refine ht i hi H' b1 e1 (fun y H4 => ∃ acc, H4 D = some (.lst acc) ∧ acc.length < sizeLine ∧ (i + 1 ≤ n ∧ ExB b H (upd H4 D (.lst (acc ++ [y]))) ∧ BoxAt (upd H4 D (.lst (acc ++ [y]))) b ∧ ∃ zs, zs.length = i + 1 ∧ (∀ y2 ∈ zs, P y2 (upd H4 D (.lst (acc ++ [y])))) ∧ upd H4 D (.lst (acc ++ [y])) D = some (.lst zs))) _ (fun y H3 gy b3 e3 => ?_)
    have hD3 := e3 D _ nDb hy
    have eN : NL H3 (upd H3 D (.lst (ys ++ [y]))) := NL.upd hD3
    refine ⟨ys, hD3, Evl.sz_lt (by omega), hi, ex (e1.trans e3), bx b3, ys ++ [y], by rw [List.length_append, hl]; rfl, fun z hz => ?_, upd_same⟩
    rcases List.mem_append.mp hz with h | h
    · exact hst _ _ _ eN (hst _ _ _ (NL.box e3 b1) (hg z h))
    · have : z = y := by simpa using h
      rw [this]
      exact hst _ _ _ eN gy
  · obtain ⟨_, e1, b1, ys, hl, hg, hy⟩ := p
    exact k ys D H' hl hg hD e1 b1 hy
end L2

/-! ### while, without a word of the test -/
namespace L2
open PySem PySem.Spec PyProof.Rows
open Evl hiding RetV RetL
/-- the turn of a while that comes back to Pv with less -/
def WTurn (tb : TS) (D : Ends) (Pv : St → Hp → Prop) (μ : St → Hp → Nat) (m : Nat) (σ : St) (H : Hp) : Prop := ∃ N : St → Hp → Prop, (∀ σ' H', N σ' H' → ∃ m', m' < m ∧ m' = μ σ' H' ∧ Pv σ' H') ∧ tb { D with nx := N, ct := N, bk := D.nx } σ H
theorem c_turn {tb : TS} {D : Ends} {Pv : St → Hp → Prop} {μ : St → Hp → Nat} {m : Nat} {σ : St} {H : Hp} (h : tb { D with nx := fun σ' H' => Pv σ' H' ∧ μ σ' H' < m, ct := fun σ' H' => Pv σ' H' ∧ μ σ' H' < m, bk := D.nx } σ H) : WTurn tb D Pv μ m σ H := ⟨_, fun _ _ ⟨p, l⟩ => ⟨_, l, rfl, p⟩, h⟩
theorem while_do {c : TT} {tb : TS} {D : Ends} {σ : St} {H : Hp} (Pv : St → Hp → Prop) (μ : St → Hp → Nat) (h0 : Pv σ H)
    (hs : ∀ σ H, Pv σ H → c σ H fun b H1 => if b = true then WTurn tb D Pv μ (μ σ H) σ H1 else D.nx σ H1) : tWhile c tb D σ H := by
  refine ⟨fun m σ H => m = μ σ H ∧ Pv σ H, ⟨_, rfl, h0⟩, ?_⟩
  rintro m σ H ⟨rfl, p⟩
  exact hs σ H p
end L2

/-! ### except suites that call defs: the context of what is handled is None -/
namespace L2
open PySem PySem.Spec PyProof.Rows
open L2H (HotC Hot1 FnH RoomH cxH)
section
variable {X : Cx} {x : Str} {p q pos : Pos} {e : Expr} {es : List Expr} {ta : TA}
theorem pmkN_oex {CX : CXT} {C fI : Addr} {k : Nat} {fd : FuncData} {ps : List Str} {sp : Sp} {ds : List Value} {dvs : List V} (T : OexC X.K C) (iC : PySem.W.findIn X.K (.ref C) "__init__" = some (some (.ref fI))) (tI : PySem.W.typeIn X.K (.ref fI) = some (.type "function"))
    (F1 : FnOk X.prog X.w X.K X.mg X.base CX k fI fd ps sp) (hr : Room (k + 1) X.A) (hb : Binds X.K fd ps ds) (hd : Vals dvs ds) (hx : Passes CX X (fun _ _ _ => False)) (hg : Gl X x) (hm : X.mg x = some (.ref C)) (ha : PA X (e :: es) ta)
    (hdb : (x == ("__debug__" : Str)) = false := by decide) (he : starEach (e :: es) X.env = (false, eval e X.env) :: starEach es X.env := by rfl) (hpl : (backTo pos (starEach es X.env)).any (·.1) = false := by rfl) :
    L2N.PMk X (.Call (.Name x p) (e :: es) [] pos) (tMkO C sp dvs ta) := by
  intro pins s σ H Q I h
  obtain ⟨nm, q, N, bs, bm, sn, sub, ab, col, dd, k0, k1, k2, k3, k5, hC, hbm⟩ := T.cls
  refine wpAny_Call_Name_kw (ld_glob I hg hm ?_ hdb)
  refine PySem.W.callWith_K (h₀ := X.base) I.ok.mod.kin T.kC (thn (ha.run pos pins s σ H _ I h) fun us s1 hh => ?_) he hpl
  obtain ⟨vs, H1, I1, r1, hz, q1⟩ := hh
  refine ⟨I1.kIn, ?_⟩
  show wpAny _ _ (call (.ref C) us) _ _ _
  obtain ⟨hp, g, dr, tk, os⟩ := s1
  have le1 : hp.objs.size ≤ hp.objs.size + 1 := Nat.le_succ _
  have hn : H1 (hp.objs.size + 1) = none := I1.hok.fresh le1
  have hq := q1 (hp.objs.size + 1) hn
  have kep : ∀ b o, hp.get? b = some o → ((hp.push (PySem.W.kdv_tup us)).push (PySem.HandSPX.excO C hp.objs.size)).get? b = some o := fun b o z => Heap.get?_push_of_some _ (Heap.get?_push_of_some _ z)
  have hget : ((hp.push (PySem.W.kdv_tup us)).push (PySem.HandSPX.excO C hp.objs.size)).get? (hp.objs.size + 1) = some (PySem.HandSPX.excO C hp.objs.size) := by heap_get
  have J2 : Inv X pins σ (upd H1 (hp.objs.size + 1) (exo (hp.objs.size + 1) C none)) ⟨(hp.push (PySem.W.kdv_tup us)).push (PySem.HandSPX.excO C hp.objs.size), g, dr, tk, os⟩ :=
    I1.laid (t' := tk) (a := hp.objs.size + 1) (o := exo (hp.objs.size + 1) C none) (h' := (hp.push (PySem.W.kdv_tup us)).push (PySem.HandSPX.excO C hp.objs.size)) kep le1 (exo_ok hget)
  have rv2 : Vals (V.ref (hp.objs.size + 1) :: (vs ++ dvs)) (Value.ref (hp.objs.size + 1) :: (us ++ ds)) := .cons rfl (r1.append hd)
  have hlen : (Value.ref (hp.objs.size + 1) :: us ++ ds).length = ps.length := by
    have z := rv2.length
    rw [F1.len _ _ _ _ hq] at z
    exact z.symm
  have hus : us.length ≤ sizeLine := by
    rw [← Paired.length r1, sizeLine_eq]
    omega
  refine wpAny_call (PySem.HandSPX.call_own F.excBase_ValueError (fun Y => PySem.HandSPX.refsVE_contains Y bm hbm) (I1.kIn _ _ hC) (PySem.W.looks_findIn I1.kIn iC) (fun self => PySem.W.bind_fn I1.kIn self tI) hus ?_)
  refine codeAny_mono (F1.run _ X.stack _ _ ⟨Value.ref (hp.objs.size + 1) :: us, []⟩ (Value.ref (hp.objs.size + 1) :: (us ++ ds)) _ _ (fun _ _ _ => False) (hr.make C us []) (J2.env0.make C us []) (hb _ (Value.ref (hp.objs.size + 1) :: us) J2.kIn hlen) rv2 hq) fun r s' hq' => ?_
  cases r with
  | error er => exact hx pins σ _ _ er s' J2 hq'
  | ok fl =>
    cases fl with
    | ret u =>
      obtain ⟨v, H2, os2, bare2, un2, hok2, rv, ev, d, fs, ea, ed, hd1, q2⟩ := hq'
      subst ev
      obtain ⟨h2, g2, d2, t2, os'⟩ := s'
      obtain ⟨t0, G, J, kG, ge, hoe, na⟩ := mk_end0 (d2 := d2) (t2 := t2) I1 le1 kep un2 hok2 os2 bare2 ea ed hd1
      refine ⟨rv, hp.objs.size + 1, _, _, ⟨G, g2, d2, t2, os'⟩, _, .ref C, some d, rfl, J, kG, ge, hoe, ⟨rfl, rfl, fun vs hv => ?_⟩, rfl, rfl, na, rfl, bare2, raises_own T.exC T.tyC, q2⟩
      cases hv
      rfl
    | next => exact False.elim hq'
    | brk => exact False.elim hq'
    | cont => exact False.elim hq'
theorem passAt0 {σ : St} : PassesAt CX0 X σ E0 := fun _ _ _ _ _ _ z => z.elim
theorem passH {W : WX} {E : XK} (tk : L2N.Takes X W) (hW : ∀ cls d σ H, E cls d H → W cls d σ H) : Passes (L2N.CX X.prog X.w) X E := fun pins σ H s e s' I c => L2N.passes_call tk hW pins σ H s e s' I c
end
section
variable {P : Program} {w : World} {K : PySem.W.Frag} {mg : Str → Option Value} {base : Heap}
theorem Fun.okN {x qual : Str} {st : Stmt} {f : Addr} {fd : FuncData} {N ps : List Str} {k : Nat} {sp : Sp} (F : Fun K x qual st f fd) (S : FnScope N ps (defScope st)) (len : ∀ vs H Q E, sp vs H Q E → vs.length = ps.length)
    (hbody : ∀ (cdv : Value) (A : Around) (outer : List Env) (s : Shared) (H : Hp) (vs : List V) (Q : VK) (E : XK), Room k (A.deeper (envOfC qual (defScope st) s.heap.objs.size f cdv)) → sp vs H Q E →
      ∃ t, PSs (cxOf (L2N.CX P w) P w K mg base N qual (defScope st) f cdv A outer s H E) (defBody st) t ∧ t { nx := fun _ H' => Q .non H', rt := Q } (start N vs) H) : FnOk P w K mg base (L2N.CX P w) (k + 1) f fd ps sp := by
  obtain ⟨oc, od, kV, doc, pm, an, cdv, ct, osl, rfl, lk, hcd⟩ := F.ex
  exact fn_of lk hcd S len fun A outer s H vs Q E hr hsp => hbody cdv A outer s H vs Q E hr hsp
/-- a def by its body, called where an exception is handled -/
theorem Fun.okH {x qual : Str} {st : Stmt} {f : Addr} {fd : FuncData} {N ps : List Str} {k : Nat} {sp : Sp} (F : Fun K x qual st f fd) (S : FnScope N ps (defScope st)) (len : ∀ vs H Q E, sp vs H Q E → vs.length = ps.length)
    (hbody : ∀ (cdv : Value) (A : Around) (outer : List Env) (s : Shared) (H : Hp) (vs : List V) (Q : VK) (E : XK) (p : Addr × Obj), HotC (cxH CX0 P w K mg base N qual (defScope st) f cdv A outer s H E p).nox → RoomH k (A.deeper (envOfC qual (defScope st) s.heap.objs.size f cdv)) → sp vs H Q E →
      ∃ t, PSs (cxH CX0 P w K mg base N qual (defScope st) f cdv A outer s H E p).nox (defBody st) t ∧ t { nx := fun _ H' => Q .non H', rt := Q } (start N vs) H) : FnH P w K mg base CX0 (k + 1) f fd ps sp := by
  obtain ⟨oc, od, kV, doc, pm, an, cdv, ct, osl, rfl, lk, hcd⟩ := F.ex
  refine L2H.fn_ofH lk hcd S len fun A outer s H vs Q E p hot hr hsp => ?_
  obtain ⟨t, ht, hq⟩ := hbody cdv A outer s H vs Q E p ⟨p, ⟨hot.1, hot.2⟩, List.mem_cons_self⟩ hr hsp
  exact ⟨t, ht.nox, hq⟩
theorem huH {A : Around} {k : Nat} (hr : RoomH k A) : A.units + 1 < cLine := by have := hr.un; omega
theorem hu66H {A : Around} {k : Nat} (hr : RoomH k A) : A.units + 66 < cLine := by have := hr.un; omega
theorem hu68H {A : Around} {k : Nat} (hr : RoomH k A) : A.units + 68 < cLine := by have := hr.un; omega
theorem unitsH {A : Around} {k : Nat} (hr : RoomH k A) : A.units + 64 < cLine := by have := hr.un; omega
end
/-! try, where the suites may call defs -/
abbrev SuiOkN (X : Cx) (ss : List Stmt) (ts : Sui) : Prop := ∀ (a : Addr) (oe : Obj) (k : Value) (d : Option Addr) (pn : List (Addr × Obj)), Zc k d oe → (∃ vs, oe.data = .fields vs) → HotC (X.suite a ((a, oe) :: pn)) → PSs (X.suite a ((a, oe) :: pn)) ss (ts a k d)
inductive HdsN (X : Cx) : List ExceptHandler → List (Value × Option Nat × Sui) → Prop
  | nil : HdsN X [] []
  | anon {x : Str} {c : Value} {ts : Sui} {s0 : Stmt} {ss : List Stmt} {p1 p2 : Pos} {hs : List ExceptHandler} {l : List (Value × Option Nat × Sui)} (hc : Names X x c) (su : SuiOkN X (s0 :: ss) ts) (r : HdsN X hs l) : HdsN X (.ExceptHandler (some (.Name x p1)) none (s0 :: ss) p2 :: hs) ((c, none, ts) :: l)
  | named {x n : Str} {i : Nat} {c : Value} {ts : Sui} {s0 : Stmt} {ss : List Stmt} {p1 p2 : Pos} {hs : List ExceptHandler} {l : List (Value × Option Nat × Sui)} (hi : X.N[i]? = some n) (hk : X.env.kindOf n = some .local) (hc : Names X x c) (su : SuiOkN X (s0 :: ss) ts) (r : HdsN X hs l) : HdsN X (.ExceptHandler (some (.Name x p1)) (some n) (s0 :: ss) p2 :: hs) ((c, some i, ts) :: l)
section
variable {X : Cx}
theorem ps_try_allN {bd el : List Stmt} {g0 : ExceptHandler} {gs : List ExceptHandler} {l : List (Value × Option Nat × Sui)} {p : Pos} {tb : WX → TS} {te : TS} {Wo : WX} (hN : X.N.Nodup) (hs : X.stack = X.env :: X.outer) (hf : X.env.frame = some X.env.locals) (tk : L2.Takes X Wo)
    (hb : ∀ (W : WX) (pn : List (Addr × Obj)) (xe : Value → Shared → Prop), L2N.Takes (X.tr pn xe) W → PassesOwn (model X.prog X.w) X.A X.env xe → PSs (X.tr pn xe) bd (tb W)) (hh : HdsN X (g0 :: gs) l) (he : PSs X el te) :
    PS X (.Try bd (g0 :: gs) el [] p) (fun D σ H => tb (wAll X.K Wo D l) { D with nx := te D } σ H) := by
  refine ⟨fun pins s σ H D I h => ?_⟩
  have ok := I.ok
  have fr : X.A.frames = some (X.env :: X.outer) := by rw [ok.frames, hs]
  let M := model X.prog X.w
  let catches : Value → Shared → Prop := fun e s1 => wpAny M X.A (noteFrame e X.env) (fun _ s2 => wpAny M X.A (setFlight e none) (fun _ s3 => wpAny M X.A (handleBy e X.env (g0 :: gs)) (SP X pins D) X.xe s3) X.xe s2) X.xe s1
  refine wpAny_Try_except ?_
  have run := (hb (wAll X.K Wo D l) (X.pn ++ pins) catches (fun u s' got => ?_) PassesOwn.looking).run [] s σ H { D with nx := te D } (I.toTry _) h
  refine wpAny_mono run (fun f s1 out => ?_) (fun e s1 z => z)
  · cases f with
    | next => obtain ⟨σ1, H1, J1, q⟩ := out; exact he.run pins s1 σ1 H1 D (J1.ofTry ok) q
    | brk => obtain ⟨σ1, H1, J1, q⟩ := out; exact ⟨σ1, H1, J1.ofTry ok, q⟩
    | cont => obtain ⟨σ1, H1, J1, q⟩ := out; exact ⟨σ1, H1, J1.ofTry ok, q⟩
    | ret u => obtain ⟨v, σ1, H1, J1, r, q⟩ := out; exact ⟨v, σ1, H1, J1.ofTry ok, r, q⟩
  · obtain ⟨a, B, sI, pins1, σ1, H1, k, d, rfl, J1, nb, up, sky, na, os, ag, wish⟩ := got
    have J : Inv X pins σ1 H1 sI := J1.ofTry ok
    have sk : Sky B (X.env :: X.outer) a (L2N.Zn k d) X.env.locals s'.heap := hs ▸ sky
    show wpAny M X.A (noteFrame (.ref a) X.env) _ _ _
    refine L2N.Sky.land L2N.Zn.steady fr hf sk fun hA flA upA => ?_
    have JA : Inv X pins σ1 H1 { s' with heap := hA } := J.landed nb flA.1 (up.trans upA) os ag
    obtain ⟨oA, vA, eA, zA, dA⟩ := flA.there
    have off : a ∉ frs (X.env :: X.outer) := fun hm => by
      obtain ⟨_, o1, e1, hn⟩ := flA.2.2.1.mem hm
      rw [eA] at e1
      cases e1
      exact hn _ dA
    have off1 : a ≠ X.env.locals := fun z => off (List.mem_filterMap.mpr ⟨X.env, List.mem_cons_self, by rw [hf, z]⟩)
    have off2 : a ∉ X.fs := fun hm => by
      obtain ⟨e, h1, h2⟩ := List.mem_filterMap.mp hm
      exact off (List.mem_filterMap.mpr ⟨e, List.mem_cons_of_mem _ h1, h2⟩)
    have SA := JA.suite eA dA na off1 off2
    have ask : ∀ {x : Str} {c : Value} {np : Pos} {Q E : Value → Shared → Prop}, Names X x c → Q c { s' with heap := hA } → wpAny M (X.A.mark (some (.ref a))) (eval (.Name x np) X.env) Q E { s' with heap := hA } := fun {x c np Q E} hc q => by
      obtain ⟨hg, hd, hm | ⟨hm, hv, hn⟩⟩ := hc
      · exact ld_glob (X := X.suite a ((a, oA) :: (X.pn ++ pins))) SA hg hm q hd
      · exact ld_blt (X := X.suite a ((a, oA) :: (X.pn ++ pins))) SA hg hm hv q hn hd
    have type_ : PySem.W.Looks M hA (typeOf (.ref a)) k := fun A Q E s q1 q2 => wpAny_typeOf_ref (q1 _ _ eA) (by rw [zA.1]; exact q2)
    suffices go : ∀ {hs1 : List ExceptHandler} {l1 : List (Value × Option Nat × Sui)}, HdsN X hs1 l1 → wAll X.K Wo D l1 k d σ1 H1 → wpAny M X.A (handleBy (.ref a) X.env hs1) (SP X pins D) X.xe { s' with heap := hA } from go hh wish
    intro hs1 l1 hk
    induction hk with
    | nil =>
      intro wsh
      refine wpAny_handleBy_nil ?_
      obtain ⟨_, _, _, oe, vs, T, oT, tt, e0, z0, d0, t0, r0⟩ := id flA
      unfold PySem.passOn
      refine wpAny_bind (wpAny_field e0 d0 t0 ?_)
      rw [if_neg (show ¬ ((Value.ref T == Value.none) = true) by simp)]
      have last : wpAny M X.A (setFlight (.ref a) X.env.frame) (fun _ s4 => wpAny M X.A (throw (.ref a) : Sem Flow) (SP X pins D) X.xe s4) X.xe { s' with heap := hA } := by
        rw [hf]
        refine HandSPX.setFlight_upZ (L2H.flyingZ_imp (fun o z => z.zc) flA) fun hB kB upB => wpAny_throw (tk _ _ ?_)
        exact ⟨a, B, sI, pins, σ1, H1, k, d, rfl, J, nb, (up.trans upA).trans upB, .inr (.inr (hs ▸ kB)), na, os, ag, wsh⟩
      first
        | exact wpAny_bind (wpAny_pure (wpAny_bind last))
        | exact wpAny_bind last
    | @anon x c ts s0 ss p1 p2 hs2 l2 hc su r ih =>
      intro wsh
      obtain ⟨b, hb1, yes, no⟩ := wsh
      have LM := PySem.W.exm_one (M := M) JA.kIn type_ hb1
      refine wpAny_handleBy_cons (codeAny_handlers_test (ask hc (LM.here ?_))) (by intro q; cases q)
      cases b with
      | false => exact ih (no rfl)
      | true =>
        refine codeAny_handlers_suite (HandSPX.lands_againZ flA fun hB flB upB => ?_)
        have JB : Inv X pins σ1 H1 { s' with heap := hB } := J.landed nb flB.1 ((up.trans upA).trans upB) os ag
        obtain ⟨oB, vB, eB, zB, dB⟩ := flB.there
        have run2 := (su a oB k d (X.pn ++ pins) zB.zc ⟨_, dB⟩ ⟨(a, oB), ⟨rfl, vB, dB, zB.2.2 vB dB⟩, List.mem_cons_self⟩).run [] _ _ H1 _ (JB.suite eB dB na off1 off2) (yes rfl a na)
        refine wpAny_mono run2 (fun f s6 out => ?_) (fun _ _ z => False.elim z)
        cases f with
        | next => obtain ⟨σ6, H6, S6, q6⟩ := out; exact ⟨_, _, S6.unsuite ok, q6⟩
        | brk => obtain ⟨σ6, H6, S6, q6⟩ := out; exact ⟨_, _, S6.unsuite ok, q6⟩
        | cont => obtain ⟨σ6, H6, S6, q6⟩ := out; exact ⟨_, _, S6.unsuite ok, q6⟩
        | ret u => obtain ⟨v6, σ6, H6, S6, r6, q6⟩ := out; exact ⟨_, _, _, S6.unsuite ok, r6, q6⟩
    | @named x n i c ts s0 ss p1 p2 hs2 l2 hi hkn hc su r ih =>
      intro wsh
      obtain ⟨b, hb1, yes, no⟩ := wsh
      have LM := PySem.W.exm_one (M := M) JA.kIn type_ hb1
      refine wpAny_handleBy_cons (codeAny_handlers_test (ask hc (LM.here ?_))) (by intro q; cases q)
      cases b with
      | false => exact ih (no rfl)
      | true =>
        refine codeAny_handlers_suite_as (HandSPX.lands_againZ flA fun hB flB upB => ?_)
        have JB : Inv X pins σ1 H1 { s' with heap := hB } := J.landed nb flB.1 ((up.trans upA).trans upB) os ag
        obtain ⟨oB, vB, eB, zB, dB⟩ := flB.there
        refine store_ok (X := X.suite a ((a, oB) :: (X.pn ++ pins))) (v := .ref a) (JB.suite eB dB na off1 off2) hN hi (.inl hkn) rfl (fun s5 S5 => ?_) (.inr hkn)
        have run2 := (su a oB k d (X.pn ++ pins) zB.zc ⟨_, dB⟩ ⟨(a, oB), ⟨rfl, vB, dB, zB.2.2 vB dB⟩, List.mem_cons_self⟩).run [] s5 _ H1 _ S5 (yes rfl a na)
        refine wpAny_mono run2 (fun f s6 out => ?_) (fun _ _ z => False.elim z)
        cases f with
        | next => obtain ⟨σ6, H6, S6, q6⟩ := out; exact gone_ok (S6.unsuite ok) hN hi hkn fun s7 J7 => ⟨_, _, J7, q6⟩
        | brk => obtain ⟨σ6, H6, S6, q6⟩ := out; exact gone_ok (S6.unsuite ok) hN hi hkn fun s7 J7 => ⟨_, _, J7, q6⟩
        | cont => obtain ⟨σ6, H6, S6, q6⟩ := out; exact gone_ok (S6.unsuite ok) hN hi hkn fun s7 J7 => ⟨_, _, J7, q6⟩
        | ret u => obtain ⟨v6, σ6, H6, S6, r6, q6⟩ := out; exact gone_ok (S6.unsuite ok) hN hi hkn fun s7 J7 => ⟨_, _, _, J7, r6, q6⟩
end
end L2

/-! ### repr of a dict from texts to tuples of texts -/
namespace L2
open PySem PySem.Spec PyProof.Rows
open TL (tl)
def ktD (L : List (Str × List Str)) : PyData := .dict (L.map fun q => (PyData.str q.1, PyData.tuple (q.2.map PyData.str)))
def KtAt (H : Hp) (a : Addr) (L : List (Str × List Str)) : Prop := ∃ kv, H a = some (.dK kv) ∧ Paired (fun (p : Key × V) (q : Str × List Str) => p.1 = .inr q.1 ∧ ∃ t, p.2 = .ref t ∧ H t = some (.tup (q.2.map V.str))) kv L
def TxS (s : Str) : Prop := OkT s ∧ s.length ≤ 80
def KtOk (L : List (Str × List Str)) : Prop := L.length ≤ 40 ∧ ∀ q ∈ L, TxS q.1 ∧ q.2.length ≤ 40 ∧ ∀ z ∈ q.2, TxS z
def rReprKT : List V → Hp → VK → Prop := fun xs H Q => ∃ a L, xs = [.ref a] ∧ KtAt H a L ∧ KtOk L ∧ Q (.str (ktD L).shown) H
section
variable {X : Cx} {pins : List (Addr × Obj)} {σ : St} {H : Hp} {s : Shared}
theorem reads_strs {h : Heap} : ∀ {l : List Str} {us : List Value}, Vals (l.map V.str) us → ReadsAll h us (l.map PyData.str) []
  | [], _, .nil => ReadsAll.nil
  | a :: l, _, .cons r t => by
    obtain ⟨tk, rfl⟩ := (show ∃ t, _ = Value.str a t from r)
    exact ReadsAll.cons (as := []) (bs := []) (.str a tk) (reads_strs t)
theorem kt_reads (I : Inv X pins σ H s) : ∀ {L : List (Str × List Str)} {kv : List (Key × V)} {vs : List (Key × Value)} {es : List DictEntry}, Paired (fun (p : Key × V) (q : Str × List Str) => p.1 = .inr q.1 ∧ ∃ t, p.2 = .ref t ∧ H t = some (.tup (q.2.map V.str))) kv L → KV kv vs → Pairs (mixKind X.prog X.w) es vs →
    ReadsAll s.heap (es.map (·.key)) (L.map fun q => PyData.str q.1) [] ∧ ReadsAll s.heap (es.map (·.val)) (L.map fun q => PyData.tuple (q.2.map PyData.str)) []
  | [], _, _, _, .nil, hkv, hp => by
    cases hkv
    cases hp
    exact ⟨.nil, .nil⟩
  | q :: L, _, _, _, .cons h t, hkv, hp => by
    unfold KV at hkv
    cases hkv with
    | cons h2 t2 =>
      cases hp with
      | cons k1 k2 t3 =>
        obtain ⟨e1, ta, e2, hta⟩ := h
        obtain ⟨f1, f2⟩ := h2
        obtain ⟨r1, r2⟩ := kt_reads I t t2 t3
        rw [← f1, e1] at k1
        obtain ⟨tk, ek⟩ := (show ∃ t, _ = Value.str q.1 t from relV_key (k := .inr q.1) (show keyIs _ _ = true from k1))
        rw [e2] at f2
        have f2' := (show _ = Value.ref ta from f2)
        obtain ⟨its, rv, hp2, hlen⟩ := I.tuple (SqT.of hta)
        obtain ⟨o, ho, hc, n, hd⟩ := hp2
        refine ⟨?_, ?_⟩
        · rw [List.map_cons, List.map_cons, ek]
          exact ReadsAll.cons (as := []) (bs := []) (.str _ _) r1
        · rw [List.map_cons, List.map_cons, k2, f2']
          exact ReadsAll.cons (as := []) (bs := []) (Reads.tuple ho hc hd (by simpa using reads_strs rv)) r2
theorem kv_ok {B D : Nat} : ∀ {L : List (Str × List Str)}, (∀ q ∈ L, RpOk 0 B (.str q.1) ∧ RpOk D B (.tuple (q.2.map PyData.str))) → PyData.showableKv (L.map fun q => (PyData.str q.1, PyData.tuple (q.2.map PyData.str))) = true ∧ PyData.leavesShortKv 13 (L.map fun q => (PyData.str q.1, PyData.tuple (q.2.map PyData.str))) = true ∧ PyData.depthKv (L.map fun q => (PyData.str q.1, PyData.tuple (q.2.map PyData.str))) ≤ D ∧ PyData.bulkKv (L.map fun q => (PyData.str q.1, PyData.tuple (q.2.map PyData.str))) ≤ L.length * (2 * B + 2)
  | [], _ => by simp [PyData.showableKv, PyData.leavesShortKv, PyData.depthKv, PyData.bulkKv]
  | q :: L, h => by
    obtain ⟨⟨a1, a2, a3, a4, a5⟩, b1, b2, b3, b4, b5⟩ := h q List.mem_cons_self
    obtain ⟨h1, h2, h3, h4⟩ := kv_ok (L := L) fun z hz => h z (List.mem_cons_of_mem _ hz)
    rw [List.map_cons]
    refine ⟨by simp only [PyData.showableKv, a1, b1, h1, Bool.and_self], by simp only [PyData.leavesShortKv, a3, b3, h2, Bool.and_self], by simp only [PyData.depthKv]; omega, ?_⟩
    simp only [PyData.bulkKv]
    rw [List.length_cons, Nat.succ_mul]
    omega
theorem strs_ok : ∀ {l : List Str}, (∀ z ∈ l, TxS z) → RpAll 0 (l.length * 81) (l.map PyData.str)
  | [], _ => rp_nil
  | a :: l, h => by
    have h1 := (rp_str (h a List.mem_cons_self).1).mono (Nat.le_refl 0) (h a List.mem_cons_self).2
    obtain ⟨k1, k2, k3, k4, k5⟩ := rp_cons h1 (strs_ok (l := l) fun z hz => h z (List.mem_cons_of_mem _ hz))
    refine ⟨k1, k2, k3, Nat.le_trans k4 (by decide), ?_⟩
    rw [List.length_cons, Nat.succ_mul]
    have k5' : PyData.bulkAll ((a :: l).map PyData.str) ≤ 80 + 1 + l.length * 81 := k5
    omega
theorem call_reprKT (hgd : X.A.guards = some []) (hu : X.A.units + 62 < cLine) : CallR X (.builtin "repr") rReprKT := by
  intro pins s σ H xs us Q I r h
  obtain ⟨a, L, rfl, ⟨kv, ha, hp⟩, ⟨hl, hL⟩, q⟩ := h
  cases r with
  | cons ra rr =>
    cases rr
    rename_i u
    cases (show u = Value.ref a from ra)
    obtain ⟨_, hsys, vs, hkv, o, es, ep, ho, hx, hda, _, hpr, _⟩ := I.hok a _ ha
    obtain ⟨r1, r2⟩ := kt_reads I hp hkv hpr
    have rd : Reads s.heap (.ref a) (ktD L) [a] := Reads.dict (as := []) (bs := []) ho hx.1 hda (by rw [List.map_map]; exact r1) (by rw [List.map_map]; exact r2)
    have ok := kv_ok (B := 3240) (D := 1) (L := L) fun q hq => ⟨(rp_str (hL q hq).1.1).mono (Nat.le_refl _) (by have := (hL q hq).1.2; omega), (rp_tup (strs_ok (hL q hq).2.2)).mono (by omega) (by have := (hL q hq).2.1; have := Nat.mul_le_mul_right 81 this; omega)⟩
    obtain ⟨k1, k2, k3, k4⟩ := ok
    have hb : (ktD L).bulk ≤ 2 ^ 20 := by
      unfold ktD
      simp only [PyData.bulk]
      have := Nat.mul_le_mul_right (2 * 3240 + 2) hl
      omega
    have hls : (ktD L).leavesShort 13 = true := by unfold ktD; simp only [PyData.leavesShort]; exact k2
    refine repr_of_reads' rd (by unfold ktD; simp only [PyData.showable]; exact k1) (fun _ z => ?_) hgd (by unfold ktD; simp only [PyData.depth]; omega) (fun _ _ z => z) (fun h' u tk hk => ?_) (PyData.shown_fits_bulk (B := 13) (by decide) (by decide) hls hb)
    · have : sysModules = a := by simpa using z
      rw [this] at hsys
      simp at hsys
    · exact ⟨.str _, H, I.kept (t' := tk) hk, ⟨_, rfl⟩, q⟩
end
end L2

/-! ### a comprehension over any walk of given things, some left out, each thing made with a property -/
namespace L2
open PySem PySem.Spec PyProof.Rows
open Evl hiding RetV RetL
section
variable {K : PySem.W.Frag} {σ : St} {H : Hp} {Q : VK} {g : L2.TG} {tt : TT} {te : TE} {vs : List Nat}
theorem lcW {α : Type} {J : It} {xs : List V} {G0 : Hp → Prop} {as : List α} (w : Walk J xs.length G0 (YAt xs)) (hG : ∀ G, Ex H G → G0 G) (hl : as.length = xs.length) (hn : xs.length ≤ 1000) (F : α → Bool) (P : Addr → α → V → Hp → Prop)
    (hst : ∀ D r y G G2, ExB D G G2 → NL G G2 → P D r y G → P D r y G2)
    (ht : ∀ (D : Addr) (i : Nat) (r : α) (x : V), H D = none → as[i]? = some r → xs[i]? = some x → ∀ H2, Ex H H2 → (∃ o, H2 D = some o) → ∀ (R : V → Hp → Prop) (N : Hp → Prop), (F r = true → ∀ y H3, Ex H2 H3 → P D r y H3 → R y H3) → (F r = false → ∀ H3, Ex H2 H3 → N H3) →
      g x (wipe σ vs) H2 fun σ2 H3 => wipe σ2 vs = wipe σ vs ∧ tt σ2 H3 fun c H4 => if c = true then te σ2 H4 fun y H5 => R y H5 else N H4)
    (k : ∀ ys p H2, Paired (fun r y => P p r y H2) (as.filter F) ys → H p = none → Ex H H2 → H2 p = some (.lst ys) → Q (.ref p) H2) : LcI J g tt te vs σ H Q := by
  refine fun D hD => ?_
  have ex : ∀ {G : Hp} {o : HO}, Ex H G → Ex H (upd G D o) := fun e b u hb => by rw [upd_ne (ne_of_none hb hD)]; exact e b u hb
  refine lc_it w (fun i H' => i ≤ xs.length ∧ Ex H H' ∧ ∃ ys, Paired (fun r y => P D r y H') ((as.take i).filter F) ys ∧ H' D = some (.lst ys))
    ⟨Nat.zero_le _, ex (Ex.refl _), [], .nil, upd_same⟩ (fun i H' _ p => hG _ p.2.1) (fun i x H' H'' hi p y => ?_) (fun H' p => ?_)
  · obtain ⟨rfl, hx⟩ := y
    obtain ⟨_, e1, ys, hy, hD'⟩ := p
    have hil : i < as.length := by omega
    have hr : as[i]? = some as[i] := List.getElem?_eq_getElem hil
    have hyl : ys.length ≤ i := by
      rw [← paired_len hy]
      exact Nat.le_trans (List.length_filter_le _ _) (by rw [List.length_take]; omega)
    have htk : as.take (i + 1) = as.take i ++ [as[i]] := by rw [List.take_add_one, hr]; rfl
    refine ht D i as[i] x hD hr hx H'' e1 ⟨_, hD'⟩ (fun y H4 => ∃ acc, H4 D = some (.lst acc) ∧ acc.length < sizeLine ∧ (i + 1 ≤ xs.length ∧ Ex H (upd H4 D (.lst (acc ++ [y]))) ∧ ∃ zs, Paired (fun r z => P D r z (upd H4 D (.lst (acc ++ [y])))) ((as.take (i + 1)).filter F) zs ∧ upd H4 D (.lst (acc ++ [y])) D = some (.lst zs))) (fun H4 => i + 1 ≤ xs.length ∧ Ex H H4 ∧ ∃ zs, Paired (fun r z => P D r z H4) ((as.take (i + 1)).filter F) zs ∧ H4 D = some (.lst zs)) (fun hF y H3 e3 py => ?_) (fun hF H3 e3 => ?_)
    · have hD3 := e3 _ _ hD'
      have eD : ExB D H3 (upd H3 D (.lst (ys ++ [y]))) := ExB.upd
      have eN : NL H3 (upd H3 D (.lst (ys ++ [y]))) := NL.upd hD3
      refine ⟨ys, hD3, Evl.sz_lt (by omega), hi, ex (e1.trans e3), ys ++ [y], ?_, upd_same⟩
      rw [htk, List.filter_append, List.filter_cons_of_pos hF, List.filter_nil]
      exact paired_snoc (F := fun r z => P D r z (upd H3 D (HO.lst (ys ++ [y])))) (hst _ _ _ _ _ eD eN py) (paired_up (fun a b h => hst _ _ _ _ _ eD eN (hst _ _ _ _ _ (ExB.of e3) (NL.of e3) h)) hy)
    · refine ⟨hi, e1.trans e3, ys, ?_, e3 _ _ hD'⟩
      rw [htk, List.filter_append, List.filter_cons_of_neg (by rw [hF]; decide), List.filter_nil, List.append_nil]
      exact paired_up (fun a b h => hst _ _ _ _ _ (ExB.of e3) (NL.of e3) h) hy
  · obtain ⟨_, e1, ys, hy, hD'⟩ := p
    rw [← hl, List.take_length] at hy
    exact k ys D H' hy hD e1 hD'
end
end L2

/-! ### a call of a local name that holds a def; what is raised is wished for at the caller's slots -/
namespace L2
open PySem PySem.Spec PyProof.Rows
section
variable {X : Cx} {CX : CXT} {k i : Nat} {f : Addr} {fd : FuncData} {ps : List Str} {sp : Sp} {x : Str} {p pos : Pos} {e : Expr} {es : List Expr} {t : TA} {E : St → XK}
def tCallLS (i : Nat) (f : Addr) (sp : Sp) (E : St → XK) (t : TA) : TE := fun σ H Q => σ[i]? = some (some (.ref f)) ∧ t σ H fun vs H1 => sp vs H1 Q (E σ)
theorem pe_callLS (F : FnOk X.prog X.w X.K X.mg X.base CX k f fd ps sp) (hr : Room k X.A) (hN : X.N[i]? = some x) (hv : Vis X.env.scope x) (hk : PySem.W.keepIn X.K (.ref f) = true) (hb : Binds X.K fd ps []) (hx : ∀ σ, PassesAt CX X σ (E σ)) (ha : PA X (e :: es) t)
    (hdb : (x == ("__debug__" : Str)) = false := by decide) (hcd : (x == ("__classdict__" : Str)) = false := by decide)
    (he : starEach (e :: es) X.env = (false, eval e X.env) :: starEach es X.env := by rfl) (hpl : (backTo pos (starEach es X.env)).any (·.1) = false := by rfl) : PE X (.Call (.Name x p) (e :: es) [] pos) (tCallLS i f sp E t) := by
  refine ⟨fun pins s σ H Q I h => ?_⟩
  obtain ⟨hs, ht⟩ := h
  refine wpAny_Call_Name_kw (thn ((pe_var (pos := p) hN hv hdb hcd).run pins s σ H (fun v H1 => v = .ref f ∧ H1 = H) I ⟨.ref f, hs, rfl, rfl⟩) fun u s1 ⟨v, H1, I1, r1, q1⟩ => ?_)
  obtain ⟨rfl, rfl⟩ := q1
  cases r1
  refine PySem.W.callWith_K (h₀ := X.base) I.ok.mod.kin hk (thn (ha.run pos pins s1 σ _ _ I1 ht) fun us s2 ⟨vs, H2, I2, r, q⟩ => ⟨I2.kIn, ?_⟩) he hpl
  exact run_fnS F hr hb (hx σ) I2 r q
theorem c_callLS {σ : St} {H : Hp} {Q : VK} (hs : σ[i]? = some (some (.ref f))) (h : t σ H fun vs H1 => sp vs H1 Q (E σ)) : tCallLS i f sp E t σ H Q := ⟨hs, h⟩
end
end L2

open L2 in
local macro_rules | `(tactic| walk_at "s") => `(tactic| with_reducible (first
  | refine c_var (by with_unfolding_all rfl) ?_ | refine c_c ?_ | refine c_op ?_ | refine c_test ?_ | refine c_cons ?_ | refine c_nil ?_ | refine c_call ?_ | refine c_cb ?_ | refine c_seq ?_ | refine c_asg ?_ | refine c_gName ?_ | refine c_ret ?_ | refine c_ifS ?_
  | (refine d_nx ?_; refine c_nx ?_) | (refine d_rt ?_; refine c_rt ?_) | (refine d_bk ?_; refine c_bk ?_) | (refine d_ct ?_; refine c_ct ?_) | refine c_next ?_ | refine c_drop ?_ | refine c_un ?_ | refine c_b ?_ | refine c_and ?_ | refine c_or ?_ | refine c_not ?_ | refine c_andV ?_ | refine c_orV ?_ | refine c_notV ?_ | refine c_if ?_
  | refine c_tup ?_ | refine c_lst ?_ | refine c_sl ?_ | refine c_noPart ?_ | refine c_part ?_ | refine c_bm ?_ | refine c_bm0 ?_ | refine c_m0 ?_ | refine c_m1 ?_ | refine c_chain ?_ | refine c_retN ?_ | refine c_gCons ?_ | refine c_gNil ?_ | refine c_gSub ?_
  | refine c_I0 ?_ | refine c_U ?_ | refine c_eq (by with_unfolding_all rfl) ?_ | refine c_ne (by with_unfolding_all rfl) ?_ | refine c_yes ?_ | refine c_forS ?_ | refine c_lcSi ?_ | refine c_forR1 ?_ | refine c_forR2 ?_ | refine c_forL ?_ | refine c_forT ?_ | refine c_lcR1 ?_ | refine c_lcLi ?_ | refine c_lcTi ?_ | refine c_forE ?_ | refine c_lcZi ?_ | refine c_xfv ?_ | refine c_mkv ?_ | refine c_mp ?_ | refine c_fld ?_ | refine c_sfld ?_ | refine c_make ?_ | refine c_ckw ?_ | refine c_sdput ?_ | refine c_dget ?_ | refine c_callS ?_ | refine c_xf ?_ | refine c_mko ?_ | refine c_mps ?_ | refine c_lcK ?_ | refine c_forK ?_ | refine c_dpop ?_ | refine c_dget2 ?_ | refine c_dget1 ?_ | refine c_forIt ?_ | refine c_listIt ?_ | refine c_break ?_ | refine c_cont ?_ | refine c_orT ?_ | refine c_andT ?_ | refine c_notT ?_ | refine iteT ?_ | refine iteF ?_ | refine if_nt ?_ | refine if_nf ?_
  | refine ⟨_, rfl, ?_⟩ | refine ⟨_, _, rfl, rfl, ?_⟩ | refine And.intro rfl ?_))
local macro_rules | `(tactic| walk_at "ss") => `(tactic| repeat (walk_at "s"))

namespace Toy
open PySem L2
open Evl hiding RetV RetL
def top (i : Nat) : Stmt := PySem.Challenge.pw_beatrows_k56_whole_clocks_in_any_order.main.body.getD i (.Pass ⟨0, 0, 0, 0⟩)
abbrev s_NoFit_init : Stmt := (cBody (top 12)).getD 0 (.Pass ⟨0, 0, 0, 0⟩)
abbrev s_NoClock_init : Stmt := (cBody (top 13)).getD 0 (.Pass ⟨0, 0, 0, 0⟩)
abbrev s_names_within : Stmt := top 15
abbrev s_mentioned : Stmt := top 16
abbrev s_clock_given : Stmt := top 17
abbrev s_named_rows : Stmt := top 18
abbrev s_names_told : Stmt := top 19
abbrev s_steps_of : Stmt := top 20
abbrev s_fitted : Stmt := top 21
abbrev s_clocks_of : Stmt := top 22
abbrev s_is_whole : Stmt := top 29
abbrev s_is_within : Stmt := top 30
abbrev s_is_name : Stmt := top 31
abbrev s_is_pointed : Stmt := top 32
abbrev s_is_value : Stmt := top 33
abbrev s_ops_told : Stmt := top 37
abbrev s_Term_parts : Stmt := (cBody (top 40)).getD 0 (.Pass ⟨0, 0, 0, 0⟩)
abbrev s_Term_names : Stmt := (cBody (top 40)).getD 1 (.Pass ⟨0, 0, 0, 0⟩)
abbrev s_Term_levels : Stmt := (cBody (top 40)).getD 2 (.Pass ⟨0, 0, 0, 0⟩)
abbrev s_need_term : Stmt := top 41
abbrev s_Name_init : Stmt := (cBody (top 42)).getD 0 (.Pass ⟨0, 0, 0, 0⟩)
abbrev s_Name_names : Stmt := (cBody (top 42)).getD 1 (.Pass ⟨0, 0, 0, 0⟩)
abbrev s_Name_told : Stmt := (cBody (top 42)).getD 4 (.Pass ⟨0, 0, 0, 0⟩)
abbrev s_Value_init : Stmt := (cBody (top 43)).getD 0 (.Pass ⟨0, 0, 0, 0⟩)
abbrev s_Value_told : Stmt := (cBody (top 43)).getD 2 (.Pass ⟨0, 0, 0, 0⟩)
abbrev s_Two_init : Stmt := (cBody (top 44)).getD 0 (.Pass ⟨0, 0, 0, 0⟩)
abbrev s_Two_parts : Stmt := (cBody (top 44)).getD 1 (.Pass ⟨0, 0, 0, 0⟩)
abbrev s_Two_told : Stmt := (cBody (top 44)).getD 4 (.Pass ⟨0, 0, 0, 0⟩)
abbrev s_Not_init : Stmt := (cBody (top 45)).getD 0 (.Pass ⟨0, 0, 0, 0⟩)
abbrev s_Not_parts : Stmt := (cBody (top 45)).getD 1 (.Pass ⟨0, 0, 0, 0⟩)
abbrev s_Not_told : Stmt := (cBody (top 45)).getD 4 (.Pass ⟨0, 0, 0, 0⟩)
abbrev s_Pick_init : Stmt := (cBody (top 46)).getD 0 (.Pass ⟨0, 0, 0, 0⟩)
abbrev s_Pick_parts : Stmt := (cBody (top 46)).getD 1 (.Pass ⟨0, 0, 0, 0⟩)
abbrev s_Pick_told : Stmt := (cBody (top 46)).getD 4 (.Pass ⟨0, 0, 0, 0⟩)
abbrev s_simple_of : Stmt := top 47
abbrev s_made_of_told : Stmt := top 48
abbrev s_term_of : Stmt := top 49
abbrev s_each_once : Stmt := top 51
abbrev s_Equation_init : Stmt := (cBody (top 52)).getD 0 (.Pass ⟨0, 0, 0, 0⟩)
abbrev s_Equation_told : Stmt := (cBody (top 52)).getD 1 (.Pass ⟨0, 0, 0, 0⟩)
abbrev s_Equation_tells : Stmt := (cBody (top 52)).getD 2 (.Pass ⟨0, 0, 0, 0⟩)
abbrev s_Equation_names : Stmt := (cBody (top 52)).getD 3 (.Pass ⟨0, 0, 0, 0⟩)
abbrev s_Equation_term : Stmt := (cBody (top 52)).getD 4 (.Pass ⟨0, 0, 0, 0⟩)
abbrev s_Plain_init : Stmt := (cBody (top 53)).getD 0 (.Pass ⟨0, 0, 0, 0⟩)
abbrev s_Plain_names : Stmt := (cBody (top 53)).getD 1 (.Pass ⟨0, 0, 0, 0⟩)
abbrev s_Plain_term : Stmt := (cBody (top 53)).getD 2 (.Pass ⟨0, 0, 0, 0⟩)
abbrev s_When_names : Stmt := (cBody (top 55)).getD 0 (.Pass ⟨0, 0, 0, 0⟩)
abbrev s_Same_tells : Stmt := (cBody (top 58)).getD 0 (.Pass ⟨0, 0, 0, 0⟩)
abbrev s_Same_names : Stmt := (cBody (top 58)).getD 1 (.Pass ⟨0, 0, 0, 0⟩)
abbrev s_Call_tells : Stmt := (cBody (top 59)).getD 0 (.Pass ⟨0, 0, 0, 0⟩)
abbrev s_Call_names : Stmt := (cBody (top 59)).getD 1 (.Pass ⟨0, 0, 0, 0⟩)
abbrev s_are_pointed : Stmt := top 60
abbrev s_is_valued : Stmt := top 61
abbrev s_plain_of : Stmt := top 62
abbrev s_valued_of : Stmt := top 63
abbrev s_call_of : Stmt := top 64
abbrev s_made_of : Stmt := top 65
abbrev s_equation_of : Stmt := top 66
abbrev s_need_names : Stmt := top 69
abbrev s_equations_of : Stmt := top 70
abbrev s_Node_init : Stmt := (cBody (top 71)).getD 0 (.Pass ⟨0, 0, 0, 0⟩)
abbrev s_Node_take_tellers : Stmt := (cBody (top 71)).getD 1 (.Pass ⟨0, 0, 0, 0⟩)
abbrev s_Node_need_told : Stmt := (cBody (top 71)).getD 2 (.Pass ⟨0, 0, 0, 0⟩)
abbrev s_Node_told : Stmt := (cBody (top 71)).getD 9 (.Pass ⟨0, 0, 0, 0⟩)
abbrev s_node_of : Stmt := top 72
abbrev s_cell_l : Stmt := top 74
abbrev s_begun_l : Stmt := top 75
abbrev s_draw_l : Stmt := top 76
abbrev s_named_all_l : Stmt := top 77
abbrev s_formed_l : Stmt := top 78
abbrev s_some_value_l : Stmt := top 79
abbrev s_grown_l : Stmt := top 80
abbrev s_row_list_l : Stmt := top 81
abbrev s_spoilt_l : Stmt := top 82
abbrev s_turned_l : Stmt := top 83
abbrev s_told_names_l : Stmt := top 84
abbrev s_built_l : Stmt := top 85
abbrev s_telling_l : Stmt := top 86
abbrev s_word_l : Stmt := top 87
abbrev s_put_l : Stmt := top 88
abbrev s_renamed_l : Stmt := top 89
abbrev s_term_put_l : Stmt := top 90
abbrev s_more_l : Stmt := top 91
abbrev s_law : Stmt := top 92
/-- where the defs stand -/
structure Adr where
  f_NoFit_init : Addr
  fd_NoFit_init : FuncData
  f_NoClock_init : Addr
  fd_NoClock_init : FuncData
  f_names_within : Addr
  fd_names_within : FuncData
  f_mentioned : Addr
  fd_mentioned : FuncData
  f_clock_given : Addr
  fd_clock_given : FuncData
  f_named_rows : Addr
  fd_named_rows : FuncData
  f_names_told : Addr
  fd_names_told : FuncData
  f_steps_of : Addr
  fd_steps_of : FuncData
  f_fitted : Addr
  fd_fitted : FuncData
  f_clocks_of : Addr
  fd_clocks_of : FuncData
  f_is_whole : Addr
  fd_is_whole : FuncData
  f_is_within : Addr
  fd_is_within : FuncData
  f_is_name : Addr
  fd_is_name : FuncData
  f_is_pointed : Addr
  fd_is_pointed : FuncData
  f_is_value : Addr
  fd_is_value : FuncData
  f_ops_told : Addr
  fd_ops_told : FuncData
  f_Term_parts : Addr
  fd_Term_parts : FuncData
  f_Term_names : Addr
  fd_Term_names : FuncData
  f_Term_levels : Addr
  fd_Term_levels : FuncData
  f_need_term : Addr
  fd_need_term : FuncData
  f_Name_init : Addr
  fd_Name_init : FuncData
  f_Name_names : Addr
  fd_Name_names : FuncData
  f_Name_told : Addr
  fd_Name_told : FuncData
  f_Value_init : Addr
  fd_Value_init : FuncData
  f_Value_told : Addr
  fd_Value_told : FuncData
  f_Two_init : Addr
  fd_Two_init : FuncData
  f_Two_parts : Addr
  fd_Two_parts : FuncData
  f_Two_told : Addr
  fd_Two_told : FuncData
  f_Not_init : Addr
  fd_Not_init : FuncData
  f_Not_parts : Addr
  fd_Not_parts : FuncData
  f_Not_told : Addr
  fd_Not_told : FuncData
  f_Pick_init : Addr
  fd_Pick_init : FuncData
  f_Pick_parts : Addr
  fd_Pick_parts : FuncData
  f_Pick_told : Addr
  fd_Pick_told : FuncData
  f_simple_of : Addr
  fd_simple_of : FuncData
  f_made_of_told : Addr
  fd_made_of_told : FuncData
  f_term_of : Addr
  fd_term_of : FuncData
  f_each_once : Addr
  fd_each_once : FuncData
  f_Equation_init : Addr
  fd_Equation_init : FuncData
  f_Equation_told : Addr
  fd_Equation_told : FuncData
  f_Equation_tells : Addr
  fd_Equation_tells : FuncData
  f_Equation_names : Addr
  fd_Equation_names : FuncData
  f_Equation_term : Addr
  fd_Equation_term : FuncData
  f_Plain_init : Addr
  fd_Plain_init : FuncData
  f_Plain_names : Addr
  fd_Plain_names : FuncData
  f_Plain_term : Addr
  fd_Plain_term : FuncData
  f_When_names : Addr
  fd_When_names : FuncData
  f_Same_tells : Addr
  fd_Same_tells : FuncData
  f_Same_names : Addr
  fd_Same_names : FuncData
  f_Call_tells : Addr
  fd_Call_tells : FuncData
  f_Call_names : Addr
  fd_Call_names : FuncData
  f_are_pointed : Addr
  fd_are_pointed : FuncData
  f_is_valued : Addr
  fd_is_valued : FuncData
  f_plain_of : Addr
  fd_plain_of : FuncData
  f_valued_of : Addr
  fd_valued_of : FuncData
  f_call_of : Addr
  fd_call_of : FuncData
  f_made_of : Addr
  fd_made_of : FuncData
  f_equation_of : Addr
  fd_equation_of : FuncData
  f_need_names : Addr
  fd_need_names : FuncData
  f_equations_of : Addr
  fd_equations_of : FuncData
  f_Node_init : Addr
  fd_Node_init : FuncData
  f_Node_take_tellers : Addr
  fd_Node_take_tellers : FuncData
  f_Node_need_told : Addr
  fd_Node_need_told : FuncData
  f_Node_told : Addr
  fd_Node_told : FuncData
  f_node_of : Addr
  fd_node_of : FuncData
  f_cell_l : Addr
  fd_cell_l : FuncData
  f_begun_l : Addr
  fd_begun_l : FuncData
  f_draw_l : Addr
  fd_draw_l : FuncData
  f_named_all_l : Addr
  fd_named_all_l : FuncData
  f_formed_l : Addr
  fd_formed_l : FuncData
  f_some_value_l : Addr
  fd_some_value_l : FuncData
  f_grown_l : Addr
  fd_grown_l : FuncData
  f_row_list_l : Addr
  fd_row_list_l : FuncData
  f_spoilt_l : Addr
  fd_spoilt_l : FuncData
  f_turned_l : Addr
  fd_turned_l : FuncData
  f_told_names_l : Addr
  fd_told_names_l : FuncData
  f_built_l : Addr
  fd_built_l : FuncData
  f_telling_l : Addr
  fd_telling_l : FuncData
  f_word_l : Addr
  fd_word_l : FuncData
  f_put_l : Addr
  fd_put_l : FuncData
  f_renamed_l : Addr
  fd_renamed_l : FuncData
  f_term_put_l : Addr
  fd_term_put_l : FuncData
  f_more_l : Addr
  fd_more_l : FuncData
  f_law : Addr
  fd_law : FuncData
  a_OPS : Addr
  a_OWN : Addr
  c_BeatError : Addr
  c_NoFit : Addr
  c_NoClock : Addr
  c_Term : Addr
  c_Name : Addr
  c_Value : Addr
  c_Two : Addr
  c_Not : Addr
  c_Pick : Addr
  c_Equation : Addr
  c_Plain : Addr
  c_Before : Addr
  c_When : Addr
  c_Hold : Addr
  c_Like : Addr
  c_Same : Addr
  c_Call : Addr
  c_Node : Addr
structure Txt (K : PySem.W.Frag) (mg : Str → Option Value) (Z : Adr) : Prop where
  F_NoFit_init : Fun K "__init__" "NoFit.__init__" s_NoFit_init Z.f_NoFit_init Z.fd_NoFit_init
  b_NoFit_init : Binds K Z.fd_NoFit_init ["self", "paper"] []
  F_NoClock_init : Fun K "__init__" "NoClock.__init__" s_NoClock_init Z.f_NoClock_init Z.fd_NoClock_init
  b_NoClock_init : Binds K Z.fd_NoClock_init ["self", "name"] []
  F_names_within : Fun K "names_within" "names_within" s_names_within Z.f_names_within Z.fd_names_within
  b_names_within : Binds K Z.fd_names_within ["term"] []
  g_names_within : mg "names_within" = some (.ref Z.f_names_within)
  F_mentioned : Fun K "mentioned" "mentioned" s_mentioned Z.f_mentioned Z.fd_mentioned
  b_mentioned : Binds K Z.fd_mentioned ["row"] []
  g_mentioned : mg "mentioned" = some (.ref Z.f_mentioned)
  F_clock_given : Fun K "clock_given" "clock_given" s_clock_given Z.f_clock_given Z.fd_clock_given
  b_clock_given : Binds K Z.fd_clock_given ["row", "clock"] []
  g_clock_given : mg "clock_given" = some (.ref Z.f_clock_given)
  F_named_rows : Fun K "named_rows" "named_rows" s_named_rows Z.f_named_rows Z.fd_named_rows
  b_named_rows : Binds K Z.fd_named_rows ["node"] []
  g_named_rows : mg "named_rows" = some (.ref Z.f_named_rows)
  F_names_told : Fun K "names_told" "names_told" s_names_told Z.f_names_told Z.fd_names_told
  b_names_told : Binds K Z.fd_names_told ["node"] []
  g_names_told : mg "names_told" = some (.ref Z.f_names_told)
  F_steps_of : Fun K "steps_of" "steps_of" s_steps_of Z.f_steps_of Z.fd_steps_of
  b_steps_of : Binds K Z.fd_steps_of ["node"] []
  g_steps_of : mg "steps_of" = some (.ref Z.f_steps_of)
  F_fitted : Fun K "fitted" "fitted" s_fitted Z.f_fitted Z.fd_fitted
  b_fitted : Binds K Z.fd_fitted ["node"] []
  g_fitted : mg "fitted" = some (.ref Z.f_fitted)
  F_clocks_of : Fun K "clocks_of" "clocks_of" s_clocks_of Z.f_clocks_of Z.fd_clocks_of
  b_clocks_of : Binds K Z.fd_clocks_of ["node"] []
  g_clocks_of : mg "clocks_of" = some (.ref Z.f_clocks_of)
  F_is_whole : Fun K "is_whole" "is_whole" s_is_whole Z.f_is_whole Z.fd_is_whole
  b_is_whole : Binds K Z.fd_is_whole ["thing"] []
  g_is_whole : mg "is_whole" = some (.ref Z.f_is_whole)
  F_is_within : Fun K "is_within" "is_within" s_is_within Z.f_is_within Z.fd_is_within
  b_is_within : Binds K Z.fd_is_within ["thing", "low", "high"] []
  g_is_within : mg "is_within" = some (.ref Z.f_is_within)
  F_is_name : Fun K "is_name" "is_name" s_is_name Z.f_is_name Z.fd_is_name
  b_is_name : Binds K Z.fd_is_name ["thing"] []
  g_is_name : mg "is_name" = some (.ref Z.f_is_name)
  F_is_pointed : Fun K "is_pointed" "is_pointed" s_is_pointed Z.f_is_pointed Z.fd_is_pointed
  b_is_pointed : Binds K Z.fd_is_pointed ["thing"] []
  g_is_pointed : mg "is_pointed" = some (.ref Z.f_is_pointed)
  F_is_value : Fun K "is_value" "is_value" s_is_value Z.f_is_value Z.fd_is_value
  b_is_value : Binds K Z.fd_is_value ["thing"] []
  g_is_value : mg "is_value" = some (.ref Z.f_is_value)
  F_ops_told : Fun K "ops_told" "ops_told" s_ops_told Z.f_ops_told Z.fd_ops_told
  b_ops_told : Binds K Z.fd_ops_told [] []
  g_ops_told : mg "ops_told" = some (.ref Z.f_ops_told)
  F_Term_parts : Fun K "parts" "Term.parts" s_Term_parts Z.f_Term_parts Z.fd_Term_parts
  b_Term_parts : Binds K Z.fd_Term_parts ["self"] []
  y_Term_parts : PySem.W.isFn K (.ref Z.f_Term_parts) = true
  F_Term_names : Fun K "names" "Term.names" s_Term_names Z.f_Term_names Z.fd_Term_names
  b_Term_names : Binds K Z.fd_Term_names ["self"] []
  y_Term_names : PySem.W.isFn K (.ref Z.f_Term_names) = true
  F_Term_levels : Fun K "levels" "Term.levels" s_Term_levels Z.f_Term_levels Z.fd_Term_levels
  b_Term_levels : Binds K Z.fd_Term_levels ["self"] []
  y_Term_levels : PySem.W.isFn K (.ref Z.f_Term_levels) = true
  F_need_term : Fun K "need_term" "need_term" s_need_term Z.f_need_term Z.fd_need_term
  b_need_term : Binds K Z.fd_need_term ["thing"] []
  g_need_term : mg "need_term" = some (.ref Z.f_need_term)
  F_Name_init : Fun K "__init__" "Name.__init__" s_Name_init Z.f_Name_init Z.fd_Name_init
  b_Name_init : Binds K Z.fd_Name_init ["self", "name"] []
  y_Name_init : PySem.W.isFn K (.ref Z.f_Name_init) = true
  F_Name_names : Fun K "names" "Name.names" s_Name_names Z.f_Name_names Z.fd_Name_names
  b_Name_names : Binds K Z.fd_Name_names ["self"] []
  y_Name_names : PySem.W.isFn K (.ref Z.f_Name_names) = true
  F_Name_told : Fun K "told" "Name.told" s_Name_told Z.f_Name_told Z.fd_Name_told
  b_Name_told : Binds K Z.fd_Name_told ["self"] []
  y_Name_told : PySem.W.isFn K (.ref Z.f_Name_told) = true
  F_Value_init : Fun K "__init__" "Value.__init__" s_Value_init Z.f_Value_init Z.fd_Value_init
  b_Value_init : Binds K Z.fd_Value_init ["self", "value"] []
  y_Value_init : PySem.W.isFn K (.ref Z.f_Value_init) = true
  F_Value_told : Fun K "told" "Value.told" s_Value_told Z.f_Value_told Z.fd_Value_told
  b_Value_told : Binds K Z.fd_Value_told ["self"] []
  y_Value_told : PySem.W.isFn K (.ref Z.f_Value_told) = true
  F_Two_init : Fun K "__init__" "Two.__init__" s_Two_init Z.f_Two_init Z.fd_Two_init
  b_Two_init : Binds K Z.fd_Two_init ["self", "op", "one", "other"] []
  y_Two_init : PySem.W.isFn K (.ref Z.f_Two_init) = true
  F_Two_parts : Fun K "parts" "Two.parts" s_Two_parts Z.f_Two_parts Z.fd_Two_parts
  b_Two_parts : Binds K Z.fd_Two_parts ["self"] []
  y_Two_parts : PySem.W.isFn K (.ref Z.f_Two_parts) = true
  F_Two_told : Fun K "told" "Two.told" s_Two_told Z.f_Two_told Z.fd_Two_told
  b_Two_told : Binds K Z.fd_Two_told ["self"] []
  y_Two_told : PySem.W.isFn K (.ref Z.f_Two_told) = true
  F_Not_init : Fun K "__init__" "Not.__init__" s_Not_init Z.f_Not_init Z.fd_Not_init
  b_Not_init : Binds K Z.fd_Not_init ["self", "one"] []
  y_Not_init : PySem.W.isFn K (.ref Z.f_Not_init) = true
  F_Not_parts : Fun K "parts" "Not.parts" s_Not_parts Z.f_Not_parts Z.fd_Not_parts
  b_Not_parts : Binds K Z.fd_Not_parts ["self"] []
  y_Not_parts : PySem.W.isFn K (.ref Z.f_Not_parts) = true
  F_Not_told : Fun K "told" "Not.told" s_Not_told Z.f_Not_told Z.fd_Not_told
  b_Not_told : Binds K Z.fd_Not_told ["self"] []
  y_Not_told : PySem.W.isFn K (.ref Z.f_Not_told) = true
  F_Pick_init : Fun K "__init__" "Pick.__init__" s_Pick_init Z.f_Pick_init Z.fd_Pick_init
  b_Pick_init : Binds K Z.fd_Pick_init ["self", "by", "one", "other"] []
  y_Pick_init : PySem.W.isFn K (.ref Z.f_Pick_init) = true
  F_Pick_parts : Fun K "parts" "Pick.parts" s_Pick_parts Z.f_Pick_parts Z.fd_Pick_parts
  b_Pick_parts : Binds K Z.fd_Pick_parts ["self"] []
  y_Pick_parts : PySem.W.isFn K (.ref Z.f_Pick_parts) = true
  F_Pick_told : Fun K "told" "Pick.told" s_Pick_told Z.f_Pick_told Z.fd_Pick_told
  b_Pick_told : Binds K Z.fd_Pick_told ["self"] []
  y_Pick_told : PySem.W.isFn K (.ref Z.f_Pick_told) = true
  F_simple_of : Fun K "simple_of" "simple_of" s_simple_of Z.f_simple_of Z.fd_simple_of
  b_simple_of : Binds K Z.fd_simple_of ["word", "thing"] []
  g_simple_of : mg "simple_of" = some (.ref Z.f_simple_of)
  F_made_of_told : Fun K "made_of_told" "made_of_told" s_made_of_told Z.f_made_of_told Z.fd_made_of_told
  b_made_of_told : Binds K Z.fd_made_of_told ["told", "left"] []
  g_made_of_told : mg "made_of_told" = some (.ref Z.f_made_of_told)
  F_term_of : Fun K "term_of" "term_of" s_term_of Z.f_term_of Z.fd_term_of
  b_term_of : Binds K Z.fd_term_of ["told"] []
  g_term_of : mg "term_of" = some (.ref Z.f_term_of)
  F_each_once : Fun K "each_once" "each_once" s_each_once Z.f_each_once Z.fd_each_once
  b_each_once : Binds K Z.fd_each_once ["names"] []
  g_each_once : mg "each_once" = some (.ref Z.f_each_once)
  F_Equation_init : Fun K "__init__" "Equation.__init__" s_Equation_init Z.f_Equation_init Z.fd_Equation_init
  b_Equation_init : Binds K Z.fd_Equation_init ["self", "row"] []
  y_Equation_init : PySem.W.isFn K (.ref Z.f_Equation_init) = true
  F_Equation_told : Fun K "told" "Equation.told" s_Equation_told Z.f_Equation_told Z.fd_Equation_told
  b_Equation_told : Binds K Z.fd_Equation_told ["self"] []
  y_Equation_told : PySem.W.isFn K (.ref Z.f_Equation_told) = true
  F_Equation_tells : Fun K "tells" "Equation.tells" s_Equation_tells Z.f_Equation_tells Z.fd_Equation_tells
  b_Equation_tells : Binds K Z.fd_Equation_tells ["self"] []
  y_Equation_tells : PySem.W.isFn K (.ref Z.f_Equation_tells) = true
  F_Equation_names : Fun K "names" "Equation.names" s_Equation_names Z.f_Equation_names Z.fd_Equation_names
  b_Equation_names : Binds K Z.fd_Equation_names ["self"] []
  y_Equation_names : PySem.W.isFn K (.ref Z.f_Equation_names) = true
  F_Equation_term : Fun K "term" "Equation.term" s_Equation_term Z.f_Equation_term Z.fd_Equation_term
  b_Equation_term : Binds K Z.fd_Equation_term ["self"] []
  y_Equation_term : PySem.W.isFn K (.ref Z.f_Equation_term) = true
  F_Plain_init : Fun K "__init__" "Plain.__init__" s_Plain_init Z.f_Plain_init Z.fd_Plain_init
  b_Plain_init : Binds K Z.fd_Plain_init ["self", "row"] []
  y_Plain_init : PySem.W.isFn K (.ref Z.f_Plain_init) = true
  F_Plain_names : Fun K "names" "Plain.names" s_Plain_names Z.f_Plain_names Z.fd_Plain_names
  b_Plain_names : Binds K Z.fd_Plain_names ["self"] []
  y_Plain_names : PySem.W.isFn K (.ref Z.f_Plain_names) = true
  F_Plain_term : Fun K "term" "Plain.term" s_Plain_term Z.f_Plain_term Z.fd_Plain_term
  b_Plain_term : Binds K Z.fd_Plain_term ["self"] []
  y_Plain_term : PySem.W.isFn K (.ref Z.f_Plain_term) = true
  F_When_names : Fun K "names" "When.names" s_When_names Z.f_When_names Z.fd_When_names
  b_When_names : Binds K Z.fd_When_names ["self"] []
  y_When_names : PySem.W.isFn K (.ref Z.f_When_names) = true
  F_Same_tells : Fun K "tells" "Same.tells" s_Same_tells Z.f_Same_tells Z.fd_Same_tells
  b_Same_tells : Binds K Z.fd_Same_tells ["self"] []
  y_Same_tells : PySem.W.isFn K (.ref Z.f_Same_tells) = true
  F_Same_names : Fun K "names" "Same.names" s_Same_names Z.f_Same_names Z.fd_Same_names
  b_Same_names : Binds K Z.fd_Same_names ["self"] []
  y_Same_names : PySem.W.isFn K (.ref Z.f_Same_names) = true
  F_Call_tells : Fun K "tells" "Call.tells" s_Call_tells Z.f_Call_tells Z.fd_Call_tells
  b_Call_tells : Binds K Z.fd_Call_tells ["self"] []
  y_Call_tells : PySem.W.isFn K (.ref Z.f_Call_tells) = true
  F_Call_names : Fun K "names" "Call.names" s_Call_names Z.f_Call_names Z.fd_Call_names
  b_Call_names : Binds K Z.fd_Call_names ["self"] []
  y_Call_names : PySem.W.isFn K (.ref Z.f_Call_names) = true
  F_are_pointed : Fun K "are_pointed" "are_pointed" s_are_pointed Z.f_are_pointed Z.fd_are_pointed
  b_are_pointed : Binds K Z.fd_are_pointed ["thing", "least"] []
  g_are_pointed : mg "are_pointed" = some (.ref Z.f_are_pointed)
  F_is_valued : Fun K "is_valued" "is_valued" s_is_valued Z.f_is_valued Z.fd_is_valued
  b_is_valued : Binds K Z.fd_is_valued ["row"] []
  g_is_valued : mg "is_valued" = some (.ref Z.f_is_valued)
  F_plain_of : Fun K "plain_of" "plain_of" s_plain_of Z.f_plain_of Z.fd_plain_of
  b_plain_of : Binds K Z.fd_plain_of ["row"] []
  g_plain_of : mg "plain_of" = some (.ref Z.f_plain_of)
  F_valued_of : Fun K "valued_of" "valued_of" s_valued_of Z.f_valued_of Z.fd_valued_of
  b_valued_of : Binds K Z.fd_valued_of ["row"] []
  g_valued_of : mg "valued_of" = some (.ref Z.f_valued_of)
  F_call_of : Fun K "call_of" "call_of" s_call_of Z.f_call_of Z.fd_call_of
  b_call_of : Binds K Z.fd_call_of ["row"] []
  g_call_of : mg "call_of" = some (.ref Z.f_call_of)
  F_made_of : Fun K "made_of" "made_of" s_made_of Z.f_made_of Z.fd_made_of
  b_made_of : Binds K Z.fd_made_of ["row"] []
  g_made_of : mg "made_of" = some (.ref Z.f_made_of)
  F_equation_of : Fun K "equation_of" "equation_of" s_equation_of Z.f_equation_of Z.fd_equation_of
  b_equation_of : Binds K Z.fd_equation_of ["told"] []
  g_equation_of : mg "equation_of" = some (.ref Z.f_equation_of)
  F_need_names : Fun K "need_names" "need_names" s_need_names Z.f_need_names Z.fd_need_names
  b_need_names : Binds K Z.fd_need_names ["things"] []
  g_need_names : mg "need_names" = some (.ref Z.f_need_names)
  F_equations_of : Fun K "equations_of" "equations_of" s_equations_of Z.f_equations_of Z.fd_equations_of
  b_equations_of : Binds K Z.fd_equations_of ["rows"] []
  g_equations_of : mg "equations_of" = some (.ref Z.f_equations_of)
  F_Node_init : Fun K "__init__" "Node.__init__" s_Node_init Z.f_Node_init Z.fd_Node_init
  b_Node_init : Binds K Z.fd_Node_init ["self", "name", "inputs", "outs", "rows"] []
  y_Node_init : PySem.W.isFn K (.ref Z.f_Node_init) = true
  F_Node_take_tellers : Fun K "take_tellers" "Node.take_tellers" s_Node_take_tellers Z.f_Node_take_tellers Z.fd_Node_take_tellers
  b_Node_take_tellers : Binds K Z.fd_Node_take_tellers ["self"] []
  y_Node_take_tellers : PySem.W.isFn K (.ref Z.f_Node_take_tellers) = true
  F_Node_need_told : Fun K "need_told" "Node.need_told" s_Node_need_told Z.f_Node_need_told Z.fd_Node_need_told
  b_Node_need_told : Binds K Z.fd_Node_need_told ["self"] []
  y_Node_need_told : PySem.W.isFn K (.ref Z.f_Node_need_told) = true
  F_Node_told : Fun K "told" "Node.told" s_Node_told Z.f_Node_told Z.fd_Node_told
  b_Node_told : Binds K Z.fd_Node_told ["self"] []
  y_Node_told : PySem.W.isFn K (.ref Z.f_Node_told) = true
  F_node_of : Fun K "node_of" "node_of" s_node_of Z.f_node_of Z.fd_node_of
  b_node_of : Binds K Z.fd_node_of ["told"] []
  g_node_of : mg "node_of" = some (.ref Z.f_node_of)
  F_cell_l : Fun K "_law_cell" "_law_cell" s_cell_l Z.f_cell_l Z.fd_cell_l
  b_cell_l : Binds K Z.fd_cell_l ["_law_script", "_law_k"] []
  g_cell_l : mg "_law_cell" = some (.ref Z.f_cell_l)
  F_begun_l : Fun K "_law_begun" "_law_begun" s_begun_l Z.f_begun_l Z.fd_begun_l
  b_begun_l : Binds K Z.fd_begun_l ["_law_cell_here"] []
  g_begun_l : mg "_law_begun" = some (.ref Z.f_begun_l)
  F_draw_l : Fun K "_law_draw" "_law_draw" s_draw_l Z.f_draw_l Z.fd_draw_l
  b_draw_l : Binds K Z.fd_draw_l ["_law_well", "_law_many"] []
  g_draw_l : mg "_law_draw" = some (.ref Z.f_draw_l)
  F_named_all_l : Fun K "_law_named_all" "_law_named_all" s_named_all_l Z.f_named_all_l Z.fd_named_all_l
  b_named_all_l : Binds K Z.fd_named_all_l ["_law_well", "_law_many"] []
  g_named_all_l : mg "_law_named_all" = some (.ref Z.f_named_all_l)
  F_formed_l : Fun K "_law_formed" "_law_formed" s_formed_l Z.f_formed_l Z.fd_formed_l
  b_formed_l : Binds K Z.fd_formed_l ["_law_well", "_law_names"] []
  g_formed_l : mg "_law_formed" = some (.ref Z.f_formed_l)
  F_some_value_l : Fun K "_law_some_value" "_law_some_value" s_some_value_l Z.f_some_value_l Z.fd_some_value_l
  b_some_value_l : Binds K Z.fd_some_value_l ["_law_well"] []
  g_some_value_l : mg "_law_some_value" = some (.ref Z.f_some_value_l)
  F_grown_l : Fun K "_law_grown" "_law_grown" s_grown_l Z.f_grown_l Z.fd_grown_l
  b_grown_l : Binds K Z.fd_grown_l ["_law_well", "_law_x", "_law_clocks", "_law_form"] []
  g_grown_l : mg "_law_grown" = some (.ref Z.f_grown_l)
  F_row_list_l : Fun K "_law_row_list" "_law_row_list" s_row_list_l Z.f_row_list_l Z.fd_row_list_l
  b_row_list_l : Binds K Z.fd_row_list_l ["_law_well", "_law_inputs", "_law_free", "_law_many"] []
  g_row_list_l : mg "_law_row_list" = some (.ref Z.f_row_list_l)
  F_spoilt_l : Fun K "_law_spoilt" "_law_spoilt" s_spoilt_l Z.f_spoilt_l Z.fd_spoilt_l
  b_spoilt_l : Binds K Z.fd_spoilt_l ["_law_well", "_law_rows", "_law_names"] []
  g_spoilt_l : mg "_law_spoilt" = some (.ref Z.f_spoilt_l)
  F_turned_l : Fun K "_law_turned" "_law_turned" s_turned_l Z.f_turned_l Z.fd_turned_l
  b_turned_l : Binds K Z.fd_turned_l ["_law_well", "_law_rows"] []
  g_turned_l : mg "_law_turned" = some (.ref Z.f_turned_l)
  F_told_names_l : Fun K "_law_told_names" "_law_told_names" s_told_names_l Z.f_told_names_l Z.fd_told_names_l
  b_told_names_l : Binds K Z.fd_told_names_l ["_law_rows"] []
  g_told_names_l : mg "_law_told_names" = some (.ref Z.f_told_names_l)
  F_built_l : Fun K "_law_built" "_law_built" s_built_l Z.f_built_l Z.fd_built_l
  b_built_l : Binds K Z.fd_built_l ["_law_well", "_law_spoils"] []
  g_built_l : mg "_law_built" = some (.ref Z.f_built_l)
  F_telling_l : Fun K "_law_telling" "_law_telling" s_telling_l Z.f_telling_l Z.fd_telling_l
  b_telling_l : Binds K Z.fd_telling_l ["_law_deed", "_law_node"] []
  g_telling_l : mg "_law_telling" = some (.ref Z.f_telling_l)
  F_word_l : Fun K "_law_word" "_law_word" s_word_l Z.f_word_l Z.fd_word_l
  b_word_l : Binds K Z.fd_word_l ["_law_told", "_law_found"] []
  g_word_l : mg "_law_word" = some (.ref Z.f_word_l)
  F_put_l : Fun K "_law_put" "_law_put" s_put_l Z.f_put_l Z.fd_put_l
  b_put_l : Binds K Z.fd_put_l ["_law_part", "_law_names"] []
  g_put_l : mg "_law_put" = some (.ref Z.f_put_l)
  F_renamed_l : Fun K "_law_renamed" "_law_renamed" s_renamed_l Z.f_renamed_l Z.fd_renamed_l
  b_renamed_l : Binds K Z.fd_renamed_l ["_law_row", "_law_names"] []
  g_renamed_l : mg "_law_renamed" = some (.ref Z.f_renamed_l)
  F_term_put_l : Fun K "_law_term_put" "_law_term_put" s_term_put_l Z.f_term_put_l Z.fd_term_put_l
  b_term_put_l : Binds K Z.fd_term_put_l ["_law_term", "_law_names"] []
  g_term_put_l : mg "_law_term_put" = some (.ref Z.f_term_put_l)
  F_more_l : Fun K "_law_more" "_law_more" s_more_l Z.f_more_l Z.fd_more_l
  b_more_l : Binds K Z.fd_more_l ["_law_well", "_law_told", "_law_clocks"] []
  g_more_l : mg "_law_more" = some (.ref Z.f_more_l)
  F_law : Fun K "law" "law" s_law Z.f_law Z.fd_law
  b_law : Binds K Z.fd_law ["_law_script"] []
  g_law : mg "law" = some (.ref Z.f_law)
  m_BeatError : mg "BeatError" = some (.ref Z.c_BeatError)
  q_BeatError : baseB K Z.c_BeatError = true
  e_BeatError : PySem.W.excIn K Z.c_BeatError [.type "ValueError", .type "Exception", .type "BaseException", .type "object"] "ValueError.__new__" = true
  k_BeatError : PySem.W.keepIn K (.ref Z.c_BeatError) = true
  w_BeatError : icB K Z.c_BeatError = true
  m_NoFit : mg "NoFit" = some (.ref Z.c_NoFit)
  x_NoFit : exB K Z.c_NoFit ["paper"] = true
  i_NoFit : PySem.W.findIn K (.ref Z.c_NoFit) "__init__" = some (some (.ref Z.f_NoFit_init))
  y_NoFit : PySem.W.typeIn K (.ref Z.f_NoFit_init) = some (.type "function")
  m_NoClock : mg "NoClock" = some (.ref Z.c_NoClock)
  x_NoClock : exB K Z.c_NoClock ["name"] = true
  i_NoClock : PySem.W.findIn K (.ref Z.c_NoClock) "__init__" = some (some (.ref Z.f_NoClock_init))
  y_NoClock : PySem.W.typeIn K (.ref Z.f_NoClock_init) = some (.type "function")
  m_Term : mg "Term" = some (.ref Z.c_Term)
  m_Name : mg "Name" = some (.ref Z.c_Name)
  x_Name : tcB K Z.c_Name ["name"] = true
  i_Name : PySem.W.findIn K (.ref Z.c_Name) "__init__" = some (some (.ref Z.f_Name_init))
  h_parts_Name : PySem.W.findIn K (.ref Z.c_Name) "parts" = some (some (.ref Z.f_Term_parts))
  h_names_Name : PySem.W.findIn K (.ref Z.c_Name) "names" = some (some (.ref Z.f_Name_names))
  h_levels_Name : PySem.W.findIn K (.ref Z.c_Name) "levels" = some (some (.ref Z.f_Term_levels))
  h_told_Name : PySem.W.findIn K (.ref Z.c_Name) "told" = some (some (.ref Z.f_Name_told))
  m_Value : mg "Value" = some (.ref Z.c_Value)
  x_Value : tcB K Z.c_Value ["amount"] = true
  i_Value : PySem.W.findIn K (.ref Z.c_Value) "__init__" = some (some (.ref Z.f_Value_init))
  h_parts_Value : PySem.W.findIn K (.ref Z.c_Value) "parts" = some (some (.ref Z.f_Term_parts))
  h_names_Value : PySem.W.findIn K (.ref Z.c_Value) "names" = some (some (.ref Z.f_Term_names))
  h_levels_Value : PySem.W.findIn K (.ref Z.c_Value) "levels" = some (some (.ref Z.f_Term_levels))
  h_told_Value : PySem.W.findIn K (.ref Z.c_Value) "told" = some (some (.ref Z.f_Value_told))
  m_Two : mg "Two" = some (.ref Z.c_Two)
  x_Two : tcB K Z.c_Two ["op", "one", "second"] = true
  i_Two : PySem.W.findIn K (.ref Z.c_Two) "__init__" = some (some (.ref Z.f_Two_init))
  h_parts_Two : PySem.W.findIn K (.ref Z.c_Two) "parts" = some (some (.ref Z.f_Two_parts))
  h_names_Two : PySem.W.findIn K (.ref Z.c_Two) "names" = some (some (.ref Z.f_Term_names))
  h_levels_Two : PySem.W.findIn K (.ref Z.c_Two) "levels" = some (some (.ref Z.f_Term_levels))
  h_told_Two : PySem.W.findIn K (.ref Z.c_Two) "told" = some (some (.ref Z.f_Two_told))
  m_Not : mg "Not" = some (.ref Z.c_Not)
  x_Not : tcB K Z.c_Not ["one"] = true
  i_Not : PySem.W.findIn K (.ref Z.c_Not) "__init__" = some (some (.ref Z.f_Not_init))
  h_parts_Not : PySem.W.findIn K (.ref Z.c_Not) "parts" = some (some (.ref Z.f_Not_parts))
  h_names_Not : PySem.W.findIn K (.ref Z.c_Not) "names" = some (some (.ref Z.f_Term_names))
  h_levels_Not : PySem.W.findIn K (.ref Z.c_Not) "levels" = some (some (.ref Z.f_Term_levels))
  h_told_Not : PySem.W.findIn K (.ref Z.c_Not) "told" = some (some (.ref Z.f_Not_told))
  m_Pick : mg "Pick" = some (.ref Z.c_Pick)
  x_Pick : tcB K Z.c_Pick ["by", "one", "second"] = true
  i_Pick : PySem.W.findIn K (.ref Z.c_Pick) "__init__" = some (some (.ref Z.f_Pick_init))
  h_parts_Pick : PySem.W.findIn K (.ref Z.c_Pick) "parts" = some (some (.ref Z.f_Pick_parts))
  h_names_Pick : PySem.W.findIn K (.ref Z.c_Pick) "names" = some (some (.ref Z.f_Term_names))
  h_levels_Pick : PySem.W.findIn K (.ref Z.c_Pick) "levels" = some (some (.ref Z.f_Term_levels))
  h_told_Pick : PySem.W.findIn K (.ref Z.c_Pick) "told" = some (some (.ref Z.f_Pick_told))
  m_Equation : mg "Equation" = some (.ref Z.c_Equation)
  x_Equation : tcB K Z.c_Equation ["told_row"] = true
  i_Equation : PySem.W.findIn K (.ref Z.c_Equation) "__init__" = some (some (.ref Z.f_Equation_init))
  h_names_Equation : PySem.W.findIn K (.ref Z.c_Equation) "names" = some (some (.ref Z.f_Equation_names))
  h_told_Equation : PySem.W.findIn K (.ref Z.c_Equation) "told" = some (some (.ref Z.f_Equation_told))
  h_tells_Equation : PySem.W.findIn K (.ref Z.c_Equation) "tells" = some (some (.ref Z.f_Equation_tells))
  h_term_Equation : PySem.W.findIn K (.ref Z.c_Equation) "term" = some (some (.ref Z.f_Equation_term))
  m_Plain : mg "Plain" = some (.ref Z.c_Plain)
  x_Plain : tcB K Z.c_Plain ["told_row", "kept_term"] = true
  i_Plain : PySem.W.findIn K (.ref Z.c_Plain) "__init__" = some (some (.ref Z.f_Plain_init))
  h_names_Plain : PySem.W.findIn K (.ref Z.c_Plain) "names" = some (some (.ref Z.f_Plain_names))
  h_told_Plain : PySem.W.findIn K (.ref Z.c_Plain) "told" = some (some (.ref Z.f_Equation_told))
  h_tells_Plain : PySem.W.findIn K (.ref Z.c_Plain) "tells" = some (some (.ref Z.f_Equation_tells))
  h_term_Plain : PySem.W.findIn K (.ref Z.c_Plain) "term" = some (some (.ref Z.f_Plain_term))
  m_Before : mg "Before" = some (.ref Z.c_Before)
  x_Before : tcB K Z.c_Before ["told_row"] = true
  i_Before : PySem.W.findIn K (.ref Z.c_Before) "__init__" = some (some (.ref Z.f_Equation_init))
  h_names_Before : PySem.W.findIn K (.ref Z.c_Before) "names" = some (some (.ref Z.f_Equation_names))
  h_told_Before : PySem.W.findIn K (.ref Z.c_Before) "told" = some (some (.ref Z.f_Equation_told))
  h_tells_Before : PySem.W.findIn K (.ref Z.c_Before) "tells" = some (some (.ref Z.f_Equation_tells))
  h_term_Before : PySem.W.findIn K (.ref Z.c_Before) "term" = some (some (.ref Z.f_Equation_term))
  m_When : mg "When" = some (.ref Z.c_When)
  x_When : tcB K Z.c_When ["told_row"] = true
  i_When : PySem.W.findIn K (.ref Z.c_When) "__init__" = some (some (.ref Z.f_Equation_init))
  h_names_When : PySem.W.findIn K (.ref Z.c_When) "names" = some (some (.ref Z.f_When_names))
  h_told_When : PySem.W.findIn K (.ref Z.c_When) "told" = some (some (.ref Z.f_Equation_told))
  h_tells_When : PySem.W.findIn K (.ref Z.c_When) "tells" = some (some (.ref Z.f_Equation_tells))
  h_term_When : PySem.W.findIn K (.ref Z.c_When) "term" = some (some (.ref Z.f_Equation_term))
  m_Hold : mg "Hold" = some (.ref Z.c_Hold)
  x_Hold : tcB K Z.c_Hold ["told_row"] = true
  i_Hold : PySem.W.findIn K (.ref Z.c_Hold) "__init__" = some (some (.ref Z.f_Equation_init))
  h_names_Hold : PySem.W.findIn K (.ref Z.c_Hold) "names" = some (some (.ref Z.f_Equation_names))
  h_told_Hold : PySem.W.findIn K (.ref Z.c_Hold) "told" = some (some (.ref Z.f_Equation_told))
  h_tells_Hold : PySem.W.findIn K (.ref Z.c_Hold) "tells" = some (some (.ref Z.f_Equation_tells))
  h_term_Hold : PySem.W.findIn K (.ref Z.c_Hold) "term" = some (some (.ref Z.f_Equation_term))
  m_Like : mg "Like" = some (.ref Z.c_Like)
  x_Like : tcB K Z.c_Like ["told_row"] = true
  i_Like : PySem.W.findIn K (.ref Z.c_Like) "__init__" = some (some (.ref Z.f_Equation_init))
  h_names_Like : PySem.W.findIn K (.ref Z.c_Like) "names" = some (some (.ref Z.f_Equation_names))
  h_told_Like : PySem.W.findIn K (.ref Z.c_Like) "told" = some (some (.ref Z.f_Equation_told))
  h_tells_Like : PySem.W.findIn K (.ref Z.c_Like) "tells" = some (some (.ref Z.f_Equation_tells))
  h_term_Like : PySem.W.findIn K (.ref Z.c_Like) "term" = some (some (.ref Z.f_Equation_term))
  m_Same : mg "Same" = some (.ref Z.c_Same)
  x_Same : tcB K Z.c_Same ["told_row"] = true
  i_Same : PySem.W.findIn K (.ref Z.c_Same) "__init__" = some (some (.ref Z.f_Equation_init))
  h_names_Same : PySem.W.findIn K (.ref Z.c_Same) "names" = some (some (.ref Z.f_Same_names))
  h_told_Same : PySem.W.findIn K (.ref Z.c_Same) "told" = some (some (.ref Z.f_Equation_told))
  h_tells_Same : PySem.W.findIn K (.ref Z.c_Same) "tells" = some (some (.ref Z.f_Same_tells))
  h_term_Same : PySem.W.findIn K (.ref Z.c_Same) "term" = some (some (.ref Z.f_Equation_term))
  m_Call : mg "Call" = some (.ref Z.c_Call)
  x_Call : tcB K Z.c_Call ["told_row"] = true
  i_Call : PySem.W.findIn K (.ref Z.c_Call) "__init__" = some (some (.ref Z.f_Equation_init))
  h_names_Call : PySem.W.findIn K (.ref Z.c_Call) "names" = some (some (.ref Z.f_Call_names))
  h_told_Call : PySem.W.findIn K (.ref Z.c_Call) "told" = some (some (.ref Z.f_Equation_told))
  h_tells_Call : PySem.W.findIn K (.ref Z.c_Call) "tells" = some (some (.ref Z.f_Call_tells))
  h_term_Call : PySem.W.findIn K (.ref Z.c_Call) "term" = some (some (.ref Z.f_Equation_term))
  m_Node : mg "Node" = some (.ref Z.c_Node)
  x_Node : tcB K Z.c_Node ["name", "kept_inputs", "kept_outs", "kept_rows", "tellers"] = true
  i_Node : PySem.W.findIn K (.ref Z.c_Node) "__init__" = some (some (.ref Z.f_Node_init))
  h_told_Node : PySem.W.findIn K (.ref Z.c_Node) "told" = some (some (.ref Z.f_Node_told))
  h_take_tellers_Node : PySem.W.findIn K (.ref Z.c_Node) "take_tellers" = some (some (.ref Z.f_Node_take_tellers))
  h_need_told_Node : PySem.W.findIn K (.ref Z.c_Node) "need_told" = some (some (.ref Z.f_Node_need_told))
  fact_dif : difB [Z.c_Name, Z.c_Value, Z.c_Two, Z.c_Not, Z.c_Pick] = true
  fact_is_Name : subB K Z.c_Name Z.c_Term = true
  fact_is_Value : subB K Z.c_Value Z.c_Term = true
  fact_is_Two : subB K Z.c_Two Z.c_Term = true
  fact_is_Not : subB K Z.c_Not Z.c_Term = true
  fact_is_Pick : subB K Z.c_Pick Z.c_Term = true
  fact_difT : difB [Z.c_Plain, Z.c_Name, Z.c_Value, Z.c_Two, Z.c_Not, Z.c_Pick] = true
  fact_difE : difB [Z.c_Plain, Z.c_Before, Z.c_Hold, Z.c_Like, Z.c_When, Z.c_Same, Z.c_Call] = true
  fact_difN1 : difB [Z.c_Node, Z.c_Name, Z.c_Value, Z.c_Two, Z.c_Not, Z.c_Pick] = true
  fact_difN2 : difB [Z.c_Node, Z.c_Plain, Z.c_Before, Z.c_Hold, Z.c_Like, Z.c_When, Z.c_Same, Z.c_Call] = true
  fact_kitE : kitTab K [Z.c_Plain, Z.c_Before, Z.c_Hold, Z.c_Like, Z.c_When, Z.c_Same, Z.c_Call] Z.c_Equation = true
  fact_cm_Equation : cmB K Z.c_Equation Z.f_Equation_init "__init__" = true
  fact_exmFF : PySem.W.exmOne K (.ref Z.c_NoFit) (.ref Z.c_NoFit) = some true
  fact_exmCF : PySem.W.exmOne K (.ref Z.c_NoClock) (.ref Z.c_NoFit) = some false
  fact_exmCC : PySem.W.exmOne K (.ref Z.c_NoClock) (.ref Z.c_NoClock) = some true
  fact_kitFC : PySem.W.kitOne K (.ref Z.c_NoFit) (.ref Z.c_NoClock) = some false
  fact_kitFB : PySem.W.kitOne K (.ref Z.c_NoFit) (.ref Z.c_BeatError) = some true
  fact_kitFV : PySem.W.kitOne K (.ref Z.c_NoFit) (.type "ValueError") = some true
  n_ValueError : mg "ValueError" = none
  n_all : mg "all" = none
  n_bool : mg "bool" = none
  n_dict : mg "dict" = none
  n_int : mg "int" = none
  n_isinstance : mg "isinstance" = none
  n_len : mg "len" = none
  n_list : mg "list" = none
  n_max : mg "max" = none
  n_min : mg "min" = none
  n_range : mg "range" = none
  n_str : mg "str" = none
  n_tuple : mg "tuple" = none
  n_zip : mg "zip" = none
  c_LETTERS : ∃ u, mg "LETTERS" = some u ∧ RelV (.str "abcdefghijklmnopqrstuvwxyz") u
  c_LONGEST : ∃ u, mg "LONGEST" = some u ∧ RelV (.int 8) u
  c_MOST : ∃ u, mg "MOST" = some u ∧ RelV (.int 1000000000) u
  c_MOST_LEVELS : ∃ u, mg "MOST_LEVELS" = some u ∧ RelV (.int 5) u
  c_MOST_SIGNS : ∃ u, mg "MOST_SIGNS" = some u ∧ RelV (.int 80) u
  c_OPS : ∃ u, mg "OPS" = some u ∧ RelV (.ref Z.a_OPS) u
  t_OPS : ∀ H, SqT K H Z.a_OPS [.str "+", .str "-", .str "*", .str "/", .str "mod", .str "<", .str "=", .str "&", .str "|"]
  c_OWN : ∃ u, mg "OWN" = some u ∧ RelV (.ref Z.a_OWN) u
  t_OWN : ∀ H, SqT K H Z.a_OWN [.str "node", .str "in", .str "out", .str "before", .str "when", .str "hold", .str "like", .str "same", .str "call", .str "true", .str "false", .str "mod", .str "beat", .str "desk"]
  c_TOLD_THINGS : ∃ u, mg "TOLD_THINGS" = some u ∧ RelV (.int 4) u
abbrev N_NoFit_init : List Str := ["self", "paper"]
theorem sc_NoFit_init : FnScope N_NoFit_init ["self", "paper"] (defScope s_NoFit_init) := ⟨rfl, rfl, rfl, by decide +kernel, rfl, by decide +kernel, by decide +kernel⟩
abbrev N_NoClock_init : List Str := ["self", "name"]
theorem sc_NoClock_init : FnScope N_NoClock_init ["self", "name"] (defScope s_NoClock_init) := ⟨rfl, rfl, rfl, by decide +kernel, rfl, by decide +kernel, by decide +kernel⟩
abbrev N_names_within : List Str := ["term", "found", "part"]
theorem sc_names_within : FnScope N_names_within ["term"] (defScope s_names_within) := ⟨rfl, rfl, rfl, by decide +kernel, rfl, by decide +kernel, by decide +kernel⟩
abbrev N_mentioned : List Str := ["row"]
theorem sc_mentioned : FnScope N_mentioned ["row"] (defScope s_mentioned) := ⟨rfl, rfl, rfl, by decide +kernel, rfl, by decide +kernel, by decide +kernel⟩
abbrev N_clock_given : List Str := ["row", "clock"]
theorem sc_clock_given : FnScope N_clock_given ["row", "clock"] (defScope s_clock_given) := ⟨rfl, rfl, rfl, by decide +kernel, rfl, by decide +kernel, by decide +kernel⟩
abbrev N_named_rows : List Str := ["node", "row"]
theorem sc_named_rows : FnScope N_named_rows ["node"] (defScope s_named_rows) := ⟨rfl, rfl, rfl, by decide +kernel, rfl, by decide +kernel, by decide +kernel⟩
abbrev N_names_told : List Str := ["node", "row", "names"]
theorem sc_names_told : FnScope N_names_told ["node"] (defScope s_names_told) := ⟨rfl, rfl, rfl, by decide +kernel, rfl, by decide +kernel, by decide +kernel⟩
abbrev N_steps_of : List Str := ["node", "rows", "steps", "name", "known", "clock", "premise", "at", "row", "names"]
theorem sc_steps_of : FnScope N_steps_of ["node"] (defScope s_steps_of) := ⟨rfl, rfl, rfl, by decide +kernel, rfl, by decide +kernel, by decide +kernel⟩
abbrev N_fitted : List Str := ["node", "steps", "known", "name", "clock", "premise", "clocks", "row", "other"]
theorem sc_fitted : FnScope N_fitted ["node"] (defScope s_fitted) := ⟨rfl, rfl, rfl, by decide +kernel, rfl, by decide +kernel, by decide +kernel⟩
abbrev N_clocks_of : List Str := ["node"]
theorem sc_clocks_of : FnScope N_clocks_of ["node"] (defScope s_clocks_of) := ⟨rfl, rfl, rfl, by decide +kernel, rfl, by decide +kernel, by decide +kernel⟩
abbrev N_is_whole : List Str := ["thing"]
theorem sc_is_whole : FnScope N_is_whole ["thing"] (defScope s_is_whole) := ⟨rfl, rfl, rfl, by decide +kernel, rfl, by decide +kernel, by decide +kernel⟩
abbrev N_is_within : List Str := ["thing", "low", "high"]
theorem sc_is_within : FnScope N_is_within ["thing", "low", "high"] (defScope s_is_within) := ⟨rfl, rfl, rfl, by decide +kernel, rfl, by decide +kernel, by decide +kernel⟩
abbrev N_is_name : List Str := ["thing", "sign"]
theorem sc_is_name : FnScope N_is_name ["thing"] (defScope s_is_name) := ⟨rfl, rfl, rfl, by decide +kernel, rfl, by decide +kernel, by decide +kernel⟩
abbrev N_is_pointed : List Str := ["thing", "part"]
theorem sc_is_pointed : FnScope N_is_pointed ["thing"] (defScope s_is_pointed) := ⟨rfl, rfl, rfl, by decide +kernel, rfl, by decide +kernel, by decide +kernel⟩
abbrev N_is_value : List Str := ["thing"]
theorem sc_is_value : FnScope N_is_value ["thing"] (defScope s_is_value) := ⟨rfl, rfl, rfl, by decide +kernel, rfl, by decide +kernel, by decide +kernel⟩
abbrev N_ops_told : List Str := []
theorem sc_ops_told : FnScope N_ops_told [] (defScope s_ops_told) := ⟨rfl, rfl, rfl, by decide +kernel, rfl, by decide +kernel, by decide +kernel⟩
abbrev N_Term_parts : List Str := ["self"]
theorem sc_Term_parts : FnScope N_Term_parts ["self"] (defScope s_Term_parts) := ⟨rfl, rfl, rfl, by decide +kernel, rfl, by decide +kernel, by decide +kernel⟩
abbrev N_Term_names : List Str := ["self", "found", "part", "name"]
theorem sc_Term_names : FnScope N_Term_names ["self"] (defScope s_Term_names) := ⟨rfl, rfl, rfl, by decide +kernel, rfl, by decide +kernel, by decide +kernel⟩
abbrev N_Term_levels : List Str := ["self", "part"]
theorem sc_Term_levels : FnScope N_Term_levels ["self"] (defScope s_Term_levels) := ⟨rfl, rfl, rfl, by decide +kernel, rfl, by decide +kernel, by decide +kernel⟩
abbrev N_need_term : List Str := ["thing"]
theorem sc_need_term : FnScope N_need_term ["thing"] (defScope s_need_term) := ⟨rfl, rfl, rfl, by decide +kernel, rfl, by decide +kernel, by decide +kernel⟩
abbrev N_Name_init : List Str := ["self", "name"]
theorem sc_Name_init : FnScope N_Name_init ["self", "name"] (defScope s_Name_init) := ⟨rfl, rfl, rfl, by decide +kernel, rfl, by decide +kernel, by decide +kernel⟩
abbrev N_Name_names : List Str := ["self"]
theorem sc_Name_names : FnScope N_Name_names ["self"] (defScope s_Name_names) := ⟨rfl, rfl, rfl, by decide +kernel, rfl, by decide +kernel, by decide +kernel⟩
abbrev N_Name_told : List Str := ["self"]
theorem sc_Name_told : FnScope N_Name_told ["self"] (defScope s_Name_told) := ⟨rfl, rfl, rfl, by decide +kernel, rfl, by decide +kernel, by decide +kernel⟩
abbrev N_Value_init : List Str := ["self", "value"]
theorem sc_Value_init : FnScope N_Value_init ["self", "value"] (defScope s_Value_init) := ⟨rfl, rfl, rfl, by decide +kernel, rfl, by decide +kernel, by decide +kernel⟩
abbrev N_Value_told : List Str := ["self"]
theorem sc_Value_told : FnScope N_Value_told ["self"] (defScope s_Value_told) := ⟨rfl, rfl, rfl, by decide +kernel, rfl, by decide +kernel, by decide +kernel⟩
abbrev N_Two_init : List Str := ["self", "op", "one", "other"]
theorem sc_Two_init : FnScope N_Two_init ["self", "op", "one", "other"] (defScope s_Two_init) := ⟨rfl, rfl, rfl, by decide +kernel, rfl, by decide +kernel, by decide +kernel⟩
abbrev N_Two_parts : List Str := ["self"]
theorem sc_Two_parts : FnScope N_Two_parts ["self"] (defScope s_Two_parts) := ⟨rfl, rfl, rfl, by decide +kernel, rfl, by decide +kernel, by decide +kernel⟩
abbrev N_Two_told : List Str := ["self"]
theorem sc_Two_told : FnScope N_Two_told ["self"] (defScope s_Two_told) := ⟨rfl, rfl, rfl, by decide +kernel, rfl, by decide +kernel, by decide +kernel⟩
abbrev N_Not_init : List Str := ["self", "one"]
theorem sc_Not_init : FnScope N_Not_init ["self", "one"] (defScope s_Not_init) := ⟨rfl, rfl, rfl, by decide +kernel, rfl, by decide +kernel, by decide +kernel⟩
abbrev N_Not_parts : List Str := ["self"]
theorem sc_Not_parts : FnScope N_Not_parts ["self"] (defScope s_Not_parts) := ⟨rfl, rfl, rfl, by decide +kernel, rfl, by decide +kernel, by decide +kernel⟩
abbrev N_Not_told : List Str := ["self"]
theorem sc_Not_told : FnScope N_Not_told ["self"] (defScope s_Not_told) := ⟨rfl, rfl, rfl, by decide +kernel, rfl, by decide +kernel, by decide +kernel⟩
abbrev N_Pick_init : List Str := ["self", "by", "one", "other"]
theorem sc_Pick_init : FnScope N_Pick_init ["self", "by", "one", "other"] (defScope s_Pick_init) := ⟨rfl, rfl, rfl, by decide +kernel, rfl, by decide +kernel, by decide +kernel⟩
abbrev N_Pick_parts : List Str := ["self"]
theorem sc_Pick_parts : FnScope N_Pick_parts ["self"] (defScope s_Pick_parts) := ⟨rfl, rfl, rfl, by decide +kernel, rfl, by decide +kernel, by decide +kernel⟩
abbrev N_Pick_told : List Str := ["self"]
theorem sc_Pick_told : FnScope N_Pick_told ["self"] (defScope s_Pick_told) := ⟨rfl, rfl, rfl, by decide +kernel, rfl, by decide +kernel, by decide +kernel⟩
abbrev N_simple_of : List Str := ["word", "thing"]
theorem sc_simple_of : FnScope N_simple_of ["word", "thing"] (defScope s_simple_of) := ⟨rfl, rfl, rfl, by decide +kernel, rfl, by decide +kernel, by decide +kernel⟩
abbrev N_made_of_told : List Str := ["told", "left", "word", "first", "parts", "one"]
theorem sc_made_of_told : FnScope N_made_of_told ["told", "left"] (defScope s_made_of_told) := ⟨rfl, rfl, rfl, by decide +kernel, rfl, by decide +kernel, by decide +kernel⟩
abbrev N_term_of : List Str := ["told", "found"]
theorem sc_term_of : FnScope N_term_of ["told"] (defScope s_term_of) := ⟨rfl, rfl, rfl, by decide +kernel, rfl, by decide +kernel, by decide +kernel⟩
abbrev N_each_once : List Str := ["names", "found", "name"]
theorem sc_each_once : FnScope N_each_once ["names"] (defScope s_each_once) := ⟨rfl, rfl, rfl, by decide +kernel, rfl, by decide +kernel, by decide +kernel⟩
abbrev N_Equation_init : List Str := ["self", "row"]
theorem sc_Equation_init : FnScope N_Equation_init ["self", "row"] (defScope s_Equation_init) := ⟨rfl, rfl, rfl, by decide +kernel, rfl, by decide +kernel, by decide +kernel⟩
abbrev N_Equation_told : List Str := ["self"]
theorem sc_Equation_told : FnScope N_Equation_told ["self"] (defScope s_Equation_told) := ⟨rfl, rfl, rfl, by decide +kernel, rfl, by decide +kernel, by decide +kernel⟩
abbrev N_Equation_tells : List Str := ["self"]
theorem sc_Equation_tells : FnScope N_Equation_tells ["self"] (defScope s_Equation_tells) := ⟨rfl, rfl, rfl, by decide +kernel, rfl, by decide +kernel, by decide +kernel⟩
abbrev N_Equation_names : List Str := ["self"]
theorem sc_Equation_names : FnScope N_Equation_names ["self"] (defScope s_Equation_names) := ⟨rfl, rfl, rfl, by decide +kernel, rfl, by decide +kernel, by decide +kernel⟩
abbrev N_Equation_term : List Str := ["self"]
theorem sc_Equation_term : FnScope N_Equation_term ["self"] (defScope s_Equation_term) := ⟨rfl, rfl, rfl, by decide +kernel, rfl, by decide +kernel, by decide +kernel⟩
abbrev N_Plain_init : List Str := ["self", "row"]
theorem sc_Plain_init : FnScope N_Plain_init ["self", "row"] (defScope s_Plain_init) := ⟨rfl, rfl, rfl, by decide +kernel, rfl, by decide +kernel, by decide +kernel⟩
abbrev N_Plain_names : List Str := ["self"]
theorem sc_Plain_names : FnScope N_Plain_names ["self"] (defScope s_Plain_names) := ⟨rfl, rfl, rfl, by decide +kernel, rfl, by decide +kernel, by decide +kernel⟩
abbrev N_Plain_term : List Str := ["self"]
theorem sc_Plain_term : FnScope N_Plain_term ["self"] (defScope s_Plain_term) := ⟨rfl, rfl, rfl, by decide +kernel, rfl, by decide +kernel, by decide +kernel⟩
abbrev N_When_names : List Str := ["self"]
theorem sc_When_names : FnScope N_When_names ["self"] (defScope s_When_names) := ⟨rfl, rfl, rfl, by decide +kernel, rfl, by decide +kernel, by decide +kernel⟩
abbrev N_Same_tells : List Str := ["self"]
theorem sc_Same_tells : FnScope N_Same_tells ["self"] (defScope s_Same_tells) := ⟨rfl, rfl, rfl, by decide +kernel, rfl, by decide +kernel, by decide +kernel⟩
abbrev N_Same_names : List Str := ["self"]
theorem sc_Same_names : FnScope N_Same_names ["self"] (defScope s_Same_names) := ⟨rfl, rfl, rfl, by decide +kernel, rfl, by decide +kernel, by decide +kernel⟩
abbrev N_Call_tells : List Str := ["self"]
theorem sc_Call_tells : FnScope N_Call_tells ["self"] (defScope s_Call_tells) := ⟨rfl, rfl, rfl, by decide +kernel, rfl, by decide +kernel, by decide +kernel⟩
abbrev N_Call_names : List Str := ["self"]
theorem sc_Call_names : FnScope N_Call_names ["self"] (defScope s_Call_names) := ⟨rfl, rfl, rfl, by decide +kernel, rfl, by decide +kernel, by decide +kernel⟩
abbrev N_are_pointed : List Str := ["thing", "least", "name"]
theorem sc_are_pointed : FnScope N_are_pointed ["thing", "least"] (defScope s_are_pointed) := ⟨rfl, rfl, rfl, by decide +kernel, rfl, by decide +kernel, by decide +kernel⟩
abbrev N_is_valued : List Str := ["row"]
theorem sc_is_valued : FnScope N_is_valued ["row"] (defScope s_is_valued) := ⟨rfl, rfl, rfl, by decide +kernel, rfl, by decide +kernel, by decide +kernel⟩
abbrev N_plain_of : List Str := ["row"]
theorem sc_plain_of : FnScope N_plain_of ["row"] (defScope s_plain_of) := ⟨rfl, rfl, rfl, by decide +kernel, rfl, by decide +kernel, by decide +kernel⟩
abbrev N_valued_of : List Str := ["row"]
theorem sc_valued_of : FnScope N_valued_of ["row"] (defScope s_valued_of) := ⟨rfl, rfl, rfl, by decide +kernel, rfl, by decide +kernel, by decide +kernel⟩
abbrev N_call_of : List Str := ["row"]
theorem sc_call_of : FnScope N_call_of ["row"] (defScope s_call_of) := ⟨rfl, rfl, rfl, by decide +kernel, rfl, by decide +kernel, by decide +kernel⟩
abbrev N_made_of : List Str := ["row"]
theorem sc_made_of : FnScope N_made_of ["row"] (defScope s_made_of) := ⟨rfl, rfl, rfl, by decide +kernel, rfl, by decide +kernel, by decide +kernel⟩
abbrev N_equation_of : List Str := ["told", "found"]
theorem sc_equation_of : FnScope N_equation_of ["told"] (defScope s_equation_of) := ⟨rfl, rfl, rfl, by decide +kernel, rfl, by decide +kernel, by decide +kernel⟩
abbrev N_need_names : List Str := ["things", "ahead", "name"]
theorem sc_need_names : FnScope N_need_names ["things"] (defScope s_need_names) := ⟨rfl, rfl, rfl, by decide +kernel, rfl, by decide +kernel, by decide +kernel⟩
abbrev N_equations_of : List Str := ["rows", "found", "row", "equation"]
theorem sc_equations_of : FnScope N_equations_of ["rows"] (defScope s_equations_of) := ⟨rfl, rfl, rfl, by decide +kernel, rfl, by decide +kernel, by decide +kernel⟩
abbrev N_Node_init : List Str := ["self", "name", "inputs", "outs", "rows"]
theorem sc_Node_init : FnScope N_Node_init ["self", "name", "inputs", "outs", "rows"] (defScope s_Node_init) := ⟨rfl, rfl, rfl, by decide +kernel, rfl, by decide +kernel, by decide +kernel⟩
abbrev N_Node_take_tellers : List Str := ["self", "name", "row"]
theorem sc_Node_take_tellers : FnScope N_Node_take_tellers ["self"] (defScope s_Node_take_tellers) := ⟨rfl, rfl, rfl, by decide +kernel, rfl, by decide +kernel, by decide +kernel⟩
abbrev N_Node_need_told : List Str := ["self", "row", "name"]
theorem sc_Node_need_told : FnScope N_Node_need_told ["self"] (defScope s_Node_need_told) := ⟨rfl, rfl, rfl, by decide +kernel, rfl, by decide +kernel, by decide +kernel⟩
abbrev N_Node_told : List Str := ["self", "rows", "row"]
theorem sc_Node_told : FnScope N_Node_told ["self"] (defScope s_Node_told) := ⟨rfl, rfl, rfl, by decide +kernel, rfl, by decide +kernel, by decide +kernel⟩
abbrev N_node_of : List Str := ["told", "thing", "found"]
theorem sc_node_of : FnScope N_node_of ["told"] (defScope s_node_of) := ⟨rfl, rfl, rfl, by decide +kernel, rfl, by decide +kernel, by decide +kernel⟩
abbrev N_cell_l : List Str := ["_law_script", "_law_k"]
theorem sc_cell_l : FnScope N_cell_l ["_law_script", "_law_k"] (defScope s_cell_l) := ⟨rfl, rfl, rfl, by decide +kernel, rfl, by decide +kernel, by decide +kernel⟩
abbrev N_begun_l : List Str := ["_law_cell_here"]
theorem sc_begun_l : FnScope N_begun_l ["_law_cell_here"] (defScope s_begun_l) := ⟨rfl, rfl, rfl, by decide +kernel, rfl, by decide +kernel, by decide +kernel⟩
abbrev N_draw_l : List Str := ["_law_well", "_law_many", "_law_number"]
theorem sc_draw_l : FnScope N_draw_l ["_law_well", "_law_many"] (defScope s_draw_l) := ⟨rfl, rfl, rfl, by decide +kernel, rfl, by decide +kernel, by decide +kernel⟩
abbrev N_named_all_l : List Str := ["_law_well", "_law_many", "_law_letters", "_law_first", "_law_way", "_law_found", "_law_k", "_law_name"]
theorem sc_named_all_l : FnScope N_named_all_l ["_law_well", "_law_many"] (defScope s_named_all_l) := ⟨rfl, rfl, rfl, by decide +kernel, rfl, by decide +kernel, by decide +kernel⟩
abbrev N_formed_l : List Str := ["_law_well", "_law_names", "_law_some", "_law_name", "_law_way", "_law_op", "_law_term", "_law_k", "_law_value", "_law_wrapped"]
theorem sc_formed_l : FnScope N_formed_l ["_law_well", "_law_names"] (defScope s_formed_l) := ⟨rfl, rfl, rfl, by decide +kernel, rfl, by decide +kernel, by decide +kernel⟩
abbrev N_some_value_l : List Str := ["_law_well"]
theorem sc_some_value_l : FnScope N_some_value_l ["_law_well"] (defScope s_some_value_l) := ⟨rfl, rfl, rfl, by decide +kernel, rfl, by decide +kernel, by decide +kernel⟩
abbrev N_grown_l : List Str := ["_law_well", "_law_x", "_law_clocks", "_law_form", "_law_a", "_law_evenly", "_law_name", "_law_c", "_law_some", "_law_k"]
theorem sc_grown_l : FnScope N_grown_l ["_law_well", "_law_x", "_law_clocks", "_law_form"] (defScope s_grown_l) := ⟨rfl, rfl, rfl, by decide +kernel, rfl, by decide +kernel, by decide +kernel⟩
abbrev N_row_list_l : List Str := ["_law_well", "_law_inputs", "_law_free", "_law_many", "_law_clocks", "_law_name", "_law_rows", "_law_form", "_law_a", "_law_evenly", "_law_some", "_law_k", "_law_x", "_law_y", "_law_row", "_law_clock"]
theorem sc_row_list_l : FnScope N_row_list_l ["_law_well", "_law_inputs", "_law_free", "_law_many"] (defScope s_row_list_l) := ⟨rfl, rfl, rfl, by decide +kernel, rfl, by decide +kernel, by decide +kernel⟩
abbrev N_spoilt_l : List Str := ["_law_well", "_law_rows", "_law_names", "_law_at", "_law_row", "_law_name"]
theorem sc_spoilt_l : FnScope N_spoilt_l ["_law_well", "_law_rows", "_law_names"] (defScope s_spoilt_l) := ⟨rfl, rfl, rfl, by decide +kernel, rfl, by decide +kernel, by decide +kernel⟩
abbrev N_turned_l : List Str := ["_law_well", "_law_rows", "_law_left", "_law_found"]
theorem sc_turned_l : FnScope N_turned_l ["_law_well", "_law_rows"] (defScope s_turned_l) := ⟨rfl, rfl, rfl, by decide +kernel, rfl, by decide +kernel, by decide +kernel⟩
abbrev N_told_names_l : List Str := ["_law_rows", "_law_row"]
theorem sc_told_names_l : FnScope N_told_names_l ["_law_rows"] (defScope s_told_names_l) := ⟨rfl, rfl, rfl, by decide +kernel, rfl, by decide +kernel, by decide +kernel⟩
abbrev N_built_l : List Str := ["_law_well", "_law_spoils", "_law_many", "_law_names", "_law_inputs", "_law_rows", "_law_k"]
theorem sc_built_l : FnScope N_built_l ["_law_well", "_law_spoils"] (defScope s_built_l) := ⟨rfl, rfl, rfl, by decide +kernel, rfl, by decide +kernel, by decide +kernel⟩
abbrev N_telling_l : List Str := ["_law_deed", "_law_node", "e"]
theorem sc_telling_l : FnScope N_telling_l ["_law_deed", "_law_node"] (defScope s_telling_l) := ⟨rfl, rfl, rfl, by decide +kernel, rfl, by decide +kernel, by decide +kernel⟩
abbrev N_word_l : List Str := ["_law_told", "_law_found"]
theorem sc_word_l : FnScope N_word_l ["_law_told", "_law_found"] (defScope s_word_l) := ⟨rfl, rfl, rfl, by decide +kernel, rfl, by decide +kernel, by decide +kernel⟩
abbrev N_put_l : List Str := ["_law_part", "_law_names", "_law_one"]
theorem sc_put_l : FnScope N_put_l ["_law_part", "_law_names"] (defScope s_put_l) := ⟨rfl, rfl, rfl, by decide +kernel, rfl, by decide +kernel, by decide +kernel⟩
abbrev N_renamed_l : List Str := ["_law_row", "_law_names"]
theorem sc_renamed_l : FnScope N_renamed_l ["_law_row", "_law_names"] (defScope s_renamed_l) := ⟨rfl, rfl, rfl, by decide +kernel, rfl, by decide +kernel, by decide +kernel⟩
abbrev N_term_put_l : List Str := ["_law_term", "_law_names", "_law_part"]
theorem sc_term_put_l : FnScope N_term_put_l ["_law_term", "_law_names"] (defScope s_term_put_l) := ⟨rfl, rfl, rfl, by decide +kernel, rfl, by decide +kernel, by decide +kernel⟩
abbrev N_more_l : List Str := ["_law_well", "_law_told", "_law_clocks", "_law_names", "_law_a", "_law_evenly", "_law_name", "_law_c", "_law_clock"]
theorem sc_more_l : FnScope N_more_l ["_law_well", "_law_told", "_law_clocks"] (defScope s_more_l) := ⟨rfl, rfl, rfl, by decide +kernel, rfl, by decide +kernel, by decide +kernel⟩
abbrev N_law : List Str := ["_law_script", "_law_k", "_law_well", "_law_told", "_law_first", "_law_turn", "_law_inputs", "_law_rows", "_law_other", "_law_names", "_law_newer", "_law_name", "_law_row", "_law_due", "_law_clock", "_law_more_here"]
theorem sc_law : FnScope N_law ["_law_script"] (defScope s_law) := ⟨rfl, rfl, rfl, by decide +kernel, rfl, by decide +kernel, by decide +kernel⟩
section
variable {P : Program} {w : World} {K : PySem.W.Frag} {mg : Str → Option Value} {base : Heap} {Z : Adr}
def d_NoFit_init : He.DefD := ⟨("NoFit", some "__init__"), "__init__", "NoFit.__init__", defArgs s_NoFit_init, defBody s_NoFit_init, defScope s_NoFit_init, [], []⟩
def d_NoClock_init : He.DefD := ⟨("NoClock", some "__init__"), "__init__", "NoClock.__init__", defArgs s_NoClock_init, defBody s_NoClock_init, defScope s_NoClock_init, [], []⟩
def d_names_within : He.DefD := ⟨("names_within", none), "names_within", "names_within", defArgs s_names_within, defBody s_names_within, defScope s_names_within, [], []⟩
def d_mentioned : He.DefD := ⟨("mentioned", none), "mentioned", "mentioned", defArgs s_mentioned, defBody s_mentioned, defScope s_mentioned, [], []⟩
def d_clock_given : He.DefD := ⟨("clock_given", none), "clock_given", "clock_given", defArgs s_clock_given, defBody s_clock_given, defScope s_clock_given, [], []⟩
def d_named_rows : He.DefD := ⟨("named_rows", none), "named_rows", "named_rows", defArgs s_named_rows, defBody s_named_rows, defScope s_named_rows, [], []⟩
def d_names_told : He.DefD := ⟨("names_told", none), "names_told", "names_told", defArgs s_names_told, defBody s_names_told, defScope s_names_told, [], []⟩
def d_steps_of : He.DefD := ⟨("steps_of", none), "steps_of", "steps_of", defArgs s_steps_of, defBody s_steps_of, defScope s_steps_of, [], []⟩
def d_fitted : He.DefD := ⟨("fitted", none), "fitted", "fitted", defArgs s_fitted, defBody s_fitted, defScope s_fitted, [], []⟩
def d_clocks_of : He.DefD := ⟨("clocks_of", none), "clocks_of", "clocks_of", defArgs s_clocks_of, defBody s_clocks_of, defScope s_clocks_of, [], []⟩
def d_is_whole : He.DefD := ⟨("is_whole", none), "is_whole", "is_whole", defArgs s_is_whole, defBody s_is_whole, defScope s_is_whole, [], []⟩
def d_is_within : He.DefD := ⟨("is_within", none), "is_within", "is_within", defArgs s_is_within, defBody s_is_within, defScope s_is_within, [], []⟩
def d_is_name : He.DefD := ⟨("is_name", none), "is_name", "is_name", defArgs s_is_name, defBody s_is_name, defScope s_is_name, [], []⟩
def d_is_pointed : He.DefD := ⟨("is_pointed", none), "is_pointed", "is_pointed", defArgs s_is_pointed, defBody s_is_pointed, defScope s_is_pointed, [], []⟩
def d_is_value : He.DefD := ⟨("is_value", none), "is_value", "is_value", defArgs s_is_value, defBody s_is_value, defScope s_is_value, [], []⟩
def d_ops_told : He.DefD := ⟨("ops_told", none), "ops_told", "ops_told", defArgs s_ops_told, defBody s_ops_told, defScope s_ops_told, [], []⟩
def d_Term_parts : He.DefD := ⟨("Term", some "parts"), "parts", "Term.parts", defArgs s_Term_parts, defBody s_Term_parts, defScope s_Term_parts, [], []⟩
def d_Term_names : He.DefD := ⟨("Term", some "names"), "names", "Term.names", defArgs s_Term_names, defBody s_Term_names, defScope s_Term_names, [], []⟩
def d_Term_levels : He.DefD := ⟨("Term", some "levels"), "levels", "Term.levels", defArgs s_Term_levels, defBody s_Term_levels, defScope s_Term_levels, [], []⟩
def d_need_term : He.DefD := ⟨("need_term", none), "need_term", "need_term", defArgs s_need_term, defBody s_need_term, defScope s_need_term, [], []⟩
def d_Name_init : He.DefD := ⟨("Name", some "__init__"), "__init__", "Name.__init__", defArgs s_Name_init, defBody s_Name_init, defScope s_Name_init, [], []⟩
def d_Name_names : He.DefD := ⟨("Name", some "names"), "names", "Name.names", defArgs s_Name_names, defBody s_Name_names, defScope s_Name_names, [], []⟩
def d_Name_told : He.DefD := ⟨("Name", some "told"), "told", "Name.told", defArgs s_Name_told, defBody s_Name_told, defScope s_Name_told, [], []⟩
def d_Value_init : He.DefD := ⟨("Value", some "__init__"), "__init__", "Value.__init__", defArgs s_Value_init, defBody s_Value_init, defScope s_Value_init, [], []⟩
def d_Value_told : He.DefD := ⟨("Value", some "told"), "told", "Value.told", defArgs s_Value_told, defBody s_Value_told, defScope s_Value_told, [], []⟩
def d_Two_init : He.DefD := ⟨("Two", some "__init__"), "__init__", "Two.__init__", defArgs s_Two_init, defBody s_Two_init, defScope s_Two_init, [], []⟩
def d_Two_parts : He.DefD := ⟨("Two", some "parts"), "parts", "Two.parts", defArgs s_Two_parts, defBody s_Two_parts, defScope s_Two_parts, [], []⟩
def d_Two_told : He.DefD := ⟨("Two", some "told"), "told", "Two.told", defArgs s_Two_told, defBody s_Two_told, defScope s_Two_told, [], []⟩
def d_Not_init : He.DefD := ⟨("Not", some "__init__"), "__init__", "Not.__init__", defArgs s_Not_init, defBody s_Not_init, defScope s_Not_init, [], []⟩
def d_Not_parts : He.DefD := ⟨("Not", some "parts"), "parts", "Not.parts", defArgs s_Not_parts, defBody s_Not_parts, defScope s_Not_parts, [], []⟩
def d_Not_told : He.DefD := ⟨("Not", some "told"), "told", "Not.told", defArgs s_Not_told, defBody s_Not_told, defScope s_Not_told, [], []⟩
def d_Pick_init : He.DefD := ⟨("Pick", some "__init__"), "__init__", "Pick.__init__", defArgs s_Pick_init, defBody s_Pick_init, defScope s_Pick_init, [], []⟩
def d_Pick_parts : He.DefD := ⟨("Pick", some "parts"), "parts", "Pick.parts", defArgs s_Pick_parts, defBody s_Pick_parts, defScope s_Pick_parts, [], []⟩
def d_Pick_told : He.DefD := ⟨("Pick", some "told"), "told", "Pick.told", defArgs s_Pick_told, defBody s_Pick_told, defScope s_Pick_told, [], []⟩
def d_simple_of : He.DefD := ⟨("simple_of", none), "simple_of", "simple_of", defArgs s_simple_of, defBody s_simple_of, defScope s_simple_of, [], []⟩
def d_made_of_told : He.DefD := ⟨("made_of_told", none), "made_of_told", "made_of_told", defArgs s_made_of_told, defBody s_made_of_told, defScope s_made_of_told, [], []⟩
def d_term_of : He.DefD := ⟨("term_of", none), "term_of", "term_of", defArgs s_term_of, defBody s_term_of, defScope s_term_of, [], []⟩
def d_each_once : He.DefD := ⟨("each_once", none), "each_once", "each_once", defArgs s_each_once, defBody s_each_once, defScope s_each_once, [], []⟩
def d_Equation_init : He.DefD := ⟨("Equation", some "__init__"), "__init__", "Equation.__init__", defArgs s_Equation_init, defBody s_Equation_init, defScope s_Equation_init, [], []⟩
def d_Equation_told : He.DefD := ⟨("Equation", some "told"), "told", "Equation.told", defArgs s_Equation_told, defBody s_Equation_told, defScope s_Equation_told, [], []⟩
def d_Equation_tells : He.DefD := ⟨("Equation", some "tells"), "tells", "Equation.tells", defArgs s_Equation_tells, defBody s_Equation_tells, defScope s_Equation_tells, [], []⟩
def d_Equation_names : He.DefD := ⟨("Equation", some "names"), "names", "Equation.names", defArgs s_Equation_names, defBody s_Equation_names, defScope s_Equation_names, [], []⟩
def d_Equation_term : He.DefD := ⟨("Equation", some "term"), "term", "Equation.term", defArgs s_Equation_term, defBody s_Equation_term, defScope s_Equation_term, [], []⟩
def d_Plain_init : He.DefD := ⟨("Plain", some "__init__"), "__init__", "Plain.__init__", defArgs s_Plain_init, defBody s_Plain_init, defScope s_Plain_init, [], []⟩
def d_Plain_names : He.DefD := ⟨("Plain", some "names"), "names", "Plain.names", defArgs s_Plain_names, defBody s_Plain_names, defScope s_Plain_names, [], []⟩
def d_Plain_term : He.DefD := ⟨("Plain", some "term"), "term", "Plain.term", defArgs s_Plain_term, defBody s_Plain_term, defScope s_Plain_term, [], []⟩
def d_When_names : He.DefD := ⟨("When", some "names"), "names", "When.names", defArgs s_When_names, defBody s_When_names, defScope s_When_names, [], []⟩
def d_Same_tells : He.DefD := ⟨("Same", some "tells"), "tells", "Same.tells", defArgs s_Same_tells, defBody s_Same_tells, defScope s_Same_tells, [], []⟩
def d_Same_names : He.DefD := ⟨("Same", some "names"), "names", "Same.names", defArgs s_Same_names, defBody s_Same_names, defScope s_Same_names, [], []⟩
def d_Call_tells : He.DefD := ⟨("Call", some "tells"), "tells", "Call.tells", defArgs s_Call_tells, defBody s_Call_tells, defScope s_Call_tells, [], []⟩
def d_Call_names : He.DefD := ⟨("Call", some "names"), "names", "Call.names", defArgs s_Call_names, defBody s_Call_names, defScope s_Call_names, [], []⟩
def d_are_pointed : He.DefD := ⟨("are_pointed", none), "are_pointed", "are_pointed", defArgs s_are_pointed, defBody s_are_pointed, defScope s_are_pointed, [], []⟩
def d_is_valued : He.DefD := ⟨("is_valued", none), "is_valued", "is_valued", defArgs s_is_valued, defBody s_is_valued, defScope s_is_valued, [], []⟩
def d_plain_of : He.DefD := ⟨("plain_of", none), "plain_of", "plain_of", defArgs s_plain_of, defBody s_plain_of, defScope s_plain_of, [], []⟩
def d_valued_of : He.DefD := ⟨("valued_of", none), "valued_of", "valued_of", defArgs s_valued_of, defBody s_valued_of, defScope s_valued_of, [], []⟩
def d_call_of : He.DefD := ⟨("call_of", none), "call_of", "call_of", defArgs s_call_of, defBody s_call_of, defScope s_call_of, [], []⟩
def d_made_of : He.DefD := ⟨("made_of", none), "made_of", "made_of", defArgs s_made_of, defBody s_made_of, defScope s_made_of, [], []⟩
def d_equation_of : He.DefD := ⟨("equation_of", none), "equation_of", "equation_of", defArgs s_equation_of, defBody s_equation_of, defScope s_equation_of, [], []⟩
def d_need_names : He.DefD := ⟨("need_names", none), "need_names", "need_names", defArgs s_need_names, defBody s_need_names, defScope s_need_names, [], []⟩
def d_equations_of : He.DefD := ⟨("equations_of", none), "equations_of", "equations_of", defArgs s_equations_of, defBody s_equations_of, defScope s_equations_of, [], []⟩
def d_Node_init : He.DefD := ⟨("Node", some "__init__"), "__init__", "Node.__init__", defArgs s_Node_init, defBody s_Node_init, defScope s_Node_init, [], []⟩
def d_Node_take_tellers : He.DefD := ⟨("Node", some "take_tellers"), "take_tellers", "Node.take_tellers", defArgs s_Node_take_tellers, defBody s_Node_take_tellers, defScope s_Node_take_tellers, [], []⟩
def d_Node_need_told : He.DefD := ⟨("Node", some "need_told"), "need_told", "Node.need_told", defArgs s_Node_need_told, defBody s_Node_need_told, defScope s_Node_need_told, [], []⟩
def d_Node_told : He.DefD := ⟨("Node", some "told"), "told", "Node.told", defArgs s_Node_told, defBody s_Node_told, defScope s_Node_told, [], []⟩
def d_node_of : He.DefD := ⟨("node_of", none), "node_of", "node_of", defArgs s_node_of, defBody s_node_of, defScope s_node_of, [], []⟩
def d_cell_l : He.DefD := ⟨("_law_cell", none), "_law_cell", "_law_cell", defArgs s_cell_l, defBody s_cell_l, defScope s_cell_l, [], []⟩
def d_begun_l : He.DefD := ⟨("_law_begun", none), "_law_begun", "_law_begun", defArgs s_begun_l, defBody s_begun_l, defScope s_begun_l, [], []⟩
def d_draw_l : He.DefD := ⟨("_law_draw", none), "_law_draw", "_law_draw", defArgs s_draw_l, defBody s_draw_l, defScope s_draw_l, [], []⟩
def d_named_all_l : He.DefD := ⟨("_law_named_all", none), "_law_named_all", "_law_named_all", defArgs s_named_all_l, defBody s_named_all_l, defScope s_named_all_l, [], []⟩
def d_formed_l : He.DefD := ⟨("_law_formed", none), "_law_formed", "_law_formed", defArgs s_formed_l, defBody s_formed_l, defScope s_formed_l, [], []⟩
def d_some_value_l : He.DefD := ⟨("_law_some_value", none), "_law_some_value", "_law_some_value", defArgs s_some_value_l, defBody s_some_value_l, defScope s_some_value_l, [], []⟩
def d_grown_l : He.DefD := ⟨("_law_grown", none), "_law_grown", "_law_grown", defArgs s_grown_l, defBody s_grown_l, defScope s_grown_l, [], []⟩
def d_row_list_l : He.DefD := ⟨("_law_row_list", none), "_law_row_list", "_law_row_list", defArgs s_row_list_l, defBody s_row_list_l, defScope s_row_list_l, [], []⟩
def d_spoilt_l : He.DefD := ⟨("_law_spoilt", none), "_law_spoilt", "_law_spoilt", defArgs s_spoilt_l, defBody s_spoilt_l, defScope s_spoilt_l, [], []⟩
def d_turned_l : He.DefD := ⟨("_law_turned", none), "_law_turned", "_law_turned", defArgs s_turned_l, defBody s_turned_l, defScope s_turned_l, [], []⟩
def d_told_names_l : He.DefD := ⟨("_law_told_names", none), "_law_told_names", "_law_told_names", defArgs s_told_names_l, defBody s_told_names_l, defScope s_told_names_l, [], []⟩
def d_built_l : He.DefD := ⟨("_law_built", none), "_law_built", "_law_built", defArgs s_built_l, defBody s_built_l, defScope s_built_l, [], []⟩
def d_telling_l : He.DefD := ⟨("_law_telling", none), "_law_telling", "_law_telling", defArgs s_telling_l, defBody s_telling_l, defScope s_telling_l, [], []⟩
def d_word_l : He.DefD := ⟨("_law_word", none), "_law_word", "_law_word", defArgs s_word_l, defBody s_word_l, defScope s_word_l, [], []⟩
def d_put_l : He.DefD := ⟨("_law_put", none), "_law_put", "_law_put", defArgs s_put_l, defBody s_put_l, defScope s_put_l, [], []⟩
def d_renamed_l : He.DefD := ⟨("_law_renamed", none), "_law_renamed", "_law_renamed", defArgs s_renamed_l, defBody s_renamed_l, defScope s_renamed_l, [], []⟩
def d_term_put_l : He.DefD := ⟨("_law_term_put", none), "_law_term_put", "_law_term_put", defArgs s_term_put_l, defBody s_term_put_l, defScope s_term_put_l, [], []⟩
def d_more_l : He.DefD := ⟨("_law_more", none), "_law_more", "_law_more", defArgs s_more_l, defBody s_more_l, defScope s_more_l, [], []⟩
def d_law : He.DefD := ⟨("law", none), "law", "law", defArgs s_law, defBody s_law, defScope s_law, [], []⟩
def fnL0 : List He.DefD := [d_NoFit_init, d_NoClock_init, d_names_within, d_mentioned, d_clock_given, d_named_rows, d_names_told, d_steps_of, d_fitted, d_clocks_of, d_is_whole, d_is_within, d_is_name, d_is_pointed, d_is_value, d_ops_told, d_Term_parts, d_Term_names, d_Term_levels, d_need_term, d_Name_init, d_Name_names, d_Name_told, d_Value_init, d_Value_told, d_Two_init, d_Two_parts, d_Two_told, d_Not_init, d_Not_parts]
def fnL1 : List He.DefD := [d_Not_told, d_Pick_init, d_Pick_parts, d_Pick_told, d_simple_of, d_made_of_told, d_term_of, d_each_once, d_Equation_init, d_Equation_told, d_Equation_tells, d_Equation_names, d_Equation_term, d_Plain_init, d_Plain_names, d_Plain_term, d_When_names, d_Same_tells, d_Same_names, d_Call_tells, d_Call_names, d_are_pointed, d_is_valued, d_plain_of, d_valued_of, d_call_of, d_made_of, d_equation_of, d_need_names, d_equations_of]
def fnL2 : List He.DefD := [d_Node_init, d_Node_take_tellers, d_Node_need_told, d_Node_told, d_node_of, d_cell_l, d_begun_l, d_draw_l, d_named_all_l, d_formed_l, d_some_value_l, d_grown_l, d_row_list_l, d_spoilt_l, d_turned_l, d_told_names_l, d_built_l, d_telling_l, d_word_l, d_put_l, d_renamed_l, d_term_put_l, d_more_l, d_law]
def fnL : List He.DefD := fnL0 ++ (fnL1 ++ (fnL2))
def faL0 : List He.Fa := [.glo "names_within", .glo "mentioned", .glo "clock_given", .glo "named_rows", .glo "names_told", .glo "steps_of", .glo "fitted", .glo "clocks_of", .glo "is_whole", .glo "is_within", .glo "is_name", .glo "is_pointed", .glo "is_value", .glo "ops_told", .glo "need_term", .glo "simple_of", .glo "made_of_told", .glo "term_of", .glo "each_once", .glo "are_pointed", .glo "is_valued", .glo "plain_of", .glo "valued_of", .glo "call_of", .glo "made_of", .glo "equation_of", .glo "need_names", .glo "equations_of", .glo "node_of", .glo "_law_cell"]
def faL1 : List He.Fa := [.glo "_law_begun", .glo "_law_draw", .glo "_law_named_all", .glo "_law_formed", .glo "_law_some_value", .glo "_law_grown", .glo "_law_row_list", .glo "_law_spoilt", .glo "_law_turned", .glo "_law_told_names", .glo "_law_built", .glo "_law_telling", .glo "_law_word", .glo "_law_put", .glo "_law_renamed", .glo "_law_term_put", .glo "_law_more", .glo "law", .glo "BeatError", .glo "NoFit", .glo "NoClock", .glo "Term", .glo "Name", .glo "Value", .glo "Two", .glo "Not", .glo "Pick", .glo "Equation", .glo "Plain", .glo "Before"]
def faL2 : List He.Fa := [.glo "When", .glo "Hold", .glo "Like", .glo "Same", .glo "Call", .glo "Node", .free "ValueError", .free "all", .free "bool", .free "dict", .free "int", .free "isinstance", .free "len", .free "list", .free "max", .free "min", .free "range", .free "str", .free "tuple", .free "zip", .str "LETTERS" "abcdefghijklmnopqrstuvwxyz", .int "LONGEST" (8), .int "MOST" (1000000000), .int "MOST_LEVELS" (5), .int "MOST_SIGNS" (80), .glo "OPS", .glo "OWN", .int "TOLD_THINGS" (4)]
def faL : List He.Fa := faL0 ++ (faL1 ++ (faL2))
def exs0 (K : PySem.W.Frag) : List Bool := [PySem.W.isFn K (.ref (He.fAd K ("Term", some "parts"))), PySem.W.isFn K (.ref (He.fAd K ("Term", some "names"))), PySem.W.isFn K (.ref (He.fAd K ("Term", some "levels"))), PySem.W.isFn K (.ref (He.fAd K ("Name", some "__init__"))), PySem.W.isFn K (.ref (He.fAd K ("Name", some "names"))), PySem.W.isFn K (.ref (He.fAd K ("Name", some "told"))), PySem.W.isFn K (.ref (He.fAd K ("Value", some "__init__"))), PySem.W.isFn K (.ref (He.fAd K ("Value", some "told"))), PySem.W.isFn K (.ref (He.fAd K ("Two", some "__init__"))), PySem.W.isFn K (.ref (He.fAd K ("Two", some "parts"))), PySem.W.isFn K (.ref (He.fAd K ("Two", some "told"))), PySem.W.isFn K (.ref (He.fAd K ("Not", some "__init__"))), PySem.W.isFn K (.ref (He.fAd K ("Not", some "parts"))), PySem.W.isFn K (.ref (He.fAd K ("Not", some "told"))), PySem.W.isFn K (.ref (He.fAd K ("Pick", some "__init__"))), PySem.W.isFn K (.ref (He.fAd K ("Pick", some "parts"))), PySem.W.isFn K (.ref (He.fAd K ("Pick", some "told"))), PySem.W.isFn K (.ref (He.fAd K ("Equation", some "__init__"))), PySem.W.isFn K (.ref (He.fAd K ("Equation", some "told"))), PySem.W.isFn K (.ref (He.fAd K ("Equation", some "tells")))]
def exs1 (K : PySem.W.Frag) : List Bool := [PySem.W.isFn K (.ref (He.fAd K ("Equation", some "names"))), PySem.W.isFn K (.ref (He.fAd K ("Equation", some "term"))), PySem.W.isFn K (.ref (He.fAd K ("Plain", some "__init__"))), PySem.W.isFn K (.ref (He.fAd K ("Plain", some "names"))), PySem.W.isFn K (.ref (He.fAd K ("Plain", some "term"))), PySem.W.isFn K (.ref (He.fAd K ("When", some "names"))), PySem.W.isFn K (.ref (He.fAd K ("Same", some "tells"))), PySem.W.isFn K (.ref (He.fAd K ("Same", some "names"))), PySem.W.isFn K (.ref (He.fAd K ("Call", some "tells"))), PySem.W.isFn K (.ref (He.fAd K ("Call", some "names"))), PySem.W.isFn K (.ref (He.fAd K ("Node", some "__init__"))), PySem.W.isFn K (.ref (He.fAd K ("Node", some "take_tellers"))), PySem.W.isFn K (.ref (He.fAd K ("Node", some "need_told"))), PySem.W.isFn K (.ref (He.fAd K ("Node", some "told"))), baseB K (He.ga K "BeatError"), PySem.W.excIn K (He.ga K "BeatError") [.type "ValueError", .type "Exception", .type "BaseException", .type "object"] "ValueError.__new__", PySem.W.keepIn K (.ref (He.ga K "BeatError")), icB K (He.ga K "BeatError"), exB K (He.ga K "NoFit") ["paper"], decide (PySem.W.findIn K (.ref (He.ga K "NoFit")) "__init__" = some (some (.ref (He.fAd K ("NoFit", some "__init__")))))]
def exs2 (K : PySem.W.Frag) : List Bool := [decide (PySem.W.typeIn K (.ref (He.fAd K ("NoFit", some "__init__"))) = some (.type "function")), exB K (He.ga K "NoClock") ["name"], decide (PySem.W.findIn K (.ref (He.ga K "NoClock")) "__init__" = some (some (.ref (He.fAd K ("NoClock", some "__init__"))))), decide (PySem.W.typeIn K (.ref (He.fAd K ("NoClock", some "__init__"))) = some (.type "function")), tcB K (He.ga K "Name") ["name"], decide (PySem.W.findIn K (.ref (He.ga K "Name")) "__init__" = some (some (.ref (He.fAd K ("Name", some "__init__"))))), decide (PySem.W.findIn K (.ref (He.ga K "Name")) "parts" = some (some (.ref (He.fAd K ("Term", some "parts"))))), decide (PySem.W.findIn K (.ref (He.ga K "Name")) "names" = some (some (.ref (He.fAd K ("Name", some "names"))))), decide (PySem.W.findIn K (.ref (He.ga K "Name")) "levels" = some (some (.ref (He.fAd K ("Term", some "levels"))))), decide (PySem.W.findIn K (.ref (He.ga K "Name")) "told" = some (some (.ref (He.fAd K ("Name", some "told"))))), tcB K (He.ga K "Value") ["amount"], decide (PySem.W.findIn K (.ref (He.ga K "Value")) "__init__" = some (some (.ref (He.fAd K ("Value", some "__init__"))))), decide (PySem.W.findIn K (.ref (He.ga K "Value")) "parts" = some (some (.ref (He.fAd K ("Term", some "parts"))))), decide (PySem.W.findIn K (.ref (He.ga K "Value")) "names" = some (some (.ref (He.fAd K ("Term", some "names"))))), decide (PySem.W.findIn K (.ref (He.ga K "Value")) "levels" = some (some (.ref (He.fAd K ("Term", some "levels"))))), decide (PySem.W.findIn K (.ref (He.ga K "Value")) "told" = some (some (.ref (He.fAd K ("Value", some "told"))))), tcB K (He.ga K "Two") ["op", "one", "second"], decide (PySem.W.findIn K (.ref (He.ga K "Two")) "__init__" = some (some (.ref (He.fAd K ("Two", some "__init__"))))), decide (PySem.W.findIn K (.ref (He.ga K "Two")) "parts" = some (some (.ref (He.fAd K ("Two", some "parts"))))), decide (PySem.W.findIn K (.ref (He.ga K "Two")) "names" = some (some (.ref (He.fAd K ("Term", some "names")))))]
def exs3 (K : PySem.W.Frag) : List Bool := [decide (PySem.W.findIn K (.ref (He.ga K "Two")) "levels" = some (some (.ref (He.fAd K ("Term", some "levels"))))), decide (PySem.W.findIn K (.ref (He.ga K "Two")) "told" = some (some (.ref (He.fAd K ("Two", some "told"))))), tcB K (He.ga K "Not") ["one"], decide (PySem.W.findIn K (.ref (He.ga K "Not")) "__init__" = some (some (.ref (He.fAd K ("Not", some "__init__"))))), decide (PySem.W.findIn K (.ref (He.ga K "Not")) "parts" = some (some (.ref (He.fAd K ("Not", some "parts"))))), decide (PySem.W.findIn K (.ref (He.ga K "Not")) "names" = some (some (.ref (He.fAd K ("Term", some "names"))))), decide (PySem.W.findIn K (.ref (He.ga K "Not")) "levels" = some (some (.ref (He.fAd K ("Term", some "levels"))))), decide (PySem.W.findIn K (.ref (He.ga K "Not")) "told" = some (some (.ref (He.fAd K ("Not", some "told"))))), tcB K (He.ga K "Pick") ["by", "one", "second"], decide (PySem.W.findIn K (.ref (He.ga K "Pick")) "__init__" = some (some (.ref (He.fAd K ("Pick", some "__init__"))))), decide (PySem.W.findIn K (.ref (He.ga K "Pick")) "parts" = some (some (.ref (He.fAd K ("Pick", some "parts"))))), decide (PySem.W.findIn K (.ref (He.ga K "Pick")) "names" = some (some (.ref (He.fAd K ("Term", some "names"))))), decide (PySem.W.findIn K (.ref (He.ga K "Pick")) "levels" = some (some (.ref (He.fAd K ("Term", some "levels"))))), decide (PySem.W.findIn K (.ref (He.ga K "Pick")) "told" = some (some (.ref (He.fAd K ("Pick", some "told"))))), tcB K (He.ga K "Equation") ["told_row"], decide (PySem.W.findIn K (.ref (He.ga K "Equation")) "__init__" = some (some (.ref (He.fAd K ("Equation", some "__init__"))))), decide (PySem.W.findIn K (.ref (He.ga K "Equation")) "names" = some (some (.ref (He.fAd K ("Equation", some "names"))))), decide (PySem.W.findIn K (.ref (He.ga K "Equation")) "told" = some (some (.ref (He.fAd K ("Equation", some "told"))))), decide (PySem.W.findIn K (.ref (He.ga K "Equation")) "tells" = some (some (.ref (He.fAd K ("Equation", some "tells"))))), decide (PySem.W.findIn K (.ref (He.ga K "Equation")) "term" = some (some (.ref (He.fAd K ("Equation", some "term")))))]
def exs4 (K : PySem.W.Frag) : List Bool := [tcB K (He.ga K "Plain") ["told_row", "kept_term"], decide (PySem.W.findIn K (.ref (He.ga K "Plain")) "__init__" = some (some (.ref (He.fAd K ("Plain", some "__init__"))))), decide (PySem.W.findIn K (.ref (He.ga K "Plain")) "names" = some (some (.ref (He.fAd K ("Plain", some "names"))))), decide (PySem.W.findIn K (.ref (He.ga K "Plain")) "told" = some (some (.ref (He.fAd K ("Equation", some "told"))))), decide (PySem.W.findIn K (.ref (He.ga K "Plain")) "tells" = some (some (.ref (He.fAd K ("Equation", some "tells"))))), decide (PySem.W.findIn K (.ref (He.ga K "Plain")) "term" = some (some (.ref (He.fAd K ("Plain", some "term"))))), tcB K (He.ga K "Before") ["told_row"], decide (PySem.W.findIn K (.ref (He.ga K "Before")) "__init__" = some (some (.ref (He.fAd K ("Equation", some "__init__"))))), decide (PySem.W.findIn K (.ref (He.ga K "Before")) "names" = some (some (.ref (He.fAd K ("Equation", some "names"))))), decide (PySem.W.findIn K (.ref (He.ga K "Before")) "told" = some (some (.ref (He.fAd K ("Equation", some "told"))))), decide (PySem.W.findIn K (.ref (He.ga K "Before")) "tells" = some (some (.ref (He.fAd K ("Equation", some "tells"))))), decide (PySem.W.findIn K (.ref (He.ga K "Before")) "term" = some (some (.ref (He.fAd K ("Equation", some "term"))))), tcB K (He.ga K "When") ["told_row"], decide (PySem.W.findIn K (.ref (He.ga K "When")) "__init__" = some (some (.ref (He.fAd K ("Equation", some "__init__"))))), decide (PySem.W.findIn K (.ref (He.ga K "When")) "names" = some (some (.ref (He.fAd K ("When", some "names"))))), decide (PySem.W.findIn K (.ref (He.ga K "When")) "told" = some (some (.ref (He.fAd K ("Equation", some "told"))))), decide (PySem.W.findIn K (.ref (He.ga K "When")) "tells" = some (some (.ref (He.fAd K ("Equation", some "tells"))))), decide (PySem.W.findIn K (.ref (He.ga K "When")) "term" = some (some (.ref (He.fAd K ("Equation", some "term"))))), tcB K (He.ga K "Hold") ["told_row"], decide (PySem.W.findIn K (.ref (He.ga K "Hold")) "__init__" = some (some (.ref (He.fAd K ("Equation", some "__init__")))))]
def exs5 (K : PySem.W.Frag) : List Bool := [decide (PySem.W.findIn K (.ref (He.ga K "Hold")) "names" = some (some (.ref (He.fAd K ("Equation", some "names"))))), decide (PySem.W.findIn K (.ref (He.ga K "Hold")) "told" = some (some (.ref (He.fAd K ("Equation", some "told"))))), decide (PySem.W.findIn K (.ref (He.ga K "Hold")) "tells" = some (some (.ref (He.fAd K ("Equation", some "tells"))))), decide (PySem.W.findIn K (.ref (He.ga K "Hold")) "term" = some (some (.ref (He.fAd K ("Equation", some "term"))))), tcB K (He.ga K "Like") ["told_row"], decide (PySem.W.findIn K (.ref (He.ga K "Like")) "__init__" = some (some (.ref (He.fAd K ("Equation", some "__init__"))))), decide (PySem.W.findIn K (.ref (He.ga K "Like")) "names" = some (some (.ref (He.fAd K ("Equation", some "names"))))), decide (PySem.W.findIn K (.ref (He.ga K "Like")) "told" = some (some (.ref (He.fAd K ("Equation", some "told"))))), decide (PySem.W.findIn K (.ref (He.ga K "Like")) "tells" = some (some (.ref (He.fAd K ("Equation", some "tells"))))), decide (PySem.W.findIn K (.ref (He.ga K "Like")) "term" = some (some (.ref (He.fAd K ("Equation", some "term"))))), tcB K (He.ga K "Same") ["told_row"], decide (PySem.W.findIn K (.ref (He.ga K "Same")) "__init__" = some (some (.ref (He.fAd K ("Equation", some "__init__"))))), decide (PySem.W.findIn K (.ref (He.ga K "Same")) "names" = some (some (.ref (He.fAd K ("Same", some "names"))))), decide (PySem.W.findIn K (.ref (He.ga K "Same")) "told" = some (some (.ref (He.fAd K ("Equation", some "told"))))), decide (PySem.W.findIn K (.ref (He.ga K "Same")) "tells" = some (some (.ref (He.fAd K ("Same", some "tells"))))), decide (PySem.W.findIn K (.ref (He.ga K "Same")) "term" = some (some (.ref (He.fAd K ("Equation", some "term"))))), tcB K (He.ga K "Call") ["told_row"], decide (PySem.W.findIn K (.ref (He.ga K "Call")) "__init__" = some (some (.ref (He.fAd K ("Equation", some "__init__"))))), decide (PySem.W.findIn K (.ref (He.ga K "Call")) "names" = some (some (.ref (He.fAd K ("Call", some "names"))))), decide (PySem.W.findIn K (.ref (He.ga K "Call")) "told" = some (some (.ref (He.fAd K ("Equation", some "told")))))]
def exs6 (K : PySem.W.Frag) : List Bool := [decide (PySem.W.findIn K (.ref (He.ga K "Call")) "tells" = some (some (.ref (He.fAd K ("Call", some "tells"))))), decide (PySem.W.findIn K (.ref (He.ga K "Call")) "term" = some (some (.ref (He.fAd K ("Equation", some "term"))))), tcB K (He.ga K "Node") ["name", "kept_inputs", "kept_outs", "kept_rows", "tellers"], decide (PySem.W.findIn K (.ref (He.ga K "Node")) "__init__" = some (some (.ref (He.fAd K ("Node", some "__init__"))))), decide (PySem.W.findIn K (.ref (He.ga K "Node")) "told" = some (some (.ref (He.fAd K ("Node", some "told"))))), decide (PySem.W.findIn K (.ref (He.ga K "Node")) "take_tellers" = some (some (.ref (He.fAd K ("Node", some "take_tellers"))))), decide (PySem.W.findIn K (.ref (He.ga K "Node")) "need_told" = some (some (.ref (He.fAd K ("Node", some "need_told"))))), difB [(He.ga K "Name"), (He.ga K "Value"), (He.ga K "Two"), (He.ga K "Not"), (He.ga K "Pick")], subB K (He.ga K "Name") (He.ga K "Term"), subB K (He.ga K "Value") (He.ga K "Term"), subB K (He.ga K "Two") (He.ga K "Term"), subB K (He.ga K "Not") (He.ga K "Term"), subB K (He.ga K "Pick") (He.ga K "Term"), difB [(He.ga K "Plain"), (He.ga K "Name"), (He.ga K "Value"), (He.ga K "Two"), (He.ga K "Not"), (He.ga K "Pick")], difB [(He.ga K "Plain"), (He.ga K "Before"), (He.ga K "Hold"), (He.ga K "Like"), (He.ga K "When"), (He.ga K "Same"), (He.ga K "Call")], difB [(He.ga K "Node"), (He.ga K "Name"), (He.ga K "Value"), (He.ga K "Two"), (He.ga K "Not"), (He.ga K "Pick")], difB [(He.ga K "Node"), (He.ga K "Plain"), (He.ga K "Before"), (He.ga K "Hold"), (He.ga K "Like"), (He.ga K "When"), (He.ga K "Same"), (He.ga K "Call")], kitTab K [(He.ga K "Plain"), (He.ga K "Before"), (He.ga K "Hold"), (He.ga K "Like"), (He.ga K "When"), (He.ga K "Same"), (He.ga K "Call")] (He.ga K "Equation"), cmB K (He.ga K "Equation") (He.fAd K ("Equation", some "__init__")) "__init__", decide (PySem.W.exmOne K (.ref (He.ga K "NoFit")) (.ref (He.ga K "NoFit")) = some true)]
def exs7 (K : PySem.W.Frag) : List Bool := [decide (PySem.W.exmOne K (.ref (He.ga K "NoClock")) (.ref (He.ga K "NoFit")) = some false), decide (PySem.W.exmOne K (.ref (He.ga K "NoClock")) (.ref (He.ga K "NoClock")) = some true), decide (PySem.W.kitOne K (.ref (He.ga K "NoFit")) (.ref (He.ga K "NoClock")) = some false), decide (PySem.W.kitOne K (.ref (He.ga K "NoFit")) (.ref (He.ga K "BeatError")) = some true), decide (PySem.W.kitOne K (.ref (He.ga K "NoFit")) (.type "ValueError") = some true), tupB K (He.ga K "OPS") ["+", "-", "*", "/", "mod", "<", "=", "&", "|"], tupB K (He.ga K "OWN") ["node", "in", "out", "before", "when", "hold", "like", "same", "call", "true", "false", "mod", "beat", "desk"]]
def exs (K : PySem.W.Frag) : List Bool := exs0 K ++ (exs1 K ++ (exs2 K ++ (exs3 K ++ (exs4 K ++ (exs5 K ++ (exs6 K ++ (exs7 K)))))))
abbrev RW : PySem.W.OpenRow := PySem.W.OpenLaw.row PySem.Challenge.rw_beatrows_k56_whole_clocks_in_any_order
def csL : List PySem.Str := ["BeatError", "NoValue", "NoName", "NoTerm", "NoEquation", "NoNode", "Twice", "Unknown", "NoOut", "NoRead", "NoFit", "NoClock", "Term", "Name", "Value", "Two", "Not", "Pick", "Equation", "Plain", "Before", "When", "Hold", "Like", "Same", "Call", "Node"]
def tsL : List PySem.Str := ["OPS", "OWN"]
abbrev hk : PySem.W.Hook := hookK csL tsL faL fnL (fun K => (exs K).all id)
def ob (s : PySem.W.SharedT) : He.AlD × Bool := hkObs csL tsL faL fnL (fun K => (exs K).all id) (HandSHeadRun.getT s)
theorem ob_eq (s : PySem.W.SharedT) : ob s = hk.obs s.abs := hkObs_eq (HandSHeadRun.getT_eq s)
def loose0 : List PySem.Str := ["_wall", "BeatError", "NoValue", "NoName", "NoTerm", "NoEquation", "NoNode", "Twice", "Unknown", "NoOut", "NoRead", "NoFit", "NoClock", "names_within", "mentioned", "clock_given", "named_rows", "names_told", "steps_of", "fitted", "clocks_of", "LETTERS", "LONGEST", "MOST_SIGNS", "MOST", "OWN", "is_whole", "is_within", "is_name", "is_pointed"]
def loose1 : List PySem.Str := ["is_value", "value_text", "OPS", "ops_told", "MOST_LEVELS", "Term", "need_term", "Name", "Value", "Two", "Not", "Pick", "simple_of", "made_of_told", "term_of", "each_once", "Equation", "Plain", "Before", "When", "Hold", "Like", "Same", "Call", "are_pointed", "is_valued", "plain_of", "valued_of", "call_of", "made_of"]
def loose2 : List PySem.Str := ["equation_of", "TOLD_THINGS", "need_names", "equations_of", "Node", "node_of", "_law_cell", "_law_begun", "_law_draw", "_law_named_all", "_law_formed", "_law_some_value", "_law_grown", "_law_row_list", "_law_spoilt", "_law_turned", "_law_told_names", "_law_built", "_law_telling", "_law_word", "_law_put", "_law_renamed", "_law_term_put", "_law_more"]
def loose : List PySem.Str := loose0 ++ (loose1 ++ (loose2))
theorem run (w : World) : HandSHeadRun.RunEq RW (PySem.W.view RW.prog [92]) hk ob 20000 loose w := by
  intro os
  kernel_rfl

theorem ok_NoFit_init (T : Txt K mg Z) : FnOk P w K mg base CX0 1 Z.f_NoFit_init Z.fd_NoFit_init ["self", "paper"] (sp_err1 Z.c_NoFit "paper") := by
  refine T.F_NoFit_init.ok sc_NoFit_init (fun vs H Q E h => ?_) (fun cdv AA outer s H vs Q E hr h => ?_)
  · obtain ⟨a, v0, rfl, _⟩ := h
    rfl
  · obtain ⟨a, v0, rfl, ha, k⟩ := h
    have TX := exB_ok T.x_NoFit
    refine ⟨_, (pss_cons (ps_expr (pe_binit rfl T.m_BeatError (baseB_ok T.q_BeatError) (pa_cons (pv 0) (pa_cons pe_str pa_nil))))
      (pss_one (ps_ost (pv 0) (pv 1)))), ?_⟩
    exact err1_run TX.ox (TX.no _ (by decide +kernel)) ha k
theorem ok_NoClock_init (T : Txt K mg Z) : FnOk P w K mg base CX0 1 Z.f_NoClock_init Z.fd_NoClock_init ["self", "name"] (sp_err1 Z.c_NoClock "name") := by
  refine T.F_NoClock_init.ok sc_NoClock_init (fun vs H Q E h => ?_) (fun cdv AA outer s H vs Q E hr h => ?_)
  · obtain ⟨a, v0, rfl, _⟩ := h
    rfl
  · obtain ⟨a, v0, rfl, ha, k⟩ := h
    have TX := exB_ok T.x_NoClock
    refine ⟨_, (pss_cons (ps_expr (pe_binit rfl T.m_BeatError (baseB_ok T.q_BeatError) (pa_cons (pv 0) (pa_cons pe_str pa_nil))))
      (pss_one (ps_ost (pv 0) (pv 1)))), ?_⟩
    exact err1_run TX.ox (TX.no _ (by decide +kernel)) ha k
/-! ### words: whole numbers, values -/
def sp_is_whole (K : PySem.W.Frag) : Sp := fun vs H Q _ => ∃ (v : V) (n : String) (b1 b2 : Bool), vs = [v] ∧ TyX K H v (.type n) ∧ kitB n "int" = some b1 ∧ kitB n "bool" = some b2 ∧ Q (.bl (b1 && !b2)) H
theorem u_whole_int {K : PySem.W.Frag} {H : Hp} {Q : VK} {E : XK} {i : Int} (q : Q (.bl true) H) : sp_is_whole K [.int i] H Q E := ⟨_, _, _, _, rfl, ty_int i, kb_ii, kb_ib, q⟩
theorem u_whole_bl {K : PySem.W.Frag} {H : Hp} {Q : VK} {E : XK} {i : Bool} (q : Q (.bl false) H) : sp_is_whole K [.bl i] H Q E := ⟨_, _, _, _, rfl, ty_bl i, kb_bi, kb_bb, q⟩
def sp_is_within (K : PySem.W.Frag) : Sp := fun vs H Q _ => ∃ (v : V) (lo hi : Int), vs = [v, .int lo, .int hi] ∧
  ((∃ i, v = .int i ∧ Q (.bl (decide (lo ≤ i) && decide (i ≤ hi))) H) ∨ ∃ (n : String) (b1 b2 : Bool), TyX K H v (.type n) ∧ kitB n "int" = some b1 ∧ kitB n "bool" = some b2 ∧ (b1 && !b2) = false ∧ Q (.bl false) H)
def sp_is_value (K : PySem.W.Frag) : Sp := fun vs H Q _ => ∃ (v : V), vs = [v] ∧
  ((∃ i, v = .int i ∧ Q (.bl (decide (-1000000000 ≤ i) && decide (i ≤ 1000000000))) H) ∨ (∃ b, v = .bl b ∧ Q (.bl true) H) ∨ ∃ (n : String), TyX K H v (.type n) ∧ kitB n "int" = some false ∧ kitB n "bool" = some false ∧ Q (.bl false) H)
theorem ok_is_whole (T : Txt K mg Z) : FnOk P w K mg base CX0 1 Z.f_is_whole Z.fd_is_whole ["thing"] (sp_is_whole K) := by
  refine T.F_is_whole.ok sc_is_whole (fun vs H Q E h => ?_) (fun cdv AA outer s H vs Q E hr h => ?_)
  · obtain ⟨v, n, b1, b2, rfl, _⟩ := h
    rfl
  · obtain ⟨v, n, b1, b2, rfl, ty, h1, h2, k⟩ := h
    refine ⟨_, (pss_one (ps_ret (pe_and (pe_callB call_isi (by rfl) T.n_isinstance (by decide +kernel) (pa_cons (pv 0) (pa_cons (pe_bltn (v := .ty "int") (by rfl) T.n_int (by decide +kernel) rfl) pa_nil))) (pe_one (pe_not (pe_callB call_isi (by rfl) T.n_isinstance (by decide +kernel) (pa_cons (pv 0) (pa_cons (pe_bltn (v := .ty "bool") (by rfl) T.n_bool (by decide +kernel) rfl) pa_nil)))))))), ?_⟩
    walk_at "ss"
    refine isi ty h1 ?_
    walk_at "ss"
    refine if_cs (fun hb => ?_) (fun hb => ?_)
    · walk_at "ss"
      refine isi ty h2 ?_
      walk_at "ss"
      subst hb
      exact k
    · walk_at "ss"
      subst hb
      exact k
theorem ok_is_within (T : Txt K mg Z) : FnOk P w K mg base CX0 2 Z.f_is_within Z.fd_is_within ["thing", "low", "high"] (sp_is_within K) := by
  have G_is_whole := ok_is_whole (P := P) (w := w) (base := base) T
  refine T.F_is_within.ok sc_is_within (fun vs H Q E h => ?_) (fun cdv AA outer s H vs Q E hr h => ?_)
  · obtain ⟨v, lo, hi, rfl, _⟩ := h
    rfl
  · obtain ⟨v, lo, hi, rfl, k⟩ := h
    refine ⟨_, (pss_one (ps_ret (pe_and (pe_call G_is_whole (hr.mono (by omega)) rfl T.g_is_whole T.F_is_whole.kp T.b_is_whole .nil pass0 (pa_cons (pv 0) pa_nil)) (pe_one (pe_chain op_le op_le (pv 1) (pv 0) (pv 2)))))), ?_⟩
    rcases k with ⟨i, rfl, k⟩ | ⟨n, b1, b2, ty, h1, h2, hb, k⟩
    · walk_at "ss"
      refine u_whole_int ?_
      walk_at "ss"
      refine if_cs (fun hb => ?_) (fun hb => ?_)
      · walk_at "ss"
        rw [hb] at k
        exact k
      · walk_at "ss"
        rw [hb] at k
        exact k
    · walk_at "ss"
      refine ⟨_, _, _, _, rfl, ty, h1, h2, ?_⟩
      walk_at "ss"
      exact if_ff hb k
theorem ok_is_value (T : Txt K mg Z) : FnOk P w K mg base CX0 3 Z.f_is_value Z.fd_is_value ["thing"] (sp_is_value K) := by
  have G_is_within := ok_is_within (P := P) (w := w) (base := base) T
  refine T.F_is_value.ok sc_is_value (fun vs H Q E h => ?_) (fun cdv AA outer s H vs Q E hr h => ?_)
  · obtain ⟨v, rfl, _⟩ := h
    rfl
  · obtain ⟨v, rfl, k⟩ := h
    refine ⟨_, (pss_one (ps_ret (pe_or (pe_callB call_isi (by rfl) T.n_isinstance (by decide +kernel) (pa_cons (pv 0) (pa_cons (pe_bltn (v := .ty "bool") (by rfl) T.n_bool (by decide +kernel) rfl) pa_nil))) (pe_one (pe_call G_is_within (hr.mono (by omega)) rfl T.g_is_within T.F_is_within.kp T.b_is_within .nil pass0 (pa_cons (pv 0) (pa_cons (pe_un un_neg (pe_gcst rfl T.c_MOST)) (pa_cons (pe_gcst rfl T.c_MOST) pa_nil)))))))), ?_⟩
    rcases k with ⟨i, rfl, k⟩ | ⟨b, rfl, k⟩ | ⟨n, ty, h1, h2, k⟩
    · walk_at "ss"
      refine isi (ty_int i) kb_ib ?_
      walk_at "ss"
      refine ⟨_, _, _, rfl, .inl ⟨_, rfl, ?_⟩⟩
      exact k
    · walk_at "ss"
      refine isi (ty_bl b) kb_bb ?_
      walk_at "ss"
      exact k
    · walk_at "ss"
      refine isi ty h2 ?_
      walk_at "ss"
      refine ⟨_, _, _, rfl, .inr ⟨_, _, _, ty, h1, h2, rfl, ?_⟩⟩
      exact k

/-! ### the law's cells and draws -/
def sp_cell_l (K : PySem.W.Frag) : Sp := fun vs H Q _ => ∃ (a : Addr) (ns : List Int) (k : Int), vs = [.ref a, .int k] ∧ SqL K H a (ns.map V.int) ∧ 0 ≤ k ∧ ∀ n, Q (.int n) H
def sp_begun_l : Sp := fun vs H Q _ => ∃ (c : Int), vs = [.int c] ∧ ∀ p H2, H p = none → Ex H H2 → BoxAt H2 p → Q (.ref p) H2
def sp_draw_l : Sp := fun vs H Q _ => ∃ (b : Addr) (m : Int), vs = [.ref b, .int m] ∧ BoxAt H b ∧ 0 < m ∧ m < 1073741824 ∧ ∀ d H2, 0 ≤ d → d < m → ExB b H H2 → BoxAt H2 b → Q (.int d) H2
theorem ok_cell_l (T : Txt K mg Z) : FnOk P w K mg base CX0 1 Z.f_cell_l Z.fd_cell_l ["_law_script", "_law_k"] (sp_cell_l K) := by
  refine T.F_cell_l.ok sc_cell_l (fun vs H Q E h => ?_) (fun cdv AA outer s H vs Q E hr h => ?_)
  · obtain ⟨a, ns, k, rfl, _⟩ := h
    rfl
  · obtain ⟨a, ns, k, rfl, hS, h0, q⟩ := h
    refine ⟨_, (pss_cons (ps_if (pt_cmpR op_lt (pv 1) (pe_callB call_len_seq (by rfl) T.n_len (by decide +kernel) (pa_cons (pv 0) pa_nil)) (nomark _)) (pss_one (ps_ret (pe_ix ix_list (pv 0) (pv 1) (fun _ _ => rfl)))) pss_nil)
      (pss_one (ps_ret (pe_op op_add (pe_op op_mul pe_int (pv 1)) pe_int)))), ?_⟩
    walk_at "ss"
    refine ⟨_, _, rfl, .inl hS, ?_⟩
    walk_at "ss"
    refine if_cs (fun hb => ?_) (fun hb => ?_)
    · walk_at "ss"
      obtain ⟨j, rfl⟩ := Int.eq_ofNat_of_zero_le h0
      have hl := of_decide_eq_true hb
      rw [List.length_map] at hl
      have hj : j < ns.length := by omega
      refine c_ixL hS (atI_nat (v := .int (ns[j]'hj)) ?_) (q _)
      rw [List.getElem?_map, List.getElem?_eq_getElem hj] <;> rfl
    · walk_at "ss"
      refine c_I (.inl ⟨by decide, by decide⟩) ?_
      walk_at "ss"
      exact q _
theorem ok_begun_l (T : Txt K mg Z) : FnOk P w K mg base CX0 1 Z.f_begun_l Z.fd_begun_l ["_law_cell_here"] sp_begun_l := by
  refine T.F_begun_l.ok sc_begun_l (fun vs H Q E h => ?_) (fun cdv AA outer s H vs Q E hr h => ?_)
  · obtain ⟨c, rfl, _⟩ := h
    rfl
  · obtain ⟨c, rfl, k⟩ := h
    refine ⟨_, (pss_cons (ps_if (pt_cmpR op_ge (pv 0) (pe_op op_pow pe_int pe_int) (nomark _)) (pss_one (ps_ret (pe_lst (pa_cons (pv 0) (pa_cons (pe_op op_mod (pv 0) pe_int) (pa_cons pe_int pa_nil)))))) pss_nil)
      (pss_one (ps_ret (pe_lst (pa_cons pe_int (pa_cons (pe_op op_mod (pv 0) pe_int) (pa_cons pe_int pa_nil))))))), ?_⟩
    walk_at "ss"
    refine c_I ⟨by decide, by decide, by decide⟩ ?_
    walk_at "ss"
    refine if_cs (fun hb => ?_) (fun _ => ?_)
    · have hc : (0 : Int) ≤ c := by
        have := of_decide_eq_true hb
        have h0 : (0 : Int) ≤ 10 ^ Int.toNat 18 := by decide
        omega
      walk_at "ss"
      refine c_I (by decide) ?_
      walk_at "ss"
      exact newL fun p H2 hp e2 h2 => k p H2 hp e2 ⟨_, _, _, hc, h2⟩
    · walk_at "ss"
      refine c_I (by decide) ?_
      walk_at "ss"
      exact newL fun p H2 hp e2 h2 => k p H2 hp e2 ⟨_, _, _, Int.le_refl _, h2⟩
theorem ix3_0 {a b c : V} : atI [a, b, c] 0 = some a := rfl
theorem ix3_1 {a b c : V} : atI [a, b, c] 1 = some b := rfl
theorem ix3_2 {a b c : V} : atI [a, b, c] 2 = some c := rfl
theorem emod_mul {a m : Int} (h : 0 < m) (hm : m < 1073741824 * 1073741824) {b : Int} : CMul (a % m) b := by
  have h1 := Int.emod_nonneg a (by omega : m ≠ 0)
  have h2 := Int.emod_lt_of_pos a h
  exact .inl ⟨by omega, by omega⟩
theorem ok_draw_l (T : Txt K mg Z) : FnOk P w K mg base CX0 1 Z.f_draw_l Z.fd_draw_l ["_law_well", "_law_many"] sp_draw_l := by
  refine T.F_draw_l.ok sc_draw_l (fun vs H Q E h => ?_) (fun cdv AA outer s H vs Q E hr h => ?_)
  · obtain ⟨b, m, rfl, _⟩ := h
    rfl
  · obtain ⟨b, m, rfl, ⟨x, y, z, hx, hB⟩, m0, m1, k⟩ := h
    refine ⟨_, (pss_cons (ps_if (pt_cmpR op_gt (pe_ix ix_list (pv 0) pe_int (fun _ _ => rfl)) pe_int (nomark _)) (pss_cons (ps_set (i := 2) sc_draw_l.nd rfl (Or.inl rfl) (pe_op op_mod (pe_ix ix_list (pv 0) pe_int (fun _ _ => rfl)) (pv 1)))
      (pss_cons (ps_asg (pe_op op_fdiv (pe_ix ix_list (pv 0) pe_int (fun _ _ => rfl)) (pv 1)) (pg_sub (pv 0) pe_int set_list))
      (pss_one (ps_ret (pv 2))))) pss_nil)
      (pss_cons (ps_asg (pe_op op_add (pe_ix ix_list (pv 0) pe_int (fun _ _ => rfl)) pe_int) (pg_sub (pv 0) pe_int set_list))
      (pss_cons (ps_set (i := 2) sc_draw_l.nd rfl (Or.inl rfl) (pe_op op_mod (pe_op op_add (pe_op op_add (pe_op op_mul (pe_ix ix_list (pv 0) pe_int (fun _ _ => rfl)) pe_int) (pe_op op_mul pe_int (pe_ix ix_list (pv 0) pe_int (fun _ _ => rfl)))) pe_int) pe_int))
      (pss_cons (ps_set (i := 2) sc_draw_l.nd rfl (Or.inl rfl) (pe_op op_mod (pe_op op_add (pe_op op_add (pe_op op_mul (pv 2) (pv 2)) (pe_op op_mul pe_int (pe_ix ix_list (pv 0) pe_int (fun _ _ => rfl)))) pe_int) pe_int))
      (pss_one (ps_ret (pe_op op_mod (pe_op op_mod (pe_op op_mul (pv 2) (pv 2)) pe_int) (pv 1)))))))), ?_⟩
    walk_at "ss"
    refine c_ixL (SqL.of hB) ix3_0 ?_
    walk_at "ss"
    refine if_cs (fun hb => ?_) (fun hb => ?_)
    · walk_at "ss"
      refine c_ixL (SqL.of hB) ix3_0 ?_
      walk_at "ss"
      refine c_I m0 ?_
      walk_at "ss"
      refine c_ixL (SqL.of hB) ix3_0 ?_
      walk_at "ss"
      refine c_I ⟨m0, m1⟩ ?_
      walk_at "ss"
      refine c_setL hB rfl ?_
      walk_at "ss"
      refine k _ _ (Int.emod_nonneg _ (by omega)) (Int.emod_lt_of_pos _ m0) ExB.upd ⟨_, _, _, Int.ediv_nonneg hx (by omega), upd_same⟩
    · walk_at "ss"
      refine c_ixL (SqL.of hB) ix3_2 ?_
      walk_at "ss"
      refine c_setL hB rfl ?_
      have hB2 : (upd H b (.lst [.int x, .int y, .int (z + 1)])) b = some (.lst [.int x, .int y, .int (z + 1)]) := upd_same
      walk_at "ss"
      refine c_ixL (SqL.of hB2) ix3_1 ?_
      walk_at "ss"
      refine c_I (.inr ⟨by decide, by decide⟩) ?_
      walk_at "ss"
      refine c_ixL (SqL.of hB2) ix3_2 ?_
      walk_at "ss"
      refine c_I (.inl ⟨by decide, by decide⟩) ?_
      walk_at "ss"
      refine c_I (by decide) ?_
      walk_at "ss"
      refine c_I (emod_mul (by decide) (by decide)) ?_
      walk_at "ss"
      refine c_ixL (SqL.of hB2) ix3_2 ?_
      walk_at "ss"
      refine c_I (.inl ⟨by decide, by decide⟩) ?_
      walk_at "ss"
      refine c_I (by decide) ?_
      walk_at "ss"
      refine c_I (emod_mul (by decide) (by decide)) ?_
      walk_at "ss"
      refine c_I (by decide) ?_
      walk_at "ss"
      refine c_I m0 ?_
      exact k _ _ (Int.emod_nonneg _ (by omega)) (Int.emod_lt_of_pos _ m0) ExB.upd ⟨_, _, _, hx, upd_same⟩

theorem box_ne {H : Hp} {b a : Addr} {o : HO} (h : BoxAt H b) (ha : H a = some o) (n : ∀ x y z : Int, o ≠ .lst [.int x, .int y, .int z]) : a ≠ b := by
  obtain ⟨x, y, z, _, q⟩ := h
  exact ne_of ha q (n x y z)
theorem at4 {v0 v1 v2 v3 : V} {d : Int} (h0 : 0 ≤ d) (h1 : d < 4) : ∃ v, atI [v0, v1, v2, v3] d = some v ∧ (d = 0 ∧ v = v0 ∨ d = 1 ∧ v = v1 ∨ d = 2 ∧ v = v2 ∨ d = 3 ∧ v = v3) := by
  have : d = 0 ∨ d = 1 ∨ d = 2 ∨ d = 3 := by omega
  rcases this with rfl | rfl | rfl | rfl
  · exact ⟨v0, rfl, .inl ⟨rfl, rfl⟩⟩
  · exact ⟨v1, rfl, .inr (.inl ⟨rfl, rfl⟩)⟩
  · exact ⟨v2, rfl, .inr (.inr (.inl ⟨rfl, rfl⟩))⟩
  · exact ⟨v3, rfl, .inr (.inr (.inr ⟨rfl, rfl⟩))⟩
/-- an item of a list that is asked by a draw: it is one of them -/
theorem at_in {xs : List V} {d : Int} (h0 : 0 ≤ d) (h1 : d < (xs.length : Int)) : ∃ v, atI xs d = some v ∧ v ∈ xs := by
  obtain ⟨j, rfl⟩ := Int.eq_ofNat_of_zero_le h0
  have hj : j < xs.length := by omega
  exact ⟨xs[j], atI_nat (List.getElem?_eq_getElem hj), List.getElem_mem hj⟩

/-! ### names -/
open TL (tl)
def ownW : List Str := ["node", "in", "out", "before", "when", "hold", "like", "same", "call", "true", "false", "mod", "beat", "desk"]
def ownV : List V := ownW.map V.str
def letC (c : Nat) : Bool := decide (97 ≤ c) && decide (c ≤ 122)
theorem tl_let : ∀ c : Nat, decide (c ∈ tl "abcdefghijklmnopqrstuvwxyz") = letC c := by
  intro c
  have e : tl "abcdefghijklmnopqrstuvwxyz" = [97, 98, 99, 100, 101, 102, 103, 104, 105, 106, 107, 108, 109, 110, 111, 112, 113, 114, 115, 116, 117, 118, 119, 120, 121, 122] := by decide +kernel
  rw [e]
  unfold letC
  rw [Bool.eq_iff_iff, decide_eq_true_eq, Bool.and_eq_true, decide_eq_true_eq, decide_eq_true_eq]
  simp only [List.mem_cons, List.not_mem_nil, or_false]
  omega
def isName (t : Str) : Bool := (decide (1 ≤ (t.length : Int)) && decide ((t.length : Int) ≤ 8)) && !inV (.str t) ownV && (tl t).all letC
def isPointed (t : Str) : Bool := decide ((t.length : Int) ≤ 80) && (Txt.split t ".").all isName
theorem kb_ss : kitB "str" "str" = some true := by decide +kernel
def sp_is_name (K : PySem.W.Frag) : Sp := fun vs H Q _ => ∃ (v : V), vs = [v] ∧ ((∃ t : Str, v = .str t ∧ t.length ≤ 50000 ∧ RetV (.bl (isName t)) H Q) ∨ ∃ n : String, TyX K H v (.type n) ∧ kitB n "str" = some false ∧ Q (.bl false) H)
theorem own_flat : ownV.all flatV = true := rfl
theorem ok_is_name (T : Txt K mg Z) : FnOk P w K mg base CX0 1 Z.f_is_name Z.fd_is_name ["thing"] (sp_is_name K) := by
  refine T.F_is_name.ok sc_is_name (fun vs H Q E h => ?_) (fun cdv AA outer s H vs Q E hr h => ?_)
  · obtain ⟨v, rfl, _⟩ := h
    rfl
  · obtain ⟨v, rfl, h⟩ := h
    refine ⟨_, (pss_cons (ps_if (PW.pt (pw_or (pt_not (pt_val (pe_callB call_isi (by rfl) T.n_isinstance (by decide +kernel) (pa_cons (pv 0) (pa_cons (pe_bltn (v := .ty "str") (by rfl) T.n_str (by decide +kernel) rfl) pa_nil))))) (pw_or (pt_not (pt_chain op_le op_le pe_int (pe_callB call_len_str (by rfl) T.n_len (by decide +kernel) (pa_cons (pv 0) pa_nil)) (pe_gcst rfl T.c_LONGEST))) (pw_or1 (pt_cmpR op_in_seq (pv 0) (pe_gcst rfl T.c_OWN) (by rfl)))))) (pss_one (ps_ret pe_bl)) pss_nil)
      (pss_one (ps_ret (pe_callB (cr_all rfl) (by rfl) T.n_all (by decide +kernel) (pa_cons (pe_lc (own := [("sign", 1)]) (g := (gName 1)) (tt := tYes) (te := (tOp (fun x y H Q => ∃ (c : Nat) (z : Str), x = .str ⟨#[c]⟩ ∧ y = .str z ∧ Q (.bl (decide (c ∈ z.cps.toList))) H) (tVar 1) (tC (.str "abcdefghijklmnopqrstuvwxyz")))) rfl sc_is_name.nd (pi_str (pv 0)) (blkOk_by (own := [("sign", 1)]) (N := N_is_name) (sc := defScope s_is_name) (by decide +kernel)) (fun _ _ _ _ _ => (pg_name (i := 1) sc_is_name.nd rfl (Or.inl rfl))) (fun _ _ _ _ _ => pts_nil) (fun _ _ _ _ _ => (pe_cmpR op_in_sign (pv 1) (pe_gcst rfl T.c_LETTERS) (by rfl)))) pa_nil))))), ?_⟩
    rcases h with ⟨t, rfl, hl, k⟩ | ⟨n, ty, kb, k⟩
    · unfold isName at k
      walk_at "ss"
      refine isi (ty_str t) kb_ss ?_
      walk_at "ss"
      refine ⟨Evl.sz_of (by omega), ?_⟩
      walk_at "ss"
      cases hlen : (decide (1 ≤ (t.length : Int)) && decide ((t.length : Int) ≤ 8)) with
      | false =>
        rw [hlen] at k
        refine if_cs (fun h1 => ?_) (fun h1 => ?_)
        · walk_at "ss"
          rw [h1, Bool.true_and] at hlen
          rw [hlen]
          walk_at "ss"
          exact k _ (Ex.refl _)
        · walk_at "ss"
          exact k _ (Ex.refl _)
      | true =>
        rw [hlen, Bool.true_and] at k
        rw [Bool.and_eq_true] at hlen
        rw [hlen.1]
        walk_at "ss"
        rw [hlen.2]
        walk_at "ss"
        refine c_in (.inr (T.t_OWN _)) rfl own_flat ?_
        refine ⟨_, rfl, if_cs (fun ho => ?_) (fun ho => ?_)⟩
        · have ho' : inV (.str t) ownV = true := ho
          rw [ho'] at k
          walk_at "ss"
          exact k _ (Ex.refl _)
        have ho' : inV (.str t) ownV = false := ho
        rw [ho', Bool.not_false, Bool.true_and] at k
        walk_at "ss"
        refine lcS (fun c => some (.bl (letC c))) hl (fun c hc => ?_) ?_
        · intro H2 e2 R hR
          walk_at "ss"
          rw [show decide (c ∈ (Str.ofString "abcdefghijklmnopqrstuvwxyz").cps.toList) = letC c from tl_let c]
          exact hR _ (Ex.refl _)
        rw [fm_some]
        intro p H2 hp e2 h2
        walk_at "ss"
        refine ⟨p, (tl t).map letC, rfl, SqL.of (by rw [h2, List.map_map]; rfl), ?_⟩
        have ea : ((tl t).map letC).all id = (tl t).all letC := by rw [List.all_map]; rfl
        rw [ea]
        exact k _ e2
    · walk_at "ss"
      refine isi ty kb ?_
      walk_at "ss"
      exact k
/-! parts of a split text -/
theorem spl_parts (S : List Nat) : ∀ (k : Nat) (acc l : List Nat) (p : List Nat), p ∈ TL.spl S k acc l → p.length ≤ acc.length + l.length ∧ ∀ c ∈ p, c ∈ acc ∨ c ∈ l := by
  intro k acc l
  induction l generalizing k acc with
  | nil =>
    intro p hp
    rw [TL.spl_nil] at hp
    have : p = acc := by simpa using hp
    subst this
    exact ⟨by simp, fun c hc => .inl hc⟩
  | cons a l ih =>
    intro p hp
    cases k with
    | succ k =>
      have hp' : p ∈ TL.spl S k acc l := hp
      obtain ⟨h1, h2⟩ := ih k acc p hp'
      exact ⟨by rw [List.length_cons]; omega, fun c hc => (h2 c hc).imp id (List.mem_cons_of_mem _)⟩
    | zero =>
      cases hh : TL.pre S (a :: l) with
      | true =>
        rw [TL.spl_hit hh] at hp
        rcases List.mem_cons.mp hp with rfl | hp
        · exact ⟨by omega, fun c hc => .inl hc⟩
        · obtain ⟨h1, h2⟩ := ih _ [] p hp
          exact ⟨by rw [List.length_nil] at h1; rw [List.length_cons]; omega, fun c hc => .inr (List.mem_cons_of_mem _ ((h2 c hc).resolve_left (by simp)))⟩
      | false =>
        rw [TL.spl_miss hh] at hp
        obtain ⟨h1, h2⟩ := ih 0 (acc ++ [a]) p hp
        refine ⟨by rw [List.length_append, List.length_singleton] at h1; rw [List.length_cons]; omega, fun c hc => ?_⟩
        rcases h2 c hc with h | h
        · rcases List.mem_append.mp h with h | h
          · exact .inl h
          · exact .inr (by have : c = a := by simpa using h
                           rw [this]; exact List.mem_cons_self)
        · exact .inr (List.mem_cons_of_mem _ h)
theorem split_pt {t p : Str} (h : p ∈ Txt.split t ".") : p.length ≤ t.length ∧ ∀ c ∈ tl p, c ∈ tl t := by
  have e := TL.split_spl t "." (by decide +kernel) (TL.kind_ok (by decide +kernel))
  have hm : tl p ∈ TL.spl (tl ".") 0 [] (tl t) := by
    rw [← e]
    exact List.mem_map_of_mem h
  obtain ⟨h1, h2⟩ := spl_parts _ _ _ _ _ hm
  rw [tl_len, tl_len, List.length_nil, Nat.zero_add] at h1
  exact ⟨h1, fun c hc => (h2 c hc).resolve_left (by simp)⟩
def sp_is_pointed (K : PySem.W.Frag) : Sp := fun vs H Q _ => ∃ (v : V), vs = [v] ∧ ((∃ t : Str, v = .str t ∧ t.length ≤ 40000 ∧ RetV (.bl (isPointed t)) H Q) ∨ ∃ n : String, TyX K H v (.type n) ∧ kitB n "str" = some false ∧ Q (.bl false) H)
theorem spl_count (S : List Nat) : ∀ (k : Nat) (acc l : List Nat), (TL.spl S k acc l).length ≤ l.length + 1 := by
  intro k acc l
  induction l generalizing k acc with
  | nil => rw [TL.spl_nil]; simp
  | cons a l ih =>
    cases k with
    | succ k => exact Nat.le_trans (ih k acc) (by rw [List.length_cons]; omega)
    | zero =>
      cases hh : TL.pre S (a :: l) with
      | true =>
        rw [TL.spl_hit hh, List.length_cons, List.length_cons]
        exact Nat.succ_le_succ (ih _ [])
      | false =>
        rw [TL.spl_miss hh, List.length_cons]
        exact Nat.le_trans (ih 0 _) (by omega)
theorem split_count {t : Str} : (Txt.split t ".").length ≤ t.length + 1 := by
  have e := TL.split_spl t "." (by decide +kernel) (TL.kind_ok (by decide +kernel))
  have h := spl_count (tl ".") 0 [] (tl t)
  rw [← e, List.length_map, tl_len] at h
  exact h
theorem ok_is_pointed (T : Txt K mg Z) : FnOk P w K mg base CX0 2 Z.f_is_pointed Z.fd_is_pointed ["thing"] (sp_is_pointed K) := by
  have G_is_name := ok_is_name (P := P) (w := w) (base := base) T
  refine T.F_is_pointed.ok sc_is_pointed (fun vs H Q E h => ?_) (fun cdv AA outer s H vs Q E hr h => ?_)
  · obtain ⟨v, rfl, _⟩ := h
    rfl
  · obtain ⟨v, rfl, h⟩ := h
    refine ⟨_, (pss_cons (ps_if (PW.pt (pw_or (pt_not (pt_val (pe_callB call_isi (by rfl) T.n_isinstance (by decide +kernel) (pa_cons (pv 0) (pa_cons (pe_bltn (v := .ty "str") (by rfl) T.n_str (by decide +kernel) rfl) pa_nil))))) (pw_or1 (pt_cmpR op_gt (pe_callB call_len_str (by rfl) T.n_len (by decide +kernel) (pa_cons (pv 0) pa_nil)) (pe_gcst rfl T.c_MOST_SIGNS) (nomark _))))) (pss_one (ps_ret pe_bl)) pss_nil)
      (pss_one (ps_ret (pe_callB (cr_all rfl) (by rfl) T.n_all (by decide +kernel) (pa_cons (pe_lc (own := [("part", 1)]) (g := (gName 1)) (tt := tYes) (te := (tCall (sp_is_name K) [] E0 (tCons (tVar 1) tNil))) rfl sc_is_pointed.nd (pi_list (pe_split (pv 0) pe_str)) (blkOk_by (own := [("part", 1)]) (N := N_is_pointed) (sc := defScope s_is_pointed) (by decide +kernel)) (fun _ _ _ _ _ => (pg_name (i := 1) sc_is_pointed.nd rfl (Or.inl rfl))) (fun _ _ _ _ _ => pts_nil) (fun _ _ _ _ _ => (pe_call G_is_name (hr.mono (by omega)) rfl T.g_is_name T.F_is_name.kp T.b_is_name .nil pass0 (pa_cons (pv 1) pa_nil)))) pa_nil))))), ?_⟩
    rcases h with ⟨t, rfl, hl, k⟩ | ⟨n, ty, kb, k⟩
    · unfold isPointed at k
      walk_at "ss"
      refine isi (ty_str t) kb_ss ?_
      walk_at "ss"
      refine ⟨Evl.sz_of (by omega), ?_⟩
      walk_at "ss"
      refine if_cs (fun h80 => ?_) (fun h80 => ?_)
      · have : ¬ (t.length : Int) ≤ 80 := by have := of_decide_eq_true h80; omega
        rw [decide_eq_false this] at k
        walk_at "ss"
        exact k _ (Ex.refl _)
      have : (t.length : Int) ≤ 80 := by have := of_decide_eq_false h80; omega
      rw [decide_eq_true this, Bool.true_and] at k
      walk_at "ss"
      refine ⟨⟨_, rfl⟩, ?_⟩
      walk_at "ss"
      refine ⟨Evl.sz_of (by omega), fun q hq => ?_⟩
      have f1 : Ex H (upd H q (.lst ((Txt.split t ".").map V.str))) := Ex.new hq
      generalize hH1 : upd H q (.lst ((Txt.split t ".").map V.str)) = H1 at f1
      have g1 : H1 q = some (.lst ((Txt.split t ".").map V.str)) := by rw [← hH1, upd_same]
      walk_at "ss"
      refine ⟨⟨_, SqL.of g1⟩, lcLv (fun v => match v with | .str p => some (.bl (isName p)) | _ => none) (SqL.of g1) (by have := split_count (t := t); rw [List.length_map]; omega) (fun v hv => ?_) ?_⟩
      · obtain ⟨p, hp, rfl⟩ := List.mem_map.mp hv
        have hpl := (split_pt hp).1
        intro H2 e2 R hR
        walk_at "ss"
        refine ⟨_, rfl, .inl ⟨_, rfl, by omega, fun H3 e3 => ?_⟩⟩
        exact hR _ e3
      have em : ((Txt.split t ".").map V.str).filterMap (fun v => match v with | .str p => some (V.bl (isName p)) | _ => none) = ((Txt.split t ".").map isName).map V.bl := by
        rw [List.filterMap_map, List.map_map]
        exact fm_some (F := fun p => V.bl (isName p)) _
      rw [em]
      intro p2 H2 hp2 e2 g2
      walk_at "ss"
      refine ⟨p2, (Txt.split t ".").map isName, rfl, SqL.of g2, ?_⟩
      have ea : ((Txt.split t ".").map isName).all id = (Txt.split t ".").all isName := by rw [List.all_map]; rfl
      rw [ea]
      exact k _ (f1.trans e2)
    · walk_at "ss"
      refine isi ty kb ?_
      walk_at "ss"
      exact k

/-! ### terms: the plain side -/
inductive Tm where
  | nm (s : Str)
  | vl (v : V)
  | two (op : Str) (a b : Tm)
  | nt (a : Tm)
  | pk (c a b : Tm)
def Tm.parts : Tm → List Tm
  | .two _ a b => [a, b]
  | .nt a => [a]
  | .pk c a b => [c, a, b]
  | _ => []
def Tm.dep : Tm → Nat
  | .nm _ => 1
  | .vl _ => 1
  | .two _ a b => 1 + max a.dep b.dep
  | .nt a => 1 + a.dep
  | .pk c a b => 1 + max (max c.dep a.dep) b.dep
def addN (found more : List Str) : List Str := found ++ more.filter fun n => !found.contains n
def Tm.names : Tm → List Str
  | .nm s => [s]
  | .vl _ => []
  | .two _ a b => addN (addN [] a.names) b.names
  | .nt a => addN [] a.names
  | .pk c a b => addN (addN (addN [] c.names) a.names) b.names
theorem Tm.names_parts (t : Tm) (h : ∀ s, t ≠ .nm s) : t.names = t.parts.foldl (fun acc p => addN acc p.names) [] := by
  cases t with
  | nm s => exact absurd rfl (h s)
  | vl v => rfl
  | two op a b => rfl
  | nt a => rfl
  | pk c a b => rfl
theorem Tm.dep_parts (t : Tm) : (t.dep : Int) = 1 + maxL (t.parts.map fun p => (p.dep : Int)) := by
  have m2 : ∀ a b : Nat, PySem.W.maxOf (a : Int) [(b : Int)] = ((max a b : Nat) : Int) := by
    intro a b
    show (if decide ((a : Int) < (b : Int)) = true then (b : Int) else (a : Int)) = _
    by_cases h : (a : Int) < (b : Int)
    · rw [if_pos (decide_eq_true h)]; omega
    · rw [if_neg (by rw [decide_eq_false h]; decide)]; omega
  have m3 : ∀ a b c : Nat, PySem.W.maxOf (a : Int) [(b : Int), (c : Int)] = ((max (max a b) c : Nat) : Int) := by
    intro a b c
    have h1 := m2 a b
    have h2 := m2 (max a b) c
    show PySem.W.maxOf (PySem.W.maxOf (a : Int) [(b : Int)]) [(c : Int)] = _
    rw [h1, h2]
  cases t with
  | nm s => rfl
  | vl v => rfl
  | two op a b =>
    show ((1 + max a.dep b.dep : Nat) : Int) = 1 + PySem.W.maxOf (a.dep : Int) [(b.dep : Int)]
    rw [m2]; omega
  | nt a =>
    show ((1 + a.dep : Nat) : Int) = 1 + (a.dep : Int)
    omega
  | pk c a b =>
    show ((1 + max (max c.dep a.dep) b.dep : Nat) : Int) = 1 + PySem.W.maxOf (c.dep : Int) [(a.dep : Int), (b.dep : Int)]
    rw [m3]; omega
theorem Tm.dep_pos (t : Tm) : 1 ≤ t.dep := by cases t <;> simp [Tm.dep] <;> omega
theorem Tm.dep_part {t p : Tm} (h : p ∈ t.parts) : p.dep + 1 ≤ t.dep := by
  cases t with
  | nm s => cases h
  | vl v => cases h
  | two op a b =>
    simp only [Tm.parts, List.mem_cons, List.not_mem_nil, or_false] at h
    rcases h with rfl | rfl <;> simp only [Tm.dep] <;> omega
  | nt a =>
    simp only [Tm.parts, List.mem_cons, List.not_mem_nil, or_false] at h
    subst h; simp only [Tm.dep]; omega
  | pk c a b =>
    simp only [Tm.parts, List.mem_cons, List.not_mem_nil, or_false] at h
    rcases h with rfl | rfl | rfl <;> simp only [Tm.dep] <;> omega
theorem Tm.parts_len (t : Tm) : t.parts.length ≤ 3 := by cases t <;> simp [Tm.parts]
/-! ### terms in the heap -/
def TermAt (Z : Adr) (H : Hp) : Tm → V → Prop
  | .nm s, v => ∃ a dx, v = .ref a ∧ H a = some (.ins Z.c_Name dx [("name", .str s)])
  | .vl x, v => ∃ a dx, v = .ref a ∧ H a = some (.ins Z.c_Value dx [("amount", x)])
  | .two op p q, v => ∃ a dx v1 v2, v = .ref a ∧ H a = some (.ins Z.c_Two dx [("op", .str op), ("one", v1), ("second", v2)]) ∧ TermAt Z H p v1 ∧ TermAt Z H q v2
  | .nt p, v => ∃ a dx v1, v = .ref a ∧ H a = some (.ins Z.c_Not dx [("one", v1)]) ∧ TermAt Z H p v1
  | .pk c p q, v => ∃ a dx v0 v1 v2, v = .ref a ∧ H a = some (.ins Z.c_Pick dx [("by", v0), ("one", v1), ("second", v2)]) ∧ TermAt Z H c v0 ∧ TermAt Z H p v1 ∧ TermAt Z H q v2
def InsK (H H2 : Hp) : Prop := ∀ a C dx fs, H a = some (.ins C dx fs) → H2 a = some (.ins C dx fs)
theorem TermAt.keep {Z : Adr} {H H2 : Hp} (e : InsK H H2) : ∀ {t : Tm} {v : V}, TermAt Z H t v → TermAt Z H2 t v := by
  intro t
  induction t with
  | nm s => rintro v ⟨a, dx, h1, h2⟩; exact ⟨a, dx, h1, e _ _ _ _ h2⟩
  | vl x => rintro v ⟨a, dx, h1, h2⟩; exact ⟨a, dx, h1, e _ _ _ _ h2⟩
  | two op p q ihp ihq => rintro v ⟨a, dx, v1, v2, h1, h2, h3, h4⟩; exact ⟨a, dx, v1, v2, h1, e _ _ _ _ h2, ihp h3, ihq h4⟩
  | nt p ihp => rintro v ⟨a, dx, v1, h1, h2, h3⟩; exact ⟨a, dx, v1, h1, e _ _ _ _ h2, ihp h3⟩
  | pk c p q ihc ihp ihq => rintro v ⟨a, dx, v0, v1, v2, h1, h2, h3, h4, h5⟩; exact ⟨a, dx, v0, v1, v2, h1, e _ _ _ _ h2, ihc h3, ihp h4, ihq h5⟩
theorem TermAt.up {Z : Adr} {H H2 : Hp} {t : Tm} {v : V} (h : TermAt Z H t v) (e : Ex H H2) : TermAt Z H2 t v := h.keep fun a C dx fs q => e _ _ q
theorem TermAt.upB {Z : Adr} {H H2 : Hp} {t : Tm} {v : V} {b : Addr} (h : TermAt Z H t v) (e : ExB b H H2) (hB : BoxAt H b) : TermAt Z H2 t v := h.keep fun a C dx fs q => e _ _ (box_ne hB q (fun _ _ _ z => by cases z)) q
def MC (Z : Adr) (C : Addr) : Prop := C = Z.c_Name ∨ C = Z.c_Value ∨ C = Z.c_Two ∨ C = Z.c_Not ∨ C = Z.c_Pick
/-- the class that a term is made of -/
def clsT (Z : Adr) : Tm → Addr
  | .nm _ => Z.c_Name
  | .vl _ => Z.c_Value
  | .two .. => Z.c_Two
  | .nt _ => Z.c_Not
  | .pk .. => Z.c_Pick
theorem clsT_MC (Z : Adr) (t : Tm) : MC Z (clsT Z t) := by
  cases t
  · exact .inl rfl
  · exact .inr (.inl rfl)
  · exact .inr (.inr (.inl rfl))
  · exact .inr (.inr (.inr (.inl rfl)))
  · exact .inr (.inr (.inr (.inr rfl)))
def fieldsOff (fs : List (Str × V)) : Prop := fs.lookup ("parts" : Str) = none ∧ fs.lookup ("names" : Str) = none ∧ fs.lookup ("levels" : Str) = none ∧ fs.lookup ("told" : Str) = none
theorem TermAt.cls {Z : Adr} {H : Hp} {t : Tm} {v : V} (h : TermAt Z H t v) : ∃ a dx fs, v = .ref a ∧ H a = some (.ins (clsT Z t) dx fs) ∧ fieldsOff fs := by
  have n1 : ∀ m f : Str, m ≠ f → (m == f) = false := fun m f h => by simpa using h
  cases t with
  | nm s =>
    obtain ⟨a, dx, h1, h2⟩ := h
    refine ⟨a, dx, _, h1, h2, ?_, ?_, ?_, ?_⟩ <;> (simp only [List.lookup]; rw [n1 _ _ (by decide +kernel)])
  | vl x =>
    obtain ⟨a, dx, h1, h2⟩ := h
    refine ⟨a, dx, _, h1, h2, ?_, ?_, ?_, ?_⟩ <;> (simp only [List.lookup]; rw [n1 _ _ (by decide +kernel)])
  | two op p q =>
    obtain ⟨a, dx, v1, v2, h1, h2, _⟩ := h
    refine ⟨a, dx, _, h1, h2, ?_, ?_, ?_, ?_⟩ <;> (simp only [List.lookup]; rw [n1 _ _ (by decide +kernel)]; simp only []; rw [n1 _ _ (by decide +kernel)]; simp only []; rw [n1 _ _ (by decide +kernel)])
  | nt p =>
    obtain ⟨a, dx, v1, h1, h2, _⟩ := h
    refine ⟨a, dx, _, h1, h2, ?_, ?_, ?_, ?_⟩ <;> (simp only [List.lookup]; rw [n1 _ _ (by decide +kernel)])
  | pk c p q =>
    obtain ⟨a, dx, v0, v1, v2, h1, h2, _⟩ := h
    refine ⟨a, dx, _, h1, h2, ?_, ?_, ?_, ?_⟩ <;> (simp only [List.lookup]; rw [n1 _ _ (by decide +kernel)]; simp only []; rw [n1 _ _ (by decide +kernel)]; simp only []; rw [n1 _ _ (by decide +kernel)])

/-! ### methods of terms: parts, levels, names -/
theorem lk_hd {f : Str} {v : V} {fs : List (Str × V)} : List.lookup f ((f, v) :: fs) = some v := by simp [List.lookup]
theorem lk_tl {f g : Str} {v : V} {fs : List (Str × V)} {r : Option V} (h : (f == g) = false) (k : List.lookup f fs = r) : List.lookup f ((g, v) :: fs) = r := by
  simp only [List.lookup, h]
  exact k
theorem put_tl {f g : Str} {v w : V} {fs : List (Str × V)} (h : decide (g = f) = false) : putF f v ((g, w) :: fs) = (g, w) :: putF f v fs := by rw [putF, if_neg (of_decide_eq_false h)]
theorem cls_two (T : Txt K mg Z) {t : Tm} (h : clsT Z t = Z.c_Two) : ∃ op a b, t = .two op a b := by
  cases t with
  | nm s => exact absurd h (difB_ne (i := 0) (j := 2) T.fact_dif rfl rfl (by decide))
  | vl s => exact absurd h (difB_ne (i := 1) (j := 2) T.fact_dif rfl rfl (by decide))
  | two op a b => exact ⟨_, _, _, rfl⟩
  | nt a => exact absurd h.symm (difB_ne (i := 2) (j := 3) T.fact_dif rfl rfl (by decide))
  | pk c a b => exact absurd h.symm (difB_ne (i := 2) (j := 4) T.fact_dif rfl rfl (by decide))
theorem cls_nt (T : Txt K mg Z) {t : Tm} (h : clsT Z t = Z.c_Not) : ∃ a, t = .nt a := by
  cases t with
  | nm s => exact absurd h (difB_ne (i := 0) (j := 3) T.fact_dif rfl rfl (by decide))
  | vl s => exact absurd h (difB_ne (i := 1) (j := 3) T.fact_dif rfl rfl (by decide))
  | two op a b => exact absurd h (difB_ne (i := 2) (j := 3) T.fact_dif rfl rfl (by decide))
  | nt a => exact ⟨_, rfl⟩
  | pk c a b => exact absurd h.symm (difB_ne (i := 3) (j := 4) T.fact_dif rfl rfl (by decide))
theorem cls_pk (T : Txt K mg Z) {t : Tm} (h : clsT Z t = Z.c_Pick) : ∃ c a b, t = .pk c a b := by
  cases t with
  | nm s => exact absurd h (difB_ne (i := 0) (j := 4) T.fact_dif rfl rfl (by decide))
  | vl s => exact absurd h (difB_ne (i := 1) (j := 4) T.fact_dif rfl rfl (by decide))
  | two op a b => exact absurd h (difB_ne (i := 2) (j := 4) T.fact_dif rfl rfl (by decide))
  | nt a => exact absurd h (difB_ne (i := 3) (j := 4) T.fact_dif rfl rfl (by decide))
  | pk c a b => exact ⟨_, _, _, rfl⟩
theorem cls_nm (T : Txt K mg Z) {t : Tm} (h : clsT Z t = Z.c_Name) : ∃ s, t = .nm s := by
  cases t with
  | nm s => exact ⟨_, rfl⟩
  | vl s => exact absurd h.symm (difB_ne (i := 0) (j := 1) T.fact_dif rfl rfl (by decide))
  | two op a b => exact absurd h.symm (difB_ne (i := 0) (j := 2) T.fact_dif rfl rfl (by decide))
  | nt a => exact absurd h.symm (difB_ne (i := 0) (j := 3) T.fact_dif rfl rfl (by decide))
  | pk c a b => exact absurd h.symm (difB_ne (i := 0) (j := 4) T.fact_dif rfl rfl (by decide))
theorem cls_vl (T : Txt K mg Z) {t : Tm} (h : clsT Z t = Z.c_Value) : ∃ s, t = .vl s := by
  cases t with
  | nm s => exact absurd h (difB_ne (i := 0) (j := 1) T.fact_dif rfl rfl (by decide))
  | vl s => exact ⟨_, rfl⟩
  | two op a b => exact absurd h.symm (difB_ne (i := 1) (j := 2) T.fact_dif rfl rfl (by decide))
  | nt a => exact absurd h.symm (difB_ne (i := 1) (j := 3) T.fact_dif rfl rfl (by decide))
  | pk c a b => exact absurd h.symm (difB_ne (i := 1) (j := 4) T.fact_dif rfl rfl (by decide))
def PartsAt (Z : Adr) (H : Hp) : List Tm → List V → Prop
  | [], [] => True
  | t :: ts, v :: vs => TermAt Z H t v ∧ PartsAt Z H ts vs
  | _, _ => False
theorem PartsAt.len {Z : Adr} {H : Hp} : ∀ {ts : List Tm} {vs : List V}, PartsAt Z H ts vs → vs.length = ts.length
  | [], [], _ => rfl
  | t :: ts, v :: vs, h => by rw [List.length_cons, List.length_cons, PartsAt.len h.2]
theorem PartsAt.at {Z : Adr} {H : Hp} : ∀ {ts : List Tm} {vs : List V} {i : Nat} {v : V}, PartsAt Z H ts vs → vs[i]? = some v → ∃ t, ts[i]? = some t ∧ TermAt Z H t v
  | [], [], i, v, _, h => by simp at h
  | t :: ts, w :: vs, 0, v, h, e => by
    have : w = v := by simpa using e
    subst this
    exact ⟨t, rfl, h.1⟩
  | t :: ts, w :: vs, i + 1, v, h, e => by
    rw [List.getElem?_cons_succ] at e
    obtain ⟨t2, h2, h3⟩ := PartsAt.at h.2 e
    exact ⟨t2, by rw [List.getElem?_cons_succ]; exact h2, h3⟩
theorem PartsAt.up {Z : Adr} {H H2 : Hp} (e : Ex H H2) : ∀ {ts : List Tm} {vs : List V}, PartsAt Z H ts vs → PartsAt Z H2 ts vs
  | [], [], _ => True.intro
  | t :: ts, v :: vs, h => ⟨h.1.up e, PartsAt.up e h.2⟩
def spk_parts (Z : Adr) (S : Tm → Prop) : Sp := fun vs H Q _ => ∃ t v, vs = [v] ∧ TermAt Z H t v ∧ S t ∧ ∀ ws p H2, H p = none → Ex H H2 → H2 p = some (.lst ws) → PartsAt Z H2 t.parts ws → Q (.ref p) H2
def spm_parts (Z : Adr) (C : Addr) : Sp := spk_parts Z fun t => clsT Z t = C
theorem ok_Term_parts (T : Txt K mg Z) : FnOk P w K mg base CX0 1 Z.f_Term_parts Z.fd_Term_parts ["self"] (spk_parts Z fun t => t.parts = []) := by
  refine T.F_Term_parts.ok sc_Term_parts (fun vs H Q E h => ?_) (fun cdv AA outer s H vs Q E hr h => ?_)
  · obtain ⟨t, v, rfl, _⟩ := h
    rfl
  · obtain ⟨t, v, rfl, ht, hp, k⟩ := h
    refine ⟨_, (pss_one (ps_ret (pe_lst pa_nil))), ?_⟩
    walk_at "ss"
    refine newL fun p H2 h0 e2 g2 => k _ p H2 h0 e2 g2 ?_
    rw [hp]
    exact True.intro
theorem ok_Two_parts (T : Txt K mg Z) : FnOk P w K mg base CX0 1 Z.f_Two_parts Z.fd_Two_parts ["self"] (spk_parts Z fun t => ∃ op a b, t = .two op a b) := by
  refine T.F_Two_parts.ok sc_Two_parts (fun vs H Q E h => ?_) (fun cdv AA outer s H vs Q E hr h => ?_)
  · obtain ⟨t, v, rfl, _⟩ := h
    rfl
  · obtain ⟨t, v, rfl, ht, ⟨op, x, y, rfl⟩, k⟩ := h
    have TX := tcB_ok T.x_Two
    obtain ⟨a, dx, v1, v2, rfl, ha, h1, h2⟩ := ht
    refine ⟨_, (pss_one (ps_ret (pe_lst (pa_cons (pe_fld (pv 0) (by rfl)) (pa_cons (pe_fld (pv 0) (by rfl)) pa_nil))))), ?_⟩
    walk_at "ss"
    refine ⟨_, _, _, _, _, rfl, ha, TX.cl, TX.no _ (by decide +kernel), lk_tl (by decide +kernel) lk_hd, ?_⟩
    walk_at "ss"
    refine ⟨_, _, _, _, _, rfl, ha, TX.cl, TX.no _ (by decide +kernel), lk_tl (by decide +kernel) (lk_tl (by decide +kernel) lk_hd), ?_⟩
    walk_at "ss"
    exact newL fun p H2 h0 e2 g2 => k _ p H2 h0 e2 g2 ⟨h1.up e2, h2.up e2, True.intro⟩
theorem ok_Not_parts (T : Txt K mg Z) : FnOk P w K mg base CX0 1 Z.f_Not_parts Z.fd_Not_parts ["self"] (spk_parts Z fun t => ∃ a, t = .nt a) := by
  refine T.F_Not_parts.ok sc_Not_parts (fun vs H Q E h => ?_) (fun cdv AA outer s H vs Q E hr h => ?_)
  · obtain ⟨t, v, rfl, _⟩ := h
    rfl
  · obtain ⟨t, v, rfl, ht, ⟨x, rfl⟩, k⟩ := h
    have TX := tcB_ok T.x_Not
    obtain ⟨a, dx, v1, rfl, ha, h1⟩ := ht
    refine ⟨_, (pss_one (ps_ret (pe_lst (pa_cons (pe_fld (pv 0) (by rfl)) pa_nil)))), ?_⟩
    walk_at "ss"
    refine ⟨_, _, _, _, _, rfl, ha, TX.cl, TX.no _ (by decide +kernel), lk_hd, ?_⟩
    walk_at "ss"
    exact newL fun p H2 h0 e2 g2 => k _ p H2 h0 e2 g2 ⟨h1.up e2, True.intro⟩
theorem ok_Pick_parts (T : Txt K mg Z) : FnOk P w K mg base CX0 1 Z.f_Pick_parts Z.fd_Pick_parts ["self"] (spk_parts Z fun t => ∃ c a b, t = .pk c a b) := by
  refine T.F_Pick_parts.ok sc_Pick_parts (fun vs H Q E h => ?_) (fun cdv AA outer s H vs Q E hr h => ?_)
  · obtain ⟨t, v, rfl, _⟩ := h
    rfl
  · obtain ⟨t, v, rfl, ht, ⟨c, x, y, rfl⟩, k⟩ := h
    have TX := tcB_ok T.x_Pick
    obtain ⟨a, dx, v0, v1, v2, rfl, ha, h0, h1, h2⟩ := ht
    refine ⟨_, (pss_one (ps_ret (pe_lst (pa_cons (pe_fld (pv 0) (by rfl)) (pa_cons (pe_fld (pv 0) (by rfl)) (pa_cons (pe_fld (pv 0) (by rfl)) pa_nil)))))), ?_⟩
    walk_at "ss"
    refine ⟨_, _, _, _, _, rfl, ha, TX.cl, TX.no _ (by decide +kernel), lk_hd, ?_⟩
    walk_at "ss"
    refine ⟨_, _, _, _, _, rfl, ha, TX.cl, TX.no _ (by decide +kernel), lk_tl (by decide +kernel) lk_hd, ?_⟩
    walk_at "ss"
    refine ⟨_, _, _, _, _, rfl, ha, TX.cl, TX.no _ (by decide +kernel), lk_tl (by decide +kernel) (lk_tl (by decide +kernel) lk_hd), ?_⟩
    walk_at "ss"
    exact newL fun p H2 hp e2 g2 => k _ p H2 hp e2 g2 ⟨h0.up e2, h1.up e2, h2.up e2, True.intro⟩
theorem gm_parts (T : Txt K mg Z) : ∀ C, MC Z C → MOk P w K mg base CX0 1 C "parts" (spm_parts Z C) := by
  rintro C (rfl | rfl | rfl | rfl | rfl)
  · exact ⟨(tcB_ok T.x_Name).cl, _, _, _, ⟨T.h_parts_Name, T.y_Term_parts, T.F_Term_parts.kp⟩, (ok_Term_parts T).imp fun vs H Q E ⟨t, v, e, h, hc, k⟩ => ⟨t, v, e, h, (by obtain ⟨s, rfl⟩ := cls_nm T hc; rfl), k⟩, T.b_Term_parts⟩
  · exact ⟨(tcB_ok T.x_Value).cl, _, _, _, ⟨T.h_parts_Value, T.y_Term_parts, T.F_Term_parts.kp⟩, (ok_Term_parts T).imp fun vs H Q E ⟨t, v, e, h, hc, k⟩ => ⟨t, v, e, h, (by obtain ⟨s, rfl⟩ := cls_vl T hc; rfl), k⟩, T.b_Term_parts⟩
  · exact ⟨(tcB_ok T.x_Two).cl, _, _, _, ⟨T.h_parts_Two, T.y_Two_parts, T.F_Two_parts.kp⟩, (ok_Two_parts T).imp fun vs H Q E ⟨t, v, e, h, hc, k⟩ => ⟨t, v, e, h, cls_two T hc, k⟩, T.b_Two_parts⟩
  · exact ⟨(tcB_ok T.x_Not).cl, _, _, _, ⟨T.h_parts_Not, T.y_Not_parts, T.F_Not_parts.kp⟩, (ok_Not_parts T).imp fun vs H Q E ⟨t, v, e, h, hc, k⟩ => ⟨t, v, e, h, cls_nt T hc, k⟩, T.b_Not_parts⟩
  · exact ⟨(tcB_ok T.x_Pick).cl, _, _, _, ⟨T.h_parts_Pick, T.y_Pick_parts, T.F_Pick_parts.kp⟩, (ok_Pick_parts T).imp fun vs H Q E ⟨t, v, e, h, hc, k⟩ => ⟨t, v, e, h, cls_pk T hc, k⟩, T.b_Pick_parts⟩
/-! levels -/
def spt_levels (Z : Adr) (n : Nat) : Sp := fun vs H Q _ => ∃ t v, vs = [v] ∧ TermAt Z H t v ∧ t.dep ≤ n ∧ RetV (.int (t.dep : Nat)) H Q
def spm_levels (Z : Adr) (n : Nat) (C : Addr) : Sp := spt_levels Z n
theorem ok_Term_levels (T : Txt K mg Z) {n : Nat} (GM_parts : ∀ C, MC Z C → MOk P w K mg base CX0 1 C "parts" (spm_parts Z C)) (GM_levels : ∀ C, MC Z C → MOk P w K mg base CX0 (n + 2) C "levels" (spm_levels Z n C)) : FnOk P w K mg base CX0 (n + 3) Z.f_Term_levels Z.fd_Term_levels ["self"] (spt_levels Z (n + 1)) := by
  refine T.F_Term_levels.ok sc_Term_levels (fun vs H Q E h => ?_) (fun cdv AA outer s H vs Q E hr h => ?_)
  · obtain ⟨t, v, rfl, _⟩ := h
    rfl
  · obtain ⟨t, v, rfl, ht, hd, k⟩ := h
    obtain ⟨a, dx, fs, rfl, ha, l1, l2, l3, l4⟩ := ht.cls
    refine ⟨_, (pss_one (ps_ret (pe_op op_add pe_int (pe_callBK (call_maxD hr) (by rfl) T.n_max (by decide +kernel) (pa_cons (pe_lc (own := [("part", 1)]) (g := (gName 1)) (tt := tYes) (te := (tMP (MC Z) "levels" (spm_levels Z n) E0 (tVar 1) tNil)) rfl sc_Term_levels.nd (pi_list (pe_methP0 (pv 0) GM_parts (hr.mono (by omega)) pass0)) (blkOk_by (own := [("part", 1)]) (N := N_Term_levels) (sc := defScope s_Term_levels) (by decide +kernel)) (fun _ _ _ _ _ => (pg_name (i := 1) sc_Term_levels.nd rfl (Or.inl rfl))) (fun _ _ _ _ _ => pts_nil) (fun _ _ _ _ _ => (pe_methP0 (pv 1) GM_levels (hr.mono (by omega)) pass0))) pa_nil) (pk_cons pe_int pk_nil))))), ?_⟩
    walk_at "ss"
    refine ⟨a, _, dx, fs, rfl, ha, clsT_MC Z t, l1, ?_⟩
    walk_at "ss"
    refine ⟨t, _, rfl, ht, rfl, fun ws p H2 hp e2 g2 hw => ?_⟩
    have hl := hw.len
    have hl3 := t.parts_len
    refine ⟨p, rfl, ⟨_, SqL.of g2⟩, lcL (fun i => (t.parts[i]?).bind fun q => some (.int (q.dep : Nat))) (SqL.of g2) (by omega) (fun i x hx => ?_) ?_⟩
    · obtain ⟨q, hq, hqx⟩ := hw.at hx
      intro H3 e3 R hR
      have hqx3 := hqx.up e3
      obtain ⟨a4, dx4, fs4, rfl, ha4, m1, m2, m3, m4⟩ := hqx3.cls
      walk_at "ss"
      refine ⟨a4, _, dx4, fs4, rfl, ha4, clsT_MC Z q, m3, ?_⟩
      walk_at "ss"
      have := Tm.dep_part (List.mem_of_getElem? hq)
      refine ⟨q, _, rfl, hqx3, by omega, fun H4 e4 => ?_⟩
      rw [hq] at hR
      exact hR _ e4
    rw [hl, fm_range, fm_some]
    intro p3 H3 hp3 e3 g3
    walk_at "ss"
    have em : t.parts.map (fun q => V.int (q.dep : Nat)) = (t.parts.map fun q => ((q.dep : Nat) : Int)).map V.int := by rw [List.map_map]; rfl
    rw [em] at g3
    have ed := t.dep_parts
    refine ⟨p3, _, _, rfl, rfl, SqL.of g3, fun e0 => ?_, fun y ys e0 => ?_⟩
    · walk_at "ss"
      rw [e0] at ed
      have e1 : (1 : Int) + 0 = (t.dep : Nat) := by rw [ed]; rfl
      rw [e1]
      exact k _ (e2.trans e3)
    · walk_at "ss"
      rw [e0] at ed
      have e1 : (1 : Int) + PySem.W.maxOf y ys = (t.dep : Nat) := by rw [ed]; rfl
      rw [e1]
      exact k _ (e2.trans e3)
theorem mok_none {n k : Nat} {C : Addr} {m : Str} {f : Addr} {fd : FuncData} {ps : List Str} {sp : Sp} (cl : Cls K C) (hm : Meth K C m f) (hb : Binds K fd ps []) (h : ∀ vs H Q E, ¬ sp vs H Q E) : MOk P w K mg base CX0 k C m sp :=
  ⟨cl, f, fd, ps, hm, ⟨fun vs H Q E q => (h _ _ _ _ q).elim, fun _ _ _ _ _ _ _ _ _ _ _ _ _ q => (h _ _ _ _ q).elim⟩, hb⟩
theorem gm_levels (T : Txt K mg Z) : ∀ n, ∀ C, MC Z C → MOk P w K mg base CX0 (n + 2) C "levels" (spm_levels Z n C) := by
  intro n
  induction n with
  | zero =>
    have hN : ∀ vs H Q E, ¬ spt_levels Z 0 vs H Q E := fun vs H Q E ⟨t, v, _, _, hd, _⟩ => by have := t.dep_pos; omega
    rintro C (rfl | rfl | rfl | rfl | rfl)
    · exact mok_none (n := 0) (tcB_ok T.x_Name).cl ⟨T.h_levels_Name, T.y_Term_levels, T.F_Term_levels.kp⟩ T.b_Term_levels hN
    · exact mok_none (n := 0) (tcB_ok T.x_Value).cl ⟨T.h_levels_Value, T.y_Term_levels, T.F_Term_levels.kp⟩ T.b_Term_levels hN
    · exact mok_none (n := 0) (tcB_ok T.x_Two).cl ⟨T.h_levels_Two, T.y_Term_levels, T.F_Term_levels.kp⟩ T.b_Term_levels hN
    · exact mok_none (n := 0) (tcB_ok T.x_Not).cl ⟨T.h_levels_Not, T.y_Term_levels, T.F_Term_levels.kp⟩ T.b_Term_levels hN
    · exact mok_none (n := 0) (tcB_ok T.x_Pick).cl ⟨T.h_levels_Pick, T.y_Term_levels, T.F_Term_levels.kp⟩ T.b_Term_levels hN
  | succ n ih =>
    have F := ok_Term_levels (P := P) (w := w) (base := base) T (gm_parts T) ih
    rintro C (rfl | rfl | rfl | rfl | rfl)
    · exact ⟨(tcB_ok T.x_Name).cl, _, _, _, ⟨T.h_levels_Name, T.y_Term_levels, T.F_Term_levels.kp⟩, F, T.b_Term_levels⟩
    · exact ⟨(tcB_ok T.x_Value).cl, _, _, _, ⟨T.h_levels_Value, T.y_Term_levels, T.F_Term_levels.kp⟩, F, T.b_Term_levels⟩
    · exact ⟨(tcB_ok T.x_Two).cl, _, _, _, ⟨T.h_levels_Two, T.y_Term_levels, T.F_Term_levels.kp⟩, F, T.b_Term_levels⟩
    · exact ⟨(tcB_ok T.x_Not).cl, _, _, _, ⟨T.h_levels_Not, T.y_Term_levels, T.F_Term_levels.kp⟩, F, T.b_Term_levels⟩
    · exact ⟨(tcB_ok T.x_Pick).cl, _, _, _, ⟨T.h_levels_Pick, T.y_Term_levels, T.F_Term_levels.kp⟩, F, T.b_Term_levels⟩

/-! names -/
theorem PartsAt.keep {Z : Adr} {H H2 : Hp} (e : InsK H H2) : ∀ {ts : List Tm} {vs : List V}, PartsAt Z H ts vs → PartsAt Z H2 ts vs
  | [], [], _ => True.intro
  | t :: ts, v :: vs, h => ⟨h.1.keep e, PartsAt.keep e h.2⟩
theorem InsK.lst {H : Hp} {f : Addr} {xs : List V} {o : HO} (h : H f = some (.lst xs)) : InsK H (upd H f o) := fun a C dx fs ha => by
  rw [upd_ne (ne_of ha h (fun z => by cases z))]
  exact ha
theorem addN_len (a b : List Str) : (addN a b).length ≤ a.length + b.length := by
  unfold addN
  rw [List.length_append]
  have := List.length_filter_le (fun n => !a.contains n) b
  omega
theorem Tm.names_len (t : Tm) : t.names.length ≤ 3 ^ t.dep := by
  induction t with
  | nm s => simp [Tm.names, Tm.dep]
  | vl v => simp [Tm.names, Tm.dep]
  | two op a b iha ihb =>
    have h1 := addN_len [] a.names
    have h2 := addN_len (addN [] a.names) b.names
    have p1 : 3 ^ a.dep ≤ 3 ^ max a.dep b.dep := Nat.pow_le_pow_right (by decide) (by omega)
    have p2 : 3 ^ b.dep ≤ 3 ^ max a.dep b.dep := Nat.pow_le_pow_right (by decide) (by omega)
    have e : 3 ^ (1 + max a.dep b.dep) = 3 * 3 ^ max a.dep b.dep := by rw [Nat.pow_add]
    show (addN (addN [] a.names) b.names).length ≤ 3 ^ (1 + max a.dep b.dep)
    rw [e]
    simp only [List.length_nil] at h1
    omega
  | nt a iha =>
    have h1 := addN_len [] a.names
    have e : 3 ^ (1 + a.dep) = 3 * 3 ^ a.dep := by rw [Nat.pow_add]
    show (addN [] a.names).length ≤ 3 ^ (1 + a.dep)
    rw [e]
    simp only [List.length_nil] at h1
    omega
  | pk c a b ihc iha ihb =>
    have h0 := addN_len [] c.names
    have h1 := addN_len (addN [] c.names) a.names
    have h2 := addN_len (addN (addN [] c.names) a.names) b.names
    have p0 : 3 ^ c.dep ≤ 3 ^ max (max c.dep a.dep) b.dep := Nat.pow_le_pow_right (by decide) (by omega)
    have p1 : 3 ^ a.dep ≤ 3 ^ max (max c.dep a.dep) b.dep := Nat.pow_le_pow_right (by decide) (by omega)
    have p2 : 3 ^ b.dep ≤ 3 ^ max (max c.dep a.dep) b.dep := Nat.pow_le_pow_right (by decide) (by omega)
    have e : 3 ^ (1 + max (max c.dep a.dep) b.dep) = 3 * 3 ^ max (max c.dep a.dep) b.dep := by rw [Nat.pow_add]
    show (addN (addN (addN [] c.names) a.names) b.names).length ≤ 3 ^ (1 + max (max c.dep a.dep) b.dep)
    rw [e]
    simp only [List.length_nil] at h0
    omega
theorem names_729 {t : Tm} (h : t.dep ≤ 6) : t.names.length ≤ 729 := by
  have h1 := t.names_len
  have h2 : 3 ^ t.dep ≤ 3 ^ 6 := Nat.pow_le_pow_right (by decide) h
  have e : (3 : Nat) ^ 6 = 729 := rfl
  omega
theorem inV_str {n : Str} : ∀ {F : List Str}, inV (.str n) (F.map V.str) = F.contains n
  | [] => rfl
  | a :: F => by
    have ih := inV_str (n := n) (F := F)
    unfold inV at ih ⊢
    rw [List.map_cons, List.any_cons, ih, List.contains_cons]
    show (a == n || F.contains n) = (n == a || F.contains n)
    rw [Bool.beq_comm]
theorem fm_new {F : List Str} : ∀ {l : List Str}, (l.map V.str).filterMap (fun x => if inV x (F.map V.str) then none else some x) = (l.filter fun n => !F.contains n).map V.str
  | [] => rfl
  | a :: l => by
    rw [List.map_cons, List.filterMap_cons, inV_str, List.filter_cons, fm_new]
    cases F.contains a <;> rfl
theorem flat_strs : ∀ {F : List Str}, (F.map V.str).all flatV = true
  | [] => rfl
  | a :: F => by rw [List.map_cons, List.all_cons, flat_strs] <;> rfl
def spt_names (Z : Adr) (n : Nat) (S : Tm → Prop) : Sp := fun vs H Q _ => ∃ t v, vs = [v] ∧ TermAt Z H t v ∧ S t ∧ t.dep ≤ n ∧ t.dep ≤ 6 ∧ RetL (t.names.map V.str) H Q
def spm_names (Z : Adr) (n : Nat) (C : Addr) : Sp := spt_names Z n fun t => clsT Z t = C
theorem ok_Name_names (T : Txt K mg Z) : FnOk P w K mg base CX0 1 Z.f_Name_names Z.fd_Name_names ["self"] (spt_names Z 1 fun t => ∃ s, t = .nm s) := by
  refine T.F_Name_names.ok sc_Name_names (fun vs H Q E h => ?_) (fun cdv AA outer s H vs Q E hr h => ?_)
  · obtain ⟨t, v, rfl, _⟩ := h
    rfl
  · obtain ⟨t, v, rfl, ht, ⟨s, rfl⟩, _, _, k⟩ := h
    have TX := tcB_ok T.x_Name
    obtain ⟨a, dx, rfl, ha⟩ := ht
    refine ⟨_, (pss_one (ps_ret (pe_lst (pa_cons (pe_fld (pv 0) (by rfl)) pa_nil)))), ?_⟩
    walk_at "ss"
    refine ⟨_, _, _, _, _, rfl, ha, TX.cl, TX.no _ (by decide +kernel), lk_hd, ?_⟩
    walk_at "ss"
    exact newL k
theorem ok_Term_names (T : Txt K mg Z) {n : Nat} (GM_parts : ∀ C, MC Z C → MOk P w K mg base CX0 1 C "parts" (spm_parts Z C)) (GM_names : ∀ C, MC Z C → MOk P w K mg base CX0 (n + 2) C "names" (spm_names Z n C)) : FnOk P w K mg base CX0 (n + 3) Z.f_Term_names Z.fd_Term_names ["self"] (spt_names Z (n + 1) fun t => ∀ s, t ≠ .nm s) := by
  refine T.F_Term_names.ok sc_Term_names (fun vs H Q E h => ?_) (fun cdv AA outer s H vs Q E hr h => ?_)
  · obtain ⟨t, v, rfl, _⟩ := h
    rfl
  · obtain ⟨t, v, rfl, ht, hS, hd, h6, k⟩ := h
    obtain ⟨a, dx, fs, rfl, ha, l1, l2, l3, l4⟩ := ht.cls
    refine ⟨_, (pss_cons (ps_set (i := 1) sc_Term_names.nd rfl (Or.inr rfl) (pe_lst pa_nil))
      (pss_cons (ps_for PassesOwn.never rfl (pi_list (pe_methP0 (pv 0) GM_parts (hr.mono (by omega)) pass0)) (pg_name (i := 2) sc_Term_names.nd rfl (Or.inl rfl)) (pss_one (ps_expr (pe_bm PySem.F.plainAttrs_list PySem.F.slot_list_extend PySem.F.type_list_extend mt_extend (pv 1) (pa_cons (pe_lc (own := [("name", 3)]) (g := (gName 3)) (tt := (tTest (tOp (rIn K true) (tVar 3) (tVar 1)))) (te := (tVar 3)) rfl sc_Term_names.nd (pi_list (pe_methP0 (pv 2) GM_names (hr.mono (by omega)) pass0)) (blkOk_by (own := [("name", 3)]) (N := N_Term_names) (sc := defScope s_Term_names) (by decide +kernel)) (fun _ _ _ _ _ => (pg_name (i := 3) sc_Term_names.nd rfl (Or.inl rfl))) (fun _ _ _ _ _ => (pts_one (pt_cmpR op_notIn_seq (pv 3) (pv 1) (by rfl)))) (fun _ _ _ _ _ => (pv 3))) pa_nil)))))
      (pss_one (ps_ret (pv 1))))), ?_⟩
    walk_at "ss"
    refine newL fun f H1 hf e1 g1 => ?_
    walk_at "ss"
    refine ⟨a, _, dx, fs, rfl, e1 _ _ ha, clsT_MC Z t, l1, ?_⟩
    walk_at "ss"
    refine ⟨t, _, rfl, ht.up e1, rfl, fun ws p H2 hp e2 g2 hw => ?_⟩
    have nfp : f ≠ p := ne_of_none g1 hp
    have hwl := hw.len
    refine ⟨p, rfl, ⟨_, SqL.of g2⟩, forL (xs := ws) (fun i σ' G => (∃ v2 v3, σ' = [some (.ref a), some (.ref f), v2, v3]) ∧ Ex H G ∧ G p = some (.lst ws) ∧ G f = some (.lst (((t.parts.take i).foldl (fun acc q => addN acc q.names) []).map V.str)) ∧ ((t.parts.take i).foldl (fun acc q => addN acc q.names) []).length ≤ i * 729 ∧ PartsAt Z G t.parts ws) ⟨⟨_, _, rfl⟩, e1.trans e2, g2, e2 _ _ g1, Nat.zero_le _, hw⟩ (fun i σ' G _ q => SqL.of q.2.2.1) ?_ ?_⟩
    · rintro i x σ' G hx ⟨⟨v2, v3, rfl⟩, eG, gp, gf, hbd, hw⟩
      obtain ⟨q, hq, hqx⟩ := hw.at hx
      have hi := (List.getElem?_eq_some_iff.mp hq).1
      have hl3 := t.parts_len
      have ef : (t.parts.take (i + 1)).foldl (fun acc q => addN acc q.names) [] = addN ((t.parts.take i).foldl (fun acc q => addN acc q.names) []) q.names := by
        rw [List.take_add_one, hq, List.foldl_append] <;> rfl
      generalize hF : (t.parts.take i).foldl (fun acc q => addN acc q.names) [] = F at gf ef hbd
      obtain ⟨a4, dx4, fs4, rfl, ha4, m1, m2, m3, m4⟩ := hqx.cls
      walk_at "ss"
      refine ⟨.inl ⟨rfl, _, SqL.of gf⟩, ?_⟩
      walk_at "ss"
      refine ⟨a4, _, dx4, fs4, rfl, ha4, clsT_MC Z q, m2, ?_⟩
      walk_at "ss"
      have hdp := Tm.dep_part (List.mem_of_getElem? hq)
      have hq7 := names_729 (t := q) (by omega)
      refine ⟨q, _, rfl, hqx, rfl, by omega, by omega, fun p5 H5 hp5 e5 g5 => ?_⟩
      refine ⟨p5, rfl, ⟨_, SqL.of g5⟩, lcLv (fun x => if inV x (F.map V.str) then none else some x) (SqL.of g5) (by rw [List.length_map]; omega) (fun x hx => ?_) ?_⟩
      · obtain ⟨s, hs, rfl⟩ := List.mem_map.mp hx
        intro H6 e6 R hR
        walk_at "ss"
        refine c_notin (.inl (SqL.of (e6 _ _ (e5 _ _ gf)))) rfl flat_strs ?_
        refine ⟨_, rfl, ?_⟩
        cases hin : inV (.str s) (F.map V.str) with
        | true =>
          rw [hin] at hR
          walk_at "ss"
          exact hR _ (Ex.refl _)
        | false =>
          rw [hin] at hR
          walk_at "ss"
          exact hR _ (Ex.refl _)
      rw [fm_new]
      intro p6 H6 hp6 e6 g6
      walk_at "ss"
      have gf6 := e6 _ _ (e5 _ _ gf)
      have hfl : (q.names.filter fun n => !F.contains n).length ≤ q.names.length := List.length_filter_le _ _
      refine ⟨f, p6, _, _, rfl, rfl, gf6, g6, Evl.sz_of (by rw [List.length_map, List.length_map]; omega), ?_⟩
      walk_at "ss"
      refine ⟨⟨_, _, rfl⟩, Ex.mut (eG.trans (e5.trans e6)) hf, by rw [upd_ne nfp.symm]; exact e6 _ _ (e5 _ _ gp), ?_, ?_, (hw.up (e5.trans e6)).keep (InsK.lst gf6)⟩
      · rw [upd_same, ef, ← List.map_append] <;> rfl
      · rw [ef]
        have := addN_len F q.names
        rw [Nat.succ_mul]
        omega
    · rintro σ' G ⟨⟨v2, v3, rfl⟩, eG, gp, gf, hbd, hw⟩
      walk_at "ss"
      rw [hwl, List.take_length, ← Tm.names_parts t hS] at gf
      exact k f G hf eG gf
theorem gm_names (T : Txt K mg Z) : ∀ n, ∀ C, MC Z C → MOk P w K mg base CX0 (n + 2) C "names" (spm_names Z n C) := by
  intro n
  induction n with
  | zero =>
    have hN : ∀ C vs H Q E, ¬ spm_names Z 0 C vs H Q E := fun C vs H Q E ⟨t, v, _, _, _, hd, _⟩ => by have := t.dep_pos; omega
    rintro C (rfl | rfl | rfl | rfl | rfl)
    · exact mok_none (n := 0) (tcB_ok T.x_Name).cl ⟨T.h_names_Name, T.y_Name_names, T.F_Name_names.kp⟩ T.b_Name_names (hN _)
    · exact mok_none (n := 0) (tcB_ok T.x_Value).cl ⟨T.h_names_Value, T.y_Term_names, T.F_Term_names.kp⟩ T.b_Term_names (hN _)
    · exact mok_none (n := 0) (tcB_ok T.x_Two).cl ⟨T.h_names_Two, T.y_Term_names, T.F_Term_names.kp⟩ T.b_Term_names (hN _)
    · exact mok_none (n := 0) (tcB_ok T.x_Not).cl ⟨T.h_names_Not, T.y_Term_names, T.F_Term_names.kp⟩ T.b_Term_names (hN _)
    · exact mok_none (n := 0) (tcB_ok T.x_Pick).cl ⟨T.h_names_Pick, T.y_Term_names, T.F_Term_names.kp⟩ T.b_Term_names (hN _)
  | succ n ih =>
    have F := ok_Term_names (P := P) (w := w) (base := base) T (gm_parts T) ih
    have F1 := (ok_Name_names (P := P) (w := w) (base := base) T).mono (show 1 ≤ n + 1 + 2 by omega)
    rintro C (rfl | rfl | rfl | rfl | rfl)
    · exact ⟨(tcB_ok T.x_Name).cl, _, _, _, ⟨T.h_names_Name, T.y_Name_names, T.F_Name_names.kp⟩, F1.imp fun vs H Q E ⟨t, v, e, h, hc, hd, h6, k⟩ => ⟨t, v, e, h, cls_nm T hc, (by obtain ⟨s, rfl⟩ := cls_nm T hc; exact Nat.le_refl _), h6, k⟩, T.b_Name_names⟩
    · exact ⟨(tcB_ok T.x_Value).cl, _, _, _, ⟨T.h_names_Value, T.y_Term_names, T.F_Term_names.kp⟩, F.imp fun vs H Q E ⟨t, v, e, h, hc, hd, h6, k⟩ => ⟨t, v, e, h, (by obtain ⟨s, rfl⟩ := cls_vl T hc; exact fun _ z => by cases z), hd, h6, k⟩, T.b_Term_names⟩
    · exact ⟨(tcB_ok T.x_Two).cl, _, _, _, ⟨T.h_names_Two, T.y_Term_names, T.F_Term_names.kp⟩, F.imp fun vs H Q E ⟨t, v, e, h, hc, hd, h6, k⟩ => ⟨t, v, e, h, (by obtain ⟨_, _, _, rfl⟩ := cls_two T hc; exact fun _ z => by cases z), hd, h6, k⟩, T.b_Term_names⟩
    · exact ⟨(tcB_ok T.x_Not).cl, _, _, _, ⟨T.h_names_Not, T.y_Term_names, T.F_Term_names.kp⟩, F.imp fun vs H Q E ⟨t, v, e, h, hc, hd, h6, k⟩ => ⟨t, v, e, h, (by obtain ⟨_, rfl⟩ := cls_nt T hc; exact fun _ z => by cases z), hd, h6, k⟩, T.b_Term_names⟩
    · exact ⟨(tcB_ok T.x_Pick).cl, _, _, _, ⟨T.h_names_Pick, T.y_Term_names, T.F_Term_names.kp⟩, F.imp fun vs H Q E ⟨t, v, e, h, hc, hd, h6, k⟩ => ⟨t, v, e, h, (by obtain ⟨_, _, _, rfl⟩ := cls_pk T hc; exact fun _ z => by cases z), hd, h6, k⟩, T.b_Term_names⟩

/-! ### what a term tells -/
def ToldAt (H : Hp) : Tm → V → Prop
  | .nm s, v => ∃ a, v = .ref a ∧ H a = some (.tup [.str "name", .str s])
  | .vl x, v => ∃ a, v = .ref a ∧ H a = some (.tup [.str "value", x])
  | .two op p q, v => ∃ a v1 v2, v = .ref a ∧ H a = some (.tup [.str "two", .str op, v1, v2]) ∧ ToldAt H p v1 ∧ ToldAt H q v2
  | .nt p, v => ∃ a v1, v = .ref a ∧ H a = some (.tup [.str "not", v1]) ∧ ToldAt H p v1
  | .pk c p q, v => ∃ a v0 v1 v2, v = .ref a ∧ H a = some (.tup [.str "pick", v0, v1, v2]) ∧ ToldAt H c v0 ∧ ToldAt H p v1 ∧ ToldAt H q v2
def TupK (H H2 : Hp) : Prop := ∀ a xs, H a = some (.tup xs) → H2 a = some (.tup xs)
theorem ToldAt.keep {H H2 : Hp} (e : TupK H H2) : ∀ {t : Tm} {v : V}, ToldAt H t v → ToldAt H2 t v := by
  intro t
  induction t with
  | nm s => rintro v ⟨a, h1, h2⟩; exact ⟨a, h1, e _ _ h2⟩
  | vl x => rintro v ⟨a, h1, h2⟩; exact ⟨a, h1, e _ _ h2⟩
  | two op p q ihp ihq => rintro v ⟨a, v1, v2, h1, h2, h3, h4⟩; exact ⟨a, v1, v2, h1, e _ _ h2, ihp h3, ihq h4⟩
  | nt p ihp => rintro v ⟨a, v1, h1, h2, h3⟩; exact ⟨a, v1, h1, e _ _ h2, ihp h3⟩
  | pk c p q ihc ihp ihq => rintro v ⟨a, v0, v1, v2, h1, h2, h3, h4, h5⟩; exact ⟨a, v0, v1, v2, h1, e _ _ h2, ihc h3, ihp h4, ihq h5⟩
theorem ToldAt.up {H H2 : Hp} {t : Tm} {v : V} (h : ToldAt H t v) (e : Ex H H2) : ToldAt H2 t v := h.keep fun a xs q => e _ _ q
theorem ToldAt.upB {H H2 : Hp} {t : Tm} {v : V} {b : Addr} (h : ToldAt H t v) (e : ExB b H H2) (hB : BoxAt H b) : ToldAt H2 t v := h.keep fun a xs q => e _ _ (box_ne hB q (fun _ _ _ z => by cases z)) q
def spt_told (Z : Adr) (n : Nat) (S : Tm → Prop) : Sp := fun vs H Q _ => ∃ t v, vs = [v] ∧ TermAt Z H t v ∧ S t ∧ t.dep ≤ n ∧ ∀ u H2, Ex H H2 → ToldAt H2 t u → Q u H2
def spm_told (Z : Adr) (n : Nat) (C : Addr) : Sp := spt_told Z n fun t => clsT Z t = C
theorem ok_Name_told (T : Txt K mg Z) : FnOk P w K mg base CX0 1 Z.f_Name_told Z.fd_Name_told ["self"] (spt_told Z 1 fun t => ∃ s, t = .nm s) := by
  refine T.F_Name_told.ok sc_Name_told (fun vs H Q E h => ?_) (fun cdv AA outer s H vs Q E hr h => ?_)
  · obtain ⟨t, v, rfl, _⟩ := h
    rfl
  · obtain ⟨t, v, rfl, ht, ⟨s, rfl⟩, _, k⟩ := h
    have TX := tcB_ok T.x_Name
    obtain ⟨a, dx, rfl, ha⟩ := ht
    refine ⟨_, (pss_one (ps_ret (pe_tup (pa_cons pe_str (pa_cons (pe_fld (pv 0) (by rfl)) pa_nil))))), ?_⟩
    walk_at "ss"
    refine ⟨_, _, _, _, _, rfl, ha, TX.cl, TX.no _ (by decide +kernel), lk_hd, ?_⟩
    walk_at "ss"
    exact newT fun p H2 hp e2 g2 => k _ _ e2 ⟨p, rfl, g2⟩
theorem ok_Value_told (T : Txt K mg Z) : FnOk P w K mg base CX0 1 Z.f_Value_told Z.fd_Value_told ["self"] (spt_told Z 1 fun t => ∃ s, t = .vl s) := by
  refine T.F_Value_told.ok sc_Value_told (fun vs H Q E h => ?_) (fun cdv AA outer s H vs Q E hr h => ?_)
  · obtain ⟨t, v, rfl, _⟩ := h
    rfl
  · obtain ⟨t, v, rfl, ht, ⟨s, rfl⟩, _, k⟩ := h
    have TX := tcB_ok T.x_Value
    obtain ⟨a, dx, rfl, ha⟩ := ht
    refine ⟨_, (pss_one (ps_ret (pe_tup (pa_cons pe_str (pa_cons (pe_fld (pv 0) (by rfl)) pa_nil))))), ?_⟩
    walk_at "ss"
    refine ⟨_, _, _, _, _, rfl, ha, TX.cl, TX.no _ (by decide +kernel), lk_hd, ?_⟩
    walk_at "ss"
    exact newT fun p H2 hp e2 g2 => k _ _ e2 ⟨p, rfl, g2⟩
theorem ok_Two_told (T : Txt K mg Z) {n : Nat} (GM_told : ∀ C, MC Z C → MOk P w K mg base CX0 (n + 2) C "told" (spm_told Z n C)) : FnOk P w K mg base CX0 (n + 3) Z.f_Two_told Z.fd_Two_told ["self"] (spt_told Z (n + 1) fun t => ∃ op a b, t = .two op a b) := by
  refine T.F_Two_told.ok sc_Two_told (fun vs H Q E h => ?_) (fun cdv AA outer s H vs Q E hr h => ?_)
  · obtain ⟨t, v, rfl, _⟩ := h
    rfl
  · obtain ⟨t, v, rfl, ht, ⟨op, x, y, rfl⟩, hd, k⟩ := h
    have TX := tcB_ok T.x_Two
    obtain ⟨a, dx, v1, v2, rfl, ha, h1, h2⟩ := ht
    simp only [Tm.dep] at hd
    refine ⟨_, (pss_one (ps_ret (pe_tup (pa_cons pe_str (pa_cons (pe_fld (pv 0) (by rfl)) (pa_cons (pe_methP0 (pe_fld (pv 0) (by rfl)) GM_told (hr.mono (by omega)) pass0) (pa_cons (pe_methP0 (pe_fld (pv 0) (by rfl)) GM_told (hr.mono (by omega)) pass0) pa_nil))))))), ?_⟩
    walk_at "ss"
    refine ⟨_, _, _, _, _, rfl, ha, TX.cl, TX.no _ (by decide +kernel), lk_hd, ?_⟩
    walk_at "ss"
    refine ⟨_, _, _, _, _, rfl, ha, TX.cl, TX.no _ (by decide +kernel), lk_tl (by decide +kernel) lk_hd, ?_⟩
    obtain ⟨a3, dx3, fs3, rfl, ha3, m1, m2, m3, m4⟩ := h1.cls
    refine ⟨a3, _, dx3, fs3, rfl, ha3, clsT_MC Z x, m4, ?_⟩
    walk_at "ss"
    refine ⟨x, _, rfl, h1, rfl, by omega, fun u1 H1 e1 t1 => ?_⟩
    walk_at "ss"
    refine ⟨_, _, _, _, _, rfl, e1 _ _ ha, TX.cl, TX.no _ (by decide +kernel), lk_tl (by decide +kernel) (lk_tl (by decide +kernel) lk_hd), ?_⟩
    have h2' := h2.up e1
    obtain ⟨a4, dx4, fs4, rfl, ha4, m1, m2, m3, m4⟩ := h2'.cls
    refine ⟨a4, _, dx4, fs4, rfl, ha4, clsT_MC Z y, m4, ?_⟩
    walk_at "ss"
    refine ⟨y, _, rfl, h2', rfl, by omega, fun u2 H2 e2 t2 => ?_⟩
    walk_at "ss"
    exact newT fun p H3 hp e3 g3 => k _ _ (e1.trans (e2.trans e3)) ⟨p, _, _, rfl, g3, t1.up (e2.trans e3), t2.up e3⟩
theorem ok_Not_told (T : Txt K mg Z) {n : Nat} (GM_told : ∀ C, MC Z C → MOk P w K mg base CX0 (n + 2) C "told" (spm_told Z n C)) : FnOk P w K mg base CX0 (n + 3) Z.f_Not_told Z.fd_Not_told ["self"] (spt_told Z (n + 1) fun t => ∃ a, t = .nt a) := by
  refine T.F_Not_told.ok sc_Not_told (fun vs H Q E h => ?_) (fun cdv AA outer s H vs Q E hr h => ?_)
  · obtain ⟨t, v, rfl, _⟩ := h
    rfl
  · obtain ⟨t, v, rfl, ht, ⟨x, rfl⟩, hd, k⟩ := h
    have TX := tcB_ok T.x_Not
    obtain ⟨a, dx, v1, rfl, ha, h1⟩ := ht
    simp only [Tm.dep] at hd
    refine ⟨_, (pss_one (ps_ret (pe_tup (pa_cons pe_str (pa_cons (pe_methP0 (pe_fld (pv 0) (by rfl)) GM_told (hr.mono (by omega)) pass0) pa_nil))))), ?_⟩
    walk_at "ss"
    refine ⟨_, _, _, _, _, rfl, ha, TX.cl, TX.no _ (by decide +kernel), lk_hd, ?_⟩
    obtain ⟨a3, dx3, fs3, rfl, ha3, m1, m2, m3, m4⟩ := h1.cls
    refine ⟨a3, _, dx3, fs3, rfl, ha3, clsT_MC Z x, m4, ?_⟩
    walk_at "ss"
    refine ⟨x, _, rfl, h1, rfl, by omega, fun u1 H1 e1 t1 => ?_⟩
    walk_at "ss"
    exact newT fun p H3 hp e3 g3 => k _ _ (e1.trans e3) ⟨p, _, rfl, g3, t1.up e3⟩
theorem ok_Pick_told (T : Txt K mg Z) {n : Nat} (GM_told : ∀ C, MC Z C → MOk P w K mg base CX0 (n + 2) C "told" (spm_told Z n C)) : FnOk P w K mg base CX0 (n + 3) Z.f_Pick_told Z.fd_Pick_told ["self"] (spt_told Z (n + 1) fun t => ∃ c a b, t = .pk c a b) := by
  refine T.F_Pick_told.ok sc_Pick_told (fun vs H Q E h => ?_) (fun cdv AA outer s H vs Q E hr h => ?_)
  · obtain ⟨t, v, rfl, _⟩ := h
    rfl
  · obtain ⟨t, v, rfl, ht, ⟨c, x, y, rfl⟩, hd, k⟩ := h
    have TX := tcB_ok T.x_Pick
    obtain ⟨a, dx, v0, v1, v2, rfl, ha, h0, h1, h2⟩ := ht
    simp only [Tm.dep] at hd
    refine ⟨_, (pss_one (ps_ret (pe_tup (pa_cons pe_str (pa_cons (pe_methP0 (pe_fld (pv 0) (by rfl)) GM_told (hr.mono (by omega)) pass0) (pa_cons (pe_methP0 (pe_fld (pv 0) (by rfl)) GM_told (hr.mono (by omega)) pass0) (pa_cons (pe_methP0 (pe_fld (pv 0) (by rfl)) GM_told (hr.mono (by omega)) pass0) pa_nil))))))), ?_⟩
    walk_at "ss"
    refine ⟨_, _, _, _, _, rfl, ha, TX.cl, TX.no _ (by decide +kernel), lk_hd, ?_⟩
    obtain ⟨a3, dx3, fs3, rfl, ha3, m1, m2, m3, m4⟩ := h0.cls
    refine ⟨a3, _, dx3, fs3, rfl, ha3, clsT_MC Z c, m4, ?_⟩
    walk_at "ss"
    refine ⟨c, _, rfl, h0, rfl, by omega, fun u0 H0 e0 t0 => ?_⟩
    walk_at "ss"
    refine ⟨_, _, _, _, _, rfl, e0 _ _ ha, TX.cl, TX.no _ (by decide +kernel), lk_tl (by decide +kernel) lk_hd, ?_⟩
    have h1' := h1.up e0
    obtain ⟨a4, dx4, fs4, rfl, ha4, m1, m2, m3, m4⟩ := h1'.cls
    refine ⟨a4, _, dx4, fs4, rfl, ha4, clsT_MC Z x, m4, ?_⟩
    walk_at "ss"
    refine ⟨x, _, rfl, h1', rfl, by omega, fun u1 H1 e1 t1 => ?_⟩
    walk_at "ss"
    refine ⟨_, _, _, _, _, rfl, e1 _ _ (e0 _ _ ha), TX.cl, TX.no _ (by decide +kernel), lk_tl (by decide +kernel) (lk_tl (by decide +kernel) lk_hd), ?_⟩
    have h2' := h2.up (e0.trans e1)
    obtain ⟨a5, dx5, fs5, rfl, ha5, m1, m2, m3, m4⟩ := h2'.cls
    refine ⟨a5, _, dx5, fs5, rfl, ha5, clsT_MC Z y, m4, ?_⟩
    walk_at "ss"
    refine ⟨y, _, rfl, h2', rfl, by omega, fun u2 H2 e2 t2 => ?_⟩
    walk_at "ss"
    exact newT fun p H3 hp e3 g3 => k _ _ (e0.trans (e1.trans (e2.trans e3))) ⟨p, _, _, _, rfl, g3, t0.up (e1.trans (e2.trans e3)), t1.up (e2.trans e3), t2.up e3⟩
theorem gm_told (T : Txt K mg Z) : ∀ n, ∀ C, MC Z C → MOk P w K mg base CX0 (n + 2) C "told" (spm_told Z n C) := by
  intro n
  induction n with
  | zero =>
    have hN : ∀ C vs H Q E, ¬ spm_told Z 0 C vs H Q E := fun C vs H Q E ⟨t, v, _, _, _, hd, _⟩ => by have := t.dep_pos; omega
    rintro C (rfl | rfl | rfl | rfl | rfl)
    · exact mok_none (n := 0) (tcB_ok T.x_Name).cl ⟨T.h_told_Name, T.y_Name_told, T.F_Name_told.kp⟩ T.b_Name_told (hN _)
    · exact mok_none (n := 0) (tcB_ok T.x_Value).cl ⟨T.h_told_Value, T.y_Value_told, T.F_Value_told.kp⟩ T.b_Value_told (hN _)
    · exact mok_none (n := 0) (tcB_ok T.x_Two).cl ⟨T.h_told_Two, T.y_Two_told, T.F_Two_told.kp⟩ T.b_Two_told (hN _)
    · exact mok_none (n := 0) (tcB_ok T.x_Not).cl ⟨T.h_told_Not, T.y_Not_told, T.F_Not_told.kp⟩ T.b_Not_told (hN _)
    · exact mok_none (n := 0) (tcB_ok T.x_Pick).cl ⟨T.h_told_Pick, T.y_Pick_told, T.F_Pick_told.kp⟩ T.b_Pick_told (hN _)
  | succ n ih =>
    have F1 := (ok_Name_told (P := P) (w := w) (base := base) T).mono (show 1 ≤ n + 1 + 2 by omega)
    have F2 := (ok_Value_told (P := P) (w := w) (base := base) T).mono (show 1 ≤ n + 1 + 2 by omega)
    have F3 := ok_Two_told (P := P) (w := w) (base := base) T ih
    have F4 := ok_Not_told (P := P) (w := w) (base := base) T ih
    have F5 := ok_Pick_told (P := P) (w := w) (base := base) T ih
    rintro C (rfl | rfl | rfl | rfl | rfl)
    · exact ⟨(tcB_ok T.x_Name).cl, _, _, _, ⟨T.h_told_Name, T.y_Name_told, T.F_Name_told.kp⟩, F1.imp fun vs H Q E ⟨t, v, e, h, hc, hd, k⟩ => ⟨t, v, e, h, cls_nm T hc, (by obtain ⟨s, rfl⟩ := cls_nm T hc; exact Nat.le_refl _), k⟩, T.b_Name_told⟩
    · exact ⟨(tcB_ok T.x_Value).cl, _, _, _, ⟨T.h_told_Value, T.y_Value_told, T.F_Value_told.kp⟩, F2.imp fun vs H Q E ⟨t, v, e, h, hc, hd, k⟩ => ⟨t, v, e, h, cls_vl T hc, (by obtain ⟨s, rfl⟩ := cls_vl T hc; exact Nat.le_refl _), k⟩, T.b_Value_told⟩
    · exact ⟨(tcB_ok T.x_Two).cl, _, _, _, ⟨T.h_told_Two, T.y_Two_told, T.F_Two_told.kp⟩, F3.imp fun vs H Q E ⟨t, v, e, h, hc, hd, k⟩ => ⟨t, v, e, h, cls_two T hc, hd, k⟩, T.b_Two_told⟩
    · exact ⟨(tcB_ok T.x_Not).cl, _, _, _, ⟨T.h_told_Not, T.y_Not_told, T.F_Not_told.kp⟩, F4.imp fun vs H Q E ⟨t, v, e, h, hc, hd, k⟩ => ⟨t, v, e, h, cls_nt T hc, hd, k⟩, T.b_Not_told⟩
    · exact ⟨(tcB_ok T.x_Pick).cl, _, _, _, ⟨T.h_told_Pick, T.y_Pick_told, T.F_Pick_told.kp⟩, F5.imp fun vs H Q E ⟨t, v, e, h, hc, hd, k⟩ => ⟨t, v, e, h, cls_pk T hc, hd, k⟩, T.b_Pick_told⟩

/-! ### terms made -/
def opsW : List Str := ["+", "-", "*", "/", "mod", "<", "=", "&", "|"]
def opsV2 : List V := opsW.map V.str
def sp_ops_told : Sp := fun vs H Q _ => vs = [] ∧ RetL opsV2 H Q
theorem ok_ops_told (T : Txt K mg Z) : FnOk P w K mg base CX0 1 Z.f_ops_told Z.fd_ops_told [] sp_ops_told := by
  refine T.F_ops_told.ok sc_ops_told (fun vs H Q E h => ?_) (fun cdv AA outer s H vs Q E hr h => ?_)
  · obtain ⟨rfl, _⟩ := h
    rfl
  · obtain ⟨rfl, k⟩ := h
    refine ⟨_, (pss_one (ps_ret (pe_callTy call_list_of (by rfl) T.n_list (by decide +kernel) (pa_cons (pe_gcst rfl T.c_OPS) pa_nil)))), ?_⟩
    walk_at "ss"
    refine ⟨_, _, rfl, .inr (T.t_OPS _), fun l hl => ?_⟩
    exact k l _ hl (Ex.new hl) upd_same
theorem subB_ok {C c : Addr} (h : subB K C c = true) : PySem.W.kitOne K (.ref C) (.ref c) = some true ∧ PySem.W.mroIn K C (.type "object") = some true ∧ PySem.W.findIn K (.ref C) "__eq__" = some (some (.builtin "object.__eq__")) := by
  unfold subB at h
  simp only [Bool.and_eq_true, decide_eq_true_eq] at h
  exact h
theorem TermAt.ty (T : Txt K mg Z) {H : Hp} {t : Tm} {v : V} (h : TermAt Z H t v) : TyX K H v (.ref (clsT Z t)) ∧ subB K (clsT Z t) Z.c_Term = true := by
  obtain ⟨a, dx, fs, rfl, ha, _⟩ := h.cls
  cases t with
  | nm s => exact ⟨(tcB_ok T.x_Name).ty ha, T.fact_is_Name⟩
  | vl s => exact ⟨(tcB_ok T.x_Value).ty ha, T.fact_is_Value⟩
  | two op x y => exact ⟨(tcB_ok T.x_Two).ty ha, T.fact_is_Two⟩
  | nt x => exact ⟨(tcB_ok T.x_Not).ty ha, T.fact_is_Not⟩
  | pk c x y => exact ⟨(tcB_ok T.x_Pick).ty ha, T.fact_is_Pick⟩
theorem is_term (T : Txt K mg Z) {H : Hp} {t : Tm} {v : V} {Q : VK} (h : TermAt Z H t v) (q : Q (.bl true) H) : rIsi K [v, .ref Z.c_Term] H Q :=
  ⟨v, .ref Z.c_Term, _, _, true, rfl, .own _, (h.ty T).1, (subB_ok (h.ty T).2).1, q⟩
theorem TermAt.noneOr (T : Txt K mg Z) {H : Hp} {t : Tm} {v : V} (h : TermAt Z H t v) : NoneOr K H v := by
  obtain ⟨a, dx, fs, rfl, ha, _⟩ := h.cls
  exact .inr ⟨a, _, dx, fs, rfl, ha, (subB_ok (h.ty T).2).2.1, (subB_ok (h.ty T).2).2.2⟩
def sp_need_term (Z : Adr) : Sp := fun vs H Q _ => ∃ t v, vs = [v] ∧ TermAt Z H t v ∧ t.dep ≤ 4 ∧ RetV v H Q
theorem ok_need_term (T : Txt K mg Z) : FnOk P w K mg base CX0 8 Z.f_need_term Z.fd_need_term ["thing"] (sp_need_term Z) := by
  refine T.F_need_term.ok sc_need_term (fun vs H Q E h => ?_) (fun cdv AA outer s H vs Q E hr h => ?_)
  · obtain ⟨t, v, rfl, _⟩ := h
    rfl
  · obtain ⟨t, v, rfl, ht, hd, k⟩ := h
    have GM_levels := gm_levels (P := P) (w := w) (base := base) T 4
    refine ⟨_, (pss_cons (ps_if (PW.pt (pw_or (pt_not (pt_val (pe_callB call_isi (by rfl) T.n_isinstance (by decide +kernel) (pa_cons (pv 0) (pa_cons (pe_gcst (v := .ref Z.c_Term) rfl ⟨_, T.m_Term, rfl⟩) pa_nil))))) (pw_or1 (pt_cmpR op_ge (pe_methP0 (pv 0) GM_levels (hr.mono (by omega)) pass0) (pe_gcst rfl T.c_MOST_LEVELS) (nomark _))))) (pss_one ps_never) pss_nil)
      (pss_one (ps_ret (pv 0)))), ?_⟩
    walk_at "ss"
    refine is_term T ht ?_
    walk_at "ss"
    obtain ⟨a, dx, fs, rfl, ha, l1, l2, l3, l4⟩ := ht.cls
    refine ⟨a, _, dx, fs, rfl, ha, clsT_MC Z t, l3, ?_⟩
    walk_at "ss"
    refine ⟨t, _, rfl, ht, hd, fun H1 e1 => ?_⟩
    walk_at "ss"
    refine if_ff (decide_eq_false (by omega)) ?_
    walk_at "ss"
    exact k _ e1
def isVal : V → Bool
  | .bl _ => true
  | .int i => decide (-1000000000 ≤ i) && decide (i ≤ 1000000000)
  | _ => false
theorem is_val {v : V} (h : isVal v = true) {H : Hp} {Q : VK} {E : XK} (q : Q (.bl true) H) : sp_is_value K [v] H Q E := by
  cases v with
  | bl b => exact ⟨_, rfl, .inr (.inl ⟨_, rfl, q⟩)⟩
  | int i =>
    refine ⟨_, rfl, .inl ⟨_, rfl, ?_⟩⟩
    rw [show (decide (-1000000000 ≤ i) && decide (i ≤ 1000000000)) = true from h]
    exact q
  | _ => exact absurd h Bool.false_ne_true
def sp_Name_init (Z : Adr) : Sp := fun vs H Q _ => ∃ x dx s H0, vs = [.ref x, .str s] ∧ H x = some (.ins Z.c_Name dx []) ∧ H0 x = none ∧ Ex H0 H ∧ isPointed s = true ∧ s.length ≤ 1000 ∧ ∀ H2, Ex H0 H2 → H2 x = some (.ins Z.c_Name dx [("name", .str s)]) → Q .non H2
def sp_Value_init (Z : Adr) : Sp := fun vs H Q _ => ∃ x dx v H0, vs = [.ref x, v] ∧ H x = some (.ins Z.c_Value dx []) ∧ H0 x = none ∧ Ex H0 H ∧ isVal v = true ∧ ∀ H2, Ex H0 H2 → H2 x = some (.ins Z.c_Value dx [("amount", v)]) → Q .non H2
def sp_Two_init (Z : Adr) : Sp := fun vs H Q _ => ∃ x dx op p q v1 v2 H0, vs = [.ref x, .str op, v1, v2] ∧ H x = some (.ins Z.c_Two dx []) ∧ H0 x = none ∧ Ex H0 H ∧ op ∈ opsW ∧ TermAt Z H0 p v1 ∧ TermAt Z H0 q v2 ∧ p.dep ≤ 4 ∧ q.dep ≤ 4 ∧
  ∀ H2, Ex H0 H2 → H2 x = some (.ins Z.c_Two dx [("op", .str op), ("one", v1), ("second", v2)]) → Q .non H2
def sp_Not_init (Z : Adr) : Sp := fun vs H Q _ => ∃ x dx p v1 H0, vs = [.ref x, v1] ∧ H x = some (.ins Z.c_Not dx []) ∧ H0 x = none ∧ Ex H0 H ∧ TermAt Z H0 p v1 ∧ p.dep ≤ 4 ∧ ∀ H2, Ex H0 H2 → H2 x = some (.ins Z.c_Not dx [("one", v1)]) → Q .non H2
def sp_Pick_init (Z : Adr) : Sp := fun vs H Q _ => ∃ x dx c p q v0 v1 v2 H0, vs = [.ref x, v0, v1, v2] ∧ H x = some (.ins Z.c_Pick dx []) ∧ H0 x = none ∧ Ex H0 H ∧ TermAt Z H0 c v0 ∧ TermAt Z H0 p v1 ∧ TermAt Z H0 q v2 ∧ c.dep ≤ 4 ∧ p.dep ≤ 4 ∧ q.dep ≤ 4 ∧
  ∀ H2, Ex H0 H2 → H2 x = some (.ins Z.c_Pick dx [("by", v0), ("one", v1), ("second", v2)]) → Q .non H2
theorem ok_Name_init (T : Txt K mg Z) : FnOk P w K mg base CX0 3 Z.f_Name_init Z.fd_Name_init ["self", "name"] (sp_Name_init Z) := by
  have G_is_pointed := ok_is_pointed (P := P) (w := w) (base := base) T
  refine T.F_Name_init.ok sc_Name_init (fun vs H Q E h => ?_) (fun cdv AA outer s H vs Q E hr h => ?_)
  · obtain ⟨x, dx, s, H0, rfl, _⟩ := h
    rfl
  · obtain ⟨x, dx, s, H0, rfl, hx, h0, e0, hp, hl, k⟩ := h
    have TX := tcB_ok T.x_Name
    refine ⟨_, (pss_cons (ps_if (pt_not (pt_val (pe_call G_is_pointed (hr.mono (by omega)) rfl T.g_is_pointed T.F_is_pointed.kp T.b_is_pointed .nil pass0 (pa_cons (pv 1) pa_nil)))) (pss_one ps_never) pss_nil)
      (pss_one (ps_fld (pv 0) (pv 1) (by rfl)))), ?_⟩
    walk_at "ss"
    refine ⟨_, rfl, .inl ⟨s, rfl, by omega, fun H1 e1 => ?_⟩⟩
    rw [hp]
    walk_at "ss"
    refine ⟨x, _, dx, _, rfl, e1 _ _ hx, TX.cl, TX.no _ (by decide +kernel), by simp, ?_⟩
    walk_at "ss"
    exact k _ (Ex.mut (e0.trans e1) h0) upd_same
theorem ok_Value_init (T : Txt K mg Z) : FnOk P w K mg base CX0 4 Z.f_Value_init Z.fd_Value_init ["self", "value"] (sp_Value_init Z) := by
  have G_is_value := ok_is_value (P := P) (w := w) (base := base) T
  refine T.F_Value_init.ok sc_Value_init (fun vs H Q E h => ?_) (fun cdv AA outer s H vs Q E hr h => ?_)
  · obtain ⟨x, dx, s, H0, rfl, _⟩ := h
    rfl
  · obtain ⟨x, dx, v, H0, rfl, hx, h0, e0, hp, k⟩ := h
    have TX := tcB_ok T.x_Value
    refine ⟨_, (pss_cons (ps_if (pt_not (pt_val (pe_call G_is_value (hr.mono (by omega)) rfl T.g_is_value T.F_is_value.kp T.b_is_value .nil pass0 (pa_cons (pv 1) pa_nil)))) (pss_one ps_never) pss_nil)
      (pss_one (ps_fld (pv 0) (pv 1) (by rfl)))), ?_⟩
    walk_at "ss"
    refine is_val hp ?_
    walk_at "ss"
    refine ⟨x, _, dx, _, rfl, hx, TX.cl, TX.no _ (by decide +kernel), by simp, ?_⟩
    walk_at "ss"
    exact k _ (Ex.mut e0 h0) upd_same
theorem in_ops {op : Str} (h : op ∈ opsW) : inV (.str op) opsV2 = true := by
  unfold opsV2
  rw [inV_str]
  exact List.contains_iff_mem.mpr h
theorem ok_Two_init (T : Txt K mg Z) : FnOk P w K mg base CX0 9 Z.f_Two_init Z.fd_Two_init ["self", "op", "one", "other"] (sp_Two_init Z) := by
  have G_ops_told := ok_ops_told (P := P) (w := w) (base := base) T
  have G_need_term := ok_need_term (P := P) (w := w) (base := base) T
  refine T.F_Two_init.ok sc_Two_init (fun vs H Q E h => ?_) (fun cdv AA outer s H vs Q E hr h => ?_)
  · obtain ⟨x, dx, op, p, q, v1, v2, H0, rfl, _⟩ := h
    rfl
  · obtain ⟨x, dx, op, p, q, v1, v2, H0, rfl, hx, h0, e0, ho, h1, h2, d1, d2, k⟩ := h
    have TX := tcB_ok T.x_Two
    refine ⟨_, (pss_cons (ps_if (PW.pt (pw_or (pt_not (pt_val (pe_callB call_isi (by rfl) T.n_isinstance (by decide +kernel) (pa_cons (pv 1) (pa_cons (pe_bltn (v := .ty "str") (by rfl) T.n_str (by decide +kernel) rfl) pa_nil))))) (pw_or1 (pt_cmpR op_notIn_seq (pv 1) (pe_call0 G_ops_told (hr.mono (by omega)) rfl T.g_ops_told T.F_ops_told.kp T.b_ops_told .nil pass0) (by rfl))))) (pss_one ps_never) pss_nil)
      (pss_cons (ps_fld (pv 0) (pv 1) (by rfl))
      (pss_cons (ps_fld (pv 0) (pe_call G_need_term (hr.mono (by omega)) rfl T.g_need_term T.F_need_term.kp T.b_need_term .nil pass0 (pa_cons (pv 2) pa_nil)) (by rfl))
      (pss_one (ps_fld (pv 0) (pe_call G_need_term (hr.mono (by omega)) rfl T.g_need_term T.F_need_term.kp T.b_need_term .nil pass0 (pa_cons (pv 3) pa_nil)) (by rfl)))))), ?_⟩
    walk_at "ss"
    refine isi (ty_str op) kb_ss ?_
    walk_at "ss"
    refine ⟨rfl, fun pl H1 hpl e1 g1 => ?_⟩
    refine c_notin (.inl (SqL.of g1)) rfl flat_strs ?_
    rw [in_ops ho]
    walk_at "ss"
    refine ⟨x, _, dx, _, rfl, e1 _ _ hx, TX.cl, TX.no _ (by decide +kernel), by simp, ?_⟩
    have e2 : Ex H0 (upd H1 x (.ins Z.c_Two dx (putF "op" (.str op) []))) := Ex.mut (e0.trans e1) h0
    have hx2 : upd H1 x (.ins Z.c_Two dx (putF "op" (.str op) [])) x = some (.ins Z.c_Two dx [("op", .str op)]) := upd_same
    generalize upd H1 x (.ins Z.c_Two dx (putF "op" (.str op) [])) = H2 at e2 hx2
    walk_at "ss"
    refine ⟨p, v1, rfl, h1.up e2, d1, fun H3 e3 => ?_⟩
    walk_at "ss"
    refine ⟨x, _, dx, _, rfl, e3 _ _ hx2, TX.cl, TX.no _ (by decide +kernel), by simp, ?_⟩
    rw [put_tl (by decide +kernel)]
    have e4 : Ex H0 (upd H3 x (.ins Z.c_Two dx (("op", .str op) :: putF "one" v1 []))) := Ex.mut (e2.trans e3) h0
    have hx4 : upd H3 x (.ins Z.c_Two dx (("op", .str op) :: putF "one" v1 [])) x = some (.ins Z.c_Two dx [("op", .str op), ("one", v1)]) := upd_same
    generalize upd H3 x (.ins Z.c_Two dx (("op", .str op) :: putF "one" v1 [])) = H4 at e4 hx4
    walk_at "ss"
    refine ⟨q, v2, rfl, h2.up e4, d2, fun H5 e5 => ?_⟩
    walk_at "ss"
    refine ⟨x, _, dx, _, rfl, e5 _ _ hx4, TX.cl, TX.no _ (by decide +kernel), by simp, ?_⟩
    rw [put_tl (by decide +kernel), put_tl (by decide +kernel)]
    walk_at "ss"
    exact k _ (Ex.mut (e4.trans e5) h0) upd_same
theorem ok_Not_init (T : Txt K mg Z) : FnOk P w K mg base CX0 9 Z.f_Not_init Z.fd_Not_init ["self", "one"] (sp_Not_init Z) := by
  have G_need_term := ok_need_term (P := P) (w := w) (base := base) T
  refine T.F_Not_init.ok sc_Not_init (fun vs H Q E h => ?_) (fun cdv AA outer s H vs Q E hr h => ?_)
  · obtain ⟨x, dx, p, v1, H0, rfl, _⟩ := h
    rfl
  · obtain ⟨x, dx, p, v1, H0, rfl, hx, h0, e0, h1, d1, k⟩ := h
    have TX := tcB_ok T.x_Not
    refine ⟨_, (pss_one (ps_fld (pv 0) (pe_call G_need_term (hr.mono (by omega)) rfl T.g_need_term T.F_need_term.kp T.b_need_term .nil pass0 (pa_cons (pv 1) pa_nil)) (by rfl))), ?_⟩
    walk_at "ss"
    refine ⟨p, v1, rfl, h1.up e0, d1, fun H3 e3 => ?_⟩
    walk_at "ss"
    refine ⟨x, _, dx, _, rfl, e3 _ _ hx, TX.cl, TX.no _ (by decide +kernel), by simp, ?_⟩
    walk_at "ss"
    exact k _ (Ex.mut (e0.trans e3) h0) upd_same
theorem ok_Pick_init (T : Txt K mg Z) : FnOk P w K mg base CX0 9 Z.f_Pick_init Z.fd_Pick_init ["self", "by", "one", "other"] (sp_Pick_init Z) := by
  have G_need_term := ok_need_term (P := P) (w := w) (base := base) T
  refine T.F_Pick_init.ok sc_Pick_init (fun vs H Q E h => ?_) (fun cdv AA outer s H vs Q E hr h => ?_)
  · obtain ⟨x, dx, c, p, q, v0, v1, v2, H0, rfl, _⟩ := h
    rfl
  · obtain ⟨x, dx, c, p, q, v0, v1, v2, H0, rfl, hx, h0, e0, hc, h1, h2, d0, d1, d2, k⟩ := h
    have TX := tcB_ok T.x_Pick
    refine ⟨_, (pss_cons (ps_fld (pv 0) (pe_call G_need_term (hr.mono (by omega)) rfl T.g_need_term T.F_need_term.kp T.b_need_term .nil pass0 (pa_cons (pv 1) pa_nil)) (by rfl))
      (pss_cons (ps_fld (pv 0) (pe_call G_need_term (hr.mono (by omega)) rfl T.g_need_term T.F_need_term.kp T.b_need_term .nil pass0 (pa_cons (pv 2) pa_nil)) (by rfl))
      (pss_one (ps_fld (pv 0) (pe_call G_need_term (hr.mono (by omega)) rfl T.g_need_term T.F_need_term.kp T.b_need_term .nil pass0 (pa_cons (pv 3) pa_nil)) (by rfl))))), ?_⟩
    walk_at "ss"
    refine ⟨c, v0, rfl, hc.up e0, d0, fun H1 e1 => ?_⟩
    walk_at "ss"
    refine ⟨x, _, dx, _, rfl, e1 _ _ hx, TX.cl, TX.no _ (by decide +kernel), by simp, ?_⟩
    have e2 : Ex H0 (upd H1 x (.ins Z.c_Pick dx (putF "by" v0 []))) := Ex.mut (e0.trans e1) h0
    have hx2 : upd H1 x (.ins Z.c_Pick dx (putF "by" v0 [])) x = some (.ins Z.c_Pick dx [("by", v0)]) := upd_same
    generalize upd H1 x (.ins Z.c_Pick dx (putF "by" v0 [])) = H2 at e2 hx2
    walk_at "ss"
    refine ⟨p, v1, rfl, h1.up e2, d1, fun H3 e3 => ?_⟩
    walk_at "ss"
    refine ⟨x, _, dx, _, rfl, e3 _ _ hx2, TX.cl, TX.no _ (by decide +kernel), by simp, ?_⟩
    rw [put_tl (by decide +kernel)]
    have e4 : Ex H0 (upd H3 x (.ins Z.c_Pick dx (("by", v0) :: putF "one" v1 []))) := Ex.mut (e2.trans e3) h0
    have hx4 : upd H3 x (.ins Z.c_Pick dx (("by", v0) :: putF "one" v1 [])) x = some (.ins Z.c_Pick dx [("by", v0), ("one", v1)]) := upd_same
    generalize upd H3 x (.ins Z.c_Pick dx (("by", v0) :: putF "one" v1 [])) = H4 at e4 hx4
    walk_at "ss"
    refine ⟨q, v2, rfl, h2.up e4, d2, fun H5 e5 => ?_⟩
    walk_at "ss"
    refine ⟨x, _, dx, _, rfl, e5 _ _ hx4, TX.cl, TX.no _ (by decide +kernel), by simp, ?_⟩
    rw [put_tl (by decide +kernel), put_tl (by decide +kernel)]
    walk_at "ss"
    exact k _ (Ex.mut (e4.trans e5) h0) upd_same
/-- what is made where: a new one, all else kept -/
def RetM (Z : Adr) (t : Tm) (H : Hp) (Q : VK) : Prop := ∀ v H2, Ex H H2 → TermAt Z H2 t v → Q v H2
theorem RetM.up {t : Tm} {H0 H : Hp} {Q : VK} (k : RetM Z t H0 Q) (e : Ex H0 H) : RetM Z t H Q := fun v H2 e2 => k v H2 (e.trans e2)
theorem mk_heap {H : Hp} {x dx : Addr} {C : Addr} (hx : H x = none) (hd : H dx = none) : Ex H (upd (upd H dx (.own x)) x (.ins C dx [])) := fun a o h => by
  rw [upd_ne (ne_of_none h hx), upd_ne (ne_of_none h hd)]
  exact h
theorem mk_Name {H : Hp} {Q : VK} {E : XK} {s : Str} (hp : isPointed s = true) (hl : s.length ≤ 1000) (k : RetM Z (.nm s) H Q) : MkP2 Z.c_Name (sp_Name_init Z) [.str s] H Q E := fun x dx hx hd _ =>
  ⟨x, dx, s, H, rfl, upd_same, hx, mk_heap hx hd, hp, hl, fun H2 e2 g2 => ⟨rfl, k _ _ e2 ⟨x, dx, rfl, g2⟩⟩⟩
theorem mk_Value {H : Hp} {Q : VK} {E : XK} {v : V} (hp : isVal v = true) (k : RetM Z (.vl v) H Q) : MkP2 Z.c_Value (sp_Value_init Z) [v] H Q E := fun x dx hx hd _ =>
  ⟨x, dx, v, H, rfl, upd_same, hx, mk_heap hx hd, hp, fun H2 e2 g2 => ⟨rfl, k _ _ e2 ⟨x, dx, rfl, g2⟩⟩⟩
theorem mk_Two {H : Hp} {Q : VK} {E : XK} {op : Str} {p q : Tm} {v1 v2 : V} (ho : op ∈ opsW) (h1 : TermAt Z H p v1) (h2 : TermAt Z H q v2) (d1 : p.dep ≤ 4) (d2 : q.dep ≤ 4) (k : RetM Z (.two op p q) H Q) : MkP2 Z.c_Two (sp_Two_init Z) [.str op, v1, v2] H Q E := fun x dx hx hd _ =>
  ⟨x, dx, op, p, q, v1, v2, H, rfl, upd_same, hx, mk_heap hx hd, ho, h1, h2, d1, d2, fun H2 e2 g2 => ⟨rfl, k _ _ e2 ⟨x, dx, v1, v2, rfl, g2, h1.up e2, h2.up e2⟩⟩⟩
theorem mk_Not {H : Hp} {Q : VK} {E : XK} {p : Tm} {v1 : V} (h1 : TermAt Z H p v1) (d1 : p.dep ≤ 4) (k : RetM Z (.nt p) H Q) : MkP2 Z.c_Not (sp_Not_init Z) [v1] H Q E := fun x dx hx hd _ =>
  ⟨x, dx, p, v1, H, rfl, upd_same, hx, mk_heap hx hd, h1, d1, fun H2 e2 g2 => ⟨rfl, k _ _ e2 ⟨x, dx, v1, rfl, g2, h1.up e2⟩⟩⟩
theorem mk_Pick {H : Hp} {Q : VK} {E : XK} {c p q : Tm} {v0 v1 v2 : V} (h0 : TermAt Z H c v0) (h1 : TermAt Z H p v1) (h2 : TermAt Z H q v2) (d0 : c.dep ≤ 4) (d1 : p.dep ≤ 4) (d2 : q.dep ≤ 4) (k : RetM Z (.pk c p q) H Q) : MkP2 Z.c_Pick (sp_Pick_init Z) [v0, v1, v2] H Q E := fun x dx hx hd _ =>
  ⟨x, dx, c, p, q, v0, v1, v2, H, rfl, upd_same, hx, mk_heap hx hd, h0, h1, h2, d0, d1, d2, fun H2 e2 g2 => ⟨rfl, k _ _ e2 ⟨x, dx, v0, v1, v2, rfl, g2, h0.up e2, h1.up e2, h2.up e2⟩⟩⟩

/-! ### terms of what was told -/
def Tm.good : Tm → Prop
  | .nm s => isPointed s = true ∧ s.length ≤ 80 ∧ OkT s
  | .vl v => isVal v = true
  | .two op a b => op ∈ opsW ∧ a.good ∧ b.good
  | .nt a => a.good
  | .pk c a b => c.good ∧ a.good ∧ b.good
def valD : V → PyData
  | .bl b => .bool b
  | .int i => .int i
  | _ => .none
def Tm.data : Tm → PyData
  | .nm s => .tuple [.str "name", .str s]
  | .vl v => .tuple [.str "value", valD v]
  | .two op a b => .tuple [.str "two", .str op, a.data, b.data]
  | .nt a => .tuple [.str "not", a.data]
  | .pk c a b => .tuple [.str "pick", c.data, a.data, b.data]
theorem ToldAt.dp {H : Hp} : ∀ {t : Tm} {u : V}, t.good → ToldAt H t u → Dp K H u t.data := by
  intro t
  induction t with
  | nm s => rintro u _ ⟨a, rfl, h⟩; exact .tup (SqT.of h) (.cons (.str _) (.cons (.str _) .nil))
  | vl v =>
    rintro u g ⟨a, rfl, h⟩
    refine .tup (SqT.of h) (.cons (.str _) (.cons ?_ .nil))
    cases v with
    | bl b => exact .bl b
    | int i => exact .int i
    | _ => exact absurd g Bool.false_ne_true
  | two op p q ihp ihq => rintro u g ⟨a, v1, v2, rfl, h, h1, h2⟩; exact .tup (SqT.of h) (.cons (.str _) (.cons (.str _) (.cons (ihp g.2.1 h1) (.cons (ihq g.2.2 h2) .nil))))
  | nt p ihp => rintro u g ⟨a, v1, rfl, h, h1⟩; exact .tup (SqT.of h) (.cons (.str _) (.cons (ihp g h1) .nil))
  | pk c p q ihc ihp ihq => rintro u g ⟨a, v0, v1, v2, rfl, h, h0, h1, h2⟩; exact .tup (SqT.of h) (.cons (.str _) (.cons (ihc g.1 h0) (.cons (ihp g.2.1 h1) (.cons (ihq g.2.2 h2) .nil))))
theorem ok_lit {s : Str} (h : (TL.tl s).all (fun c => decide (c < 1114112)) = true) {n : Nat} (hl : s.length ≤ n) : RpOk 0 n (.str s) := (rp_str (OkT.lit h)).mono (Nat.le_refl _) hl
theorem ops_lit {op : Str} (h : op ∈ opsW) : RpOk 0 5 (.str op) := by
  have : opsW.all (fun s => (TL.tl s).all (fun c => decide (c < 1114112)) && decide (s.length ≤ 5)) = true := by decide +kernel
  have := List.all_eq_true.mp this op h
  rw [Bool.and_eq_true, decide_eq_true_eq] at this
  exact ok_lit this.1 this.2
theorem Tm.rp : ∀ {t : Tm}, t.good → RpOk t.dep (200 * 4 ^ t.dep) t.data := by
  intro t
  induction t with
  | nm s =>
    intro g
    refine (rp_tup (rp_cons (ok_lit (n := 4) (by decide +kernel) (by decide +kernel)) (rp_cons (rp_str g.2.2) rp_nil))).mono (by show 0 + 1 ≤ 1; omega) ?_
    have := g.2.1
    show 4 + 1 + (s.length + 1 + 0) ≤ 200 * 4 ^ 1
    omega
  | vl v =>
    intro g
    have hv : RpOk 0 0 (valD v) := by
      cases v with
      | bl b => exact rp_bl b
      | int i =>
        have g' : (decide (-1000000000 ≤ i) && decide (i ≤ 1000000000)) = true := g
        rw [Bool.and_eq_true, decide_eq_true_eq, decide_eq_true_eq] at g'
        exact rp_int (by omega)
      | _ => exact absurd g Bool.false_ne_true
    exact (rp_tup (rp_cons (ok_lit (n := 5) (by decide +kernel) (by decide +kernel)) (rp_cons hv rp_nil))).mono (by show 0 + 1 ≤ 1; omega) (by show 5 + 1 + (0 + 1 + 0) ≤ 200 * 4 ^ 1; omega)
  | two op a b iha ihb =>
    intro g
    have p1 : 4 ^ a.dep ≤ 4 ^ max a.dep b.dep := Nat.pow_le_pow_right (by decide) (by omega)
    have p2 : 4 ^ b.dep ≤ 4 ^ max a.dep b.dep := Nat.pow_le_pow_right (by decide) (by omega)
    have p3 : 1 ≤ 4 ^ max a.dep b.dep := Nat.one_le_pow _ _ (by decide)
    have e : 4 ^ (1 + max a.dep b.dep) = 4 * 4 ^ max a.dep b.dep := by rw [Nat.pow_add]
    refine (rp_tup (rp_cons (ok_lit (n := 4) (by decide +kernel) (by decide +kernel)) (rp_cons (ops_lit g.1) (rp_cons (iha g.2.1) (rp_cons (ihb g.2.2) rp_nil))))).mono ?_ ?_
    · show max 0 (max 0 (max a.dep (max b.dep 0))) + 1 ≤ 1 + max a.dep b.dep
      omega
    · show 4 + 1 + (5 + 1 + (200 * 4 ^ a.dep + 1 + (200 * 4 ^ b.dep + 1 + 0))) ≤ 200 * 4 ^ (1 + max a.dep b.dep)
      rw [e]
      omega
  | nt a iha =>
    intro g
    have p3 : 1 ≤ 4 ^ a.dep := Nat.one_le_pow _ _ (by decide)
    have e : 4 ^ (1 + a.dep) = 4 * 4 ^ a.dep := by rw [Nat.pow_add]
    refine (rp_tup (rp_cons (ok_lit (n := 4) (by decide +kernel) (by decide +kernel)) (rp_cons (iha g) rp_nil))).mono ?_ ?_
    · show max 0 (max a.dep 0) + 1 ≤ 1 + a.dep
      omega
    · show 4 + 1 + (200 * 4 ^ a.dep + 1 + 0) ≤ 200 * 4 ^ (1 + a.dep)
      rw [e]
      omega
  | pk c a b ihc iha ihb =>
    intro g
    have p0 : 4 ^ c.dep ≤ 4 ^ max (max c.dep a.dep) b.dep := Nat.pow_le_pow_right (by decide) (by omega)
    have p1 : 4 ^ a.dep ≤ 4 ^ max (max c.dep a.dep) b.dep := Nat.pow_le_pow_right (by decide) (by omega)
    have p2 : 4 ^ b.dep ≤ 4 ^ max (max c.dep a.dep) b.dep := Nat.pow_le_pow_right (by decide) (by omega)
    have p3 : 1 ≤ 4 ^ max (max c.dep a.dep) b.dep := Nat.one_le_pow _ _ (by decide)
    have e : 4 ^ (1 + max (max c.dep a.dep) b.dep) = 4 * 4 ^ max (max c.dep a.dep) b.dep := by rw [Nat.pow_add]
    refine (rp_tup (rp_cons (ok_lit (n := 4) (by decide +kernel) (by decide +kernel)) (rp_cons (ihc g.1) (rp_cons (iha g.2.1) (rp_cons (ihb g.2.2) rp_nil))))).mono ?_ ?_
    · show max 0 (max c.dep (max a.dep (max b.dep 0))) + 1 ≤ 1 + max (max c.dep a.dep) b.dep
      omega
    · show 4 + 1 + (200 * 4 ^ c.dep + 1 + (200 * 4 ^ a.dep + 1 + (200 * 4 ^ b.dep + 1 + 0))) ≤ 200 * 4 ^ (1 + max (max c.dep a.dep) b.dep)
      rw [e]
      omega
theorem NL.ins {H H2 : Hp} (e : NL H H2) : InsK H H2 := fun a C dx fs h => e a _ (fun _ z => by cases z) h
theorem NL.tups {H H2 : Hp} (e : NL H H2) : TupK H H2 := fun a xs h => e a _ (fun _ z => by cases z) h
def sp_simple_of (Z : Adr) : Sp := fun vs H Q _ => (∃ s, vs = [.str "name", .str s] ∧ isPointed s = true ∧ s.length ≤ 80 ∧ RetM Z (.nm s) H Q) ∨ ∃ v, vs = [.str "value", v] ∧ isVal v = true ∧ RetM Z (.vl v) H Q
theorem ok_simple_of (T : Txt K mg Z) : FnOk P w K mg base CX0 6 Z.f_simple_of Z.fd_simple_of ["word", "thing"] (sp_simple_of Z) := by
  have G_is_pointed := ok_is_pointed (P := P) (w := w) (base := base) T
  have G_is_value := ok_is_value (P := P) (w := w) (base := base) T
  have G_Name_init := ok_Name_init (P := P) (w := w) (base := base) T
  have G_Value_init := ok_Value_init (P := P) (w := w) (base := base) T
  refine T.F_simple_of.ok sc_simple_of (fun vs H Q E h => ?_) (fun cdv AA outer s H vs Q E hr h => ?_)
  · rcases h with ⟨s, rfl, _⟩ | ⟨v, rfl, _⟩ <;> rfl
  · refine ⟨_, (pss_cons (ps_if (PW.pt (pw_and (pt_cmpR op_eq (pv 0) pe_str (nomark _)) (pw_and1 (pt_val (pe_call G_is_pointed (hr.mono (by omega)) rfl T.g_is_pointed T.F_is_pointed.kp T.b_is_pointed .nil pass0 (pa_cons (pv 1) pa_nil)))))) (pss_one (ps_ret (pe_make ⟨(tcB_ok T.x_Name).makes, T.i_Name, T.y_Name_init, (tcB_ok T.x_Name).kp⟩ G_Name_init (hr.mono (by omega)) rfl T.m_Name T.b_Name_init .nil pass0 (pa_cons (pv 1) pa_nil)))) pss_nil)
      (pss_cons (ps_if (PW.pt (pw_and (pt_cmpR op_eq (pv 0) pe_str (nomark _)) (pw_and1 (pt_val (pe_call G_is_value (hr.mono (by omega)) rfl T.g_is_value T.F_is_value.kp T.b_is_value .nil pass0 (pa_cons (pv 1) pa_nil)))))) (pss_one (ps_ret (pe_make ⟨(tcB_ok T.x_Value).makes, T.i_Value, T.y_Value_init, (tcB_ok T.x_Value).kp⟩ G_Value_init (hr.mono (by omega)) rfl T.m_Value T.b_Value_init .nil pass0 (pa_cons (pv 1) pa_nil)))) pss_nil)
      (pss_one (ps_ret pe_non)))), ?_⟩
    rcases h with ⟨s, rfl, hp, hl, k⟩ | ⟨v, rfl, hp, k⟩
    · walk_at "ss"
      rw [str_eq rfl]
      walk_at "ss"
      refine ⟨_, rfl, .inl ⟨s, rfl, by omega, fun H1 e1 => ?_⟩⟩
      rw [hp]
      walk_at "ss"
      exact mk_Name hp (by omega) (k.up e1)
    · walk_at "ss"
      rw [str_ne (by decide +kernel)]
      walk_at "ss"
      rw [str_eq rfl]
      walk_at "ss"
      refine is_val hp ?_
      walk_at "ss"
      exact mk_Value hp k

theorem int_ne {i j : Int} (h : i ≠ j) : decide (V.int i = V.int j) = false := decide_eq_false fun e => h (V.int.inj e)
theorem int_eq {i j : Int} (h : i = j) : decide (V.int i = V.int j) = true := decide_eq_true (by rw [h])
theorem kb_tt : kitB "tuple" "tuple" = some true := by decide +kernel
def sp_made (Z : Adr) (n : Nat) : Sp := fun vs H Q _ => ∃ (t : Tm) (u : V) (l : Nat), vs = [u, .int (l : Nat)] ∧ ToldAt H t u ∧ t.good ∧ t.dep ≤ l ∧ l ≤ n ∧ l ≤ 5 ∧ RetM Z t H Q
theorem ok_made_of_told (T : Txt K mg Z) {n : Nat} (G_made_of_told : FnOk P w K mg base CX0 (n + 12) Z.f_made_of_told Z.fd_made_of_told ["told", "left"] (sp_made Z n)) : FnOk P w K mg base CX0 (n + 13) Z.f_made_of_told Z.fd_made_of_told ["told", "left"] (sp_made Z (n + 1)) := by
  have G_simple_of := ok_simple_of (P := P) (w := w) (base := base) T
  have G_ops_told := ok_ops_told (P := P) (w := w) (base := base) T
  have G_Two_init := ok_Two_init (P := P) (w := w) (base := base) T
  have G_Not_init := ok_Not_init (P := P) (w := w) (base := base) T
  have G_Pick_init := ok_Pick_init (P := P) (w := w) (base := base) T
  refine T.F_made_of_told.ok sc_made_of_told (fun vs H Q E h => ?_) (fun cdv AA outer s H vs Q E hr h => ?_)
  · obtain ⟨t, u, l, rfl, _⟩ := h
    rfl
  · obtain ⟨t, u, l, rfl, ht, hg, hd, hl, h5, k⟩ := h
    have hd0 := t.dep_pos
    refine ⟨_, (pss_cons (ps_if (PW.pt (pw_or (pt_cmpR op_eq (pv 1) pe_int (nomark _)) (pw_or (pt_not (pt_val (pe_callB call_isi (by rfl) T.n_isinstance (by decide +kernel) (pa_cons (pv 0) (pa_cons (pe_bltn (v := .ty "tuple") (by rfl) T.n_tuple (by decide +kernel) rfl) pa_nil))))) (pw_or (pt_cmpR op_lt (pe_callB call_len_seq (by rfl) T.n_len (by decide +kernel) (pa_cons (pv 0) pa_nil)) pe_int (nomark _)) (pw_or1 (pt_not (pt_val (pe_callB call_isi (by rfl) T.n_isinstance (by decide +kernel) (pa_cons (pe_ix ix_tup (pv 0) pe_int (fun _ _ => rfl)) (pa_cons (pe_bltn (v := .ty "str") (by rfl) T.n_str (by decide +kernel) rfl) pa_nil)))))))))) (pss_one (ps_ret pe_non)) pss_nil)
      (pss_cons (ps_set (i := 2) sc_made_of_told.nd rfl (Or.inl rfl) (pe_ix ix_tup (pv 0) pe_int (fun _ _ => rfl)))
      (pss_cons (ps_if (PW.pt (pw_and (pt_cmpR op_in_seq (pv 2) (pe_tup (pa_cons pe_str (pa_cons pe_str pa_nil))) (by rfl)) (pw_and1 (pt_cmpR op_eq (pe_callB call_len_seq (by rfl) T.n_len (by decide +kernel) (pa_cons (pv 0) pa_nil)) pe_int (nomark _))))) (pss_one (ps_ret (pe_call G_simple_of (hr.mono (by omega)) rfl T.g_simple_of T.F_simple_of.kp T.b_simple_of .nil pass0 (pa_cons (pv 2) (pa_cons (pe_ix ix_tup (pv 0) pe_int (fun _ _ => rfl)) pa_nil))))) pss_nil)
      (pss_cons (ps_set (i := 3) sc_made_of_told.nd rfl (Or.inl rfl) (pe_op op_add pe_int (pe_callTy call_int1 (by rfl) T.n_int (by decide +kernel) (pa_cons (pe_cmpR op_eq (pv 2) pe_str (nomark _)) pa_nil))))
      (pss_cons (ps_setLc (i := 4) (own := [("one", 5)]) (g := (gName 5)) (tt := tYes) (te := (tCall (sp_made Z n) [] E0 (tCons (tVar 5) (tCons (tOp (rI0 fun i j => .int (i - j)) (tVar 1) (tC (.int 1))) tNil)))) rfl sc_made_of_told.nd rfl rfl (sw_true rfl rfl rfl (by decide +kernel)) (pi_tup (pe_slice sl_tup (pv 0) (po_some (pv 3)) po_none)) (blkOk_by (own := [("one", 5)]) (N := N_made_of_told) (sc := defScope s_made_of_told) (by decide +kernel)) (fun _ _ _ _ _ => (pg_name (i := 5) sc_made_of_told.nd rfl (Or.inl rfl))) (fun _ _ _ _ _ => pts_nil) (fun _ _ _ _ _ => (pe_call G_made_of_told (hr.mono (by omega)) rfl T.g_made_of_told T.F_made_of_told.kp T.b_made_of_told .nil pass0 (pa_cons (pv 5) (pa_cons (pe_op op_sub (pv 1) pe_int) pa_nil)))))
      (pss_cons (ps_if (pt_cmpR (op_noneIn hr.units) pe_non (pv 4) (by rfl)) (pss_one (ps_ret pe_non)) pss_nil)
      (pss_cons (ps_if (PW.pt (pw_and (pt_cmpR op_eq (pv 2) pe_str (nomark _)) (pw_and (pt_cmpR op_eq (pe_callB call_len_seq (by rfl) T.n_len (by decide +kernel) (pa_cons (pv 4) pa_nil)) pe_int (nomark _)) (pw_and (pt_val (pe_callB call_isi (by rfl) T.n_isinstance (by decide +kernel) (pa_cons (pe_ix ix_tup (pv 0) pe_int (fun _ _ => rfl)) (pa_cons (pe_bltn (v := .ty "str") (by rfl) T.n_str (by decide +kernel) rfl) pa_nil)))) (pw_and1 (pt_cmpR op_in_seq (pe_ix ix_tup (pv 0) pe_int (fun _ _ => rfl)) (pe_call0 G_ops_told (hr.mono (by omega)) rfl T.g_ops_told T.F_ops_told.kp T.b_ops_told .nil pass0) (by rfl))))))) (pss_one (ps_ret (pe_make ⟨(tcB_ok T.x_Two).makes, T.i_Two, T.y_Two_init, (tcB_ok T.x_Two).kp⟩ G_Two_init (hr.mono (by omega)) rfl T.m_Two T.b_Two_init .nil pass0 (pa_cons (pe_ix ix_tup (pv 0) pe_int (fun _ _ => rfl)) (pa_cons (pe_ix ix_list (pv 4) pe_int (fun _ _ => rfl)) (pa_cons (pe_ix ix_list (pv 4) pe_int (fun _ _ => rfl)) pa_nil)))))) pss_nil)
      (pss_cons (ps_if (PW.pt (pw_and (pt_cmpR op_eq (pv 2) pe_str (nomark _)) (pw_and1 (pt_cmpR op_eq (pe_callB call_len_seq (by rfl) T.n_len (by decide +kernel) (pa_cons (pv 4) pa_nil)) pe_int (nomark _))))) (pss_one (ps_ret (pe_make ⟨(tcB_ok T.x_Not).makes, T.i_Not, T.y_Not_init, (tcB_ok T.x_Not).kp⟩ G_Not_init (hr.mono (by omega)) rfl T.m_Not T.b_Not_init .nil pass0 (pa_cons (pe_ix ix_list (pv 4) pe_int (fun _ _ => rfl)) pa_nil)))) pss_nil)
      (pss_cons (ps_if (PW.pt (pw_and (pt_cmpR op_eq (pv 2) pe_str (nomark _)) (pw_and1 (pt_cmpR op_eq (pe_callB call_len_seq (by rfl) T.n_len (by decide +kernel) (pa_cons (pv 4) pa_nil)) pe_int (nomark _))))) (pss_one (ps_ret (pe_make ⟨(tcB_ok T.x_Pick).makes, T.i_Pick, T.y_Pick_init, (tcB_ok T.x_Pick).kp⟩ G_Pick_init (hr.mono (by omega)) rfl T.m_Pick T.b_Pick_init .nil pass0 (pa_cons (pe_ix ix_list (pv 4) pe_int (fun _ _ => rfl)) (pa_cons (pe_ix ix_list (pv 4) pe_int (fun _ _ => rfl)) (pa_cons (pe_ix ix_list (pv 4) pe_int (fun _ _ => rfl)) pa_nil)))))) pss_nil)
      (pss_one (ps_ret pe_non))))))))))), ?_⟩
    cases t with
    | nm s =>
      obtain ⟨a, rfl, ha⟩ := ht
      walk_at "ss"
      rw [int_ne (by omega)]
      walk_at "ss"
      refine isi (ty_tup ha) kb_tt ?_
      walk_at "ss"
      refine ⟨a, _, rfl, .inr (SqT.of ha), ?_⟩
      walk_at "ss"
      refine if_ff rfl ?_
      walk_at "ss"
      refine c_ixT (SqT.of ha) rfl ?_
      walk_at "ss"
      refine isi (ty_str _) kb_ss ?_
      walk_at "ss"
      refine c_ixT (SqT.of ha) rfl ?_
      walk_at "ss"
      refine newT fun p1 H1 hp1 e1 g1 => ?_
      refine c_in (.inr (SqT.of g1)) rfl rfl ?_
      have ha1 := e1 _ _ ha
      rw [show inV (V.str "name") [V.str "name", V.str "value"] = true from by decide +kernel]
      walk_at "ss"
      refine ⟨a, _, rfl, .inr (SqT.of ha1), ?_⟩
      walk_at "ss"
      refine if_tt rfl ?_
      walk_at "ss"
      refine c_ixT (SqT.of ha1) rfl ?_
      walk_at "ss"
      exact .inl ⟨_, rfl, hg.1, hg.2.1, k.up e1⟩
    | vl v =>
      obtain ⟨a, rfl, ha⟩ := ht
      walk_at "ss"
      rw [int_ne (by omega)]
      walk_at "ss"
      refine isi (ty_tup ha) kb_tt ?_
      walk_at "ss"
      refine ⟨a, _, rfl, .inr (SqT.of ha), ?_⟩
      walk_at "ss"
      refine if_ff rfl ?_
      walk_at "ss"
      refine c_ixT (SqT.of ha) rfl ?_
      walk_at "ss"
      refine isi (ty_str _) kb_ss ?_
      walk_at "ss"
      refine c_ixT (SqT.of ha) rfl ?_
      walk_at "ss"
      refine newT fun p1 H1 hp1 e1 g1 => ?_
      refine c_in (.inr (SqT.of g1)) rfl rfl ?_
      have ha1 := e1 _ _ ha
      rw [show inV (V.str "value") [V.str "name", V.str "value"] = true from by decide +kernel]
      walk_at "ss"
      refine ⟨a, _, rfl, .inr (SqT.of ha1), ?_⟩
      walk_at "ss"
      refine if_tt rfl ?_
      walk_at "ss"
      refine c_ixT (SqT.of ha1) rfl ?_
      walk_at "ss"
      exact .inr ⟨_, rfl, hg, k.up e1⟩
    | two op tx ty =>
      obtain ⟨a, v1, v2, rfl, ha, h_tx, h_ty⟩ := ht
      obtain ⟨gop, g_tx, g_ty⟩ := hg
      simp only [Tm.dep] at hd hd0
      walk_at "ss"
      rw [int_ne (by omega)]
      walk_at "ss"
      refine isi (ty_tup ha) kb_tt ?_
      walk_at "ss"
      refine ⟨a, _, rfl, .inr (SqT.of ha), ?_⟩
      walk_at "ss"
      refine if_ff rfl ?_
      walk_at "ss"
      refine c_ixT (SqT.of ha) rfl ?_
      walk_at "ss"
      refine isi (ty_str _) kb_ss ?_
      walk_at "ss"
      refine c_ixT (SqT.of ha) rfl ?_
      walk_at "ss"
      refine newT fun p1 H1 hp1 e1 g1 => ?_
      refine c_in (.inr (SqT.of g1)) rfl rfl ?_
      have ha1 := e1 _ _ ha
      rw [show inV (V.str "two") [V.str "name", V.str "value"] = false from by decide +kernel]
      walk_at "ss"
      rw [str_eq rfl]
      walk_at "ss"
      refine .inr ⟨_, rfl, ?_⟩
      walk_at "ss"
      refine ⟨a, _, rfl, SqT.of ha1, fun z => absurd (show (2 : Nat) = 0 from z.1) (by decide), fun p2 hp2 => ?_⟩
      have e2 : Ex H1 (upd H1 p2 (.tup [v1, v2])) := Ex.new hp2
      have g2 : upd H1 p2 (.tup [v1, v2]) p2 = some (.tup [v1, v2]) := upd_same
      show ∃ a, _
      rw [show cutV [V.str "two", V.str op, v1, v2] _ none = [v1, v2] from rfl]
      generalize upd H1 p2 (.tup [v1, v2]) = H2 at e2 g2
      have e12 := e1.trans e2
      refine ⟨p2, rfl, ⟨_, SqT.of g2⟩, lcTN (fun i y G => ∃ t, ([tx, ty] : List Tm)[i]? = some t ∧ TermAt Z G t y) (fun i y G G2 en ⟨t, h1, h2⟩ => ⟨t, h1, h2.keep (NL.ins en)⟩) (SqT.of g2) (by simp) (fun i x hx => ?_) ?_⟩
      · intro H3 e3 R N hR
        have hi : i < 2 := by simpa using (List.getElem?_eq_some_iff.mp hx).1
        walk_at "ss"
        have go : ∃ t, ([tx, ty] : List Tm)[i]? = some t ∧ ToldAt H t x ∧ t.good ∧ t.dep + 1 ≤ l := by
          have hi' : i = 0 ∨ i = 1 := by omega
          rcases hi' with rfl | rfl
          · have hv : v1 = x := by simpa using hx
            subst hv
            exact ⟨tx, rfl, h_tx, g_tx, by omega⟩
          · have hv : v2 = x := by simpa using hx
            subst hv
            exact ⟨ty, rfl, h_ty, g_ty, by omega⟩
        obtain ⟨t, ht1, ht2, ht3, ht4⟩ := go
        have el : ((l : Nat) : Int) - 1 = ((l - 1 : Nat) : Int) := by omega
        rw [el]
        refine ⟨t, x, l - 1, rfl, ht2.up (e12.trans e3), ht3, by omega, by omega, by omega, fun v H4 e4 tv => ?_⟩
        exact hR _ _ e4 ⟨t, ht1, tv⟩
      intro ys p3 H3 hyl hys hp3 e3 g3
      obtain ⟨y0, y1, rfl⟩ : ∃ y0 y1, ys = [y0, y1] := by
        match ys, hyl with
        | [y0, y1], _ => exact ⟨y0, y1, rfl⟩
      have k0 : TermAt Z H3 tx y0 := by
        obtain ⟨t, h1, h2⟩ := hys 0 y0 rfl
        have : tx = t := by simpa using h1
        subst this
        exact h2
      have k1 : TermAt Z H3 ty y1 := by
        obtain ⟨t, h1, h2⟩ := hys 1 y1 rfl
        have : ty = t := by simpa using h1
        subst this
        exact h2
      have e03 := e12.trans e3
      have ha3 := e03 _ _ ha
      walk_at "ss"
      refine c_noneIn (SqL.of g3) (fun z hz => ?_) (fun z hz => ?_) ?_
      · obtain ⟨i, hi⟩ := List.getElem?_of_mem hz
        obtain ⟨t, _, h2⟩ := hys i z hi
        exact h2.noneOr T
      · obtain ⟨i, hi⟩ := List.getElem?_of_mem hz
        obtain ⟨t, _, h2⟩ := hys i z hi
        obtain ⟨aa, _, _, rfl, _⟩ := h2.cls
        exact fun z => by cases z
      walk_at "ss"
      rw [str_eq rfl]
      walk_at "ss"
      refine ⟨p3, _, rfl, .inl (SqL.of g3), ?_⟩
      walk_at "ss"
      refine if_tt rfl ?_
      walk_at "ss"
      refine c_ixT (SqT.of ha3) rfl ?_
      walk_at "ss"
      refine isi (ty_str _) kb_ss ?_
      walk_at "ss"
      refine c_ixT (SqT.of ha3) rfl ?_
      walk_at "ss"
      refine ⟨rfl, fun p4 H4 hp4 e4 g4 => ?_⟩
      refine c_in (.inl (SqL.of g4)) rfl flat_strs ?_
      rw [in_ops gop]
      walk_at "ss"
      refine c_ixT (SqT.of (e4 _ _ ha3)) rfl ?_
      walk_at "ss"
      refine c_ixL (SqL.of (e4 _ _ g3)) rfl ?_
      walk_at "ss"
      refine c_ixL (SqL.of (e4 _ _ g3)) rfl ?_
      walk_at "ss"
      exact mk_Two gop (k0.up e4) (k1.up e4) (by omega) (by omega) (k.up (e03.trans e4))
    | nt tx =>
      obtain ⟨a, v1, rfl, ha, h_tx⟩ := ht
      have g_tx : tx.good := hg
      simp only [Tm.dep] at hd hd0
      walk_at "ss"
      rw [int_ne (by omega)]
      walk_at "ss"
      refine isi (ty_tup ha) kb_tt ?_
      walk_at "ss"
      refine ⟨a, _, rfl, .inr (SqT.of ha), ?_⟩
      walk_at "ss"
      refine if_ff rfl ?_
      walk_at "ss"
      refine c_ixT (SqT.of ha) rfl ?_
      walk_at "ss"
      refine isi (ty_str _) kb_ss ?_
      walk_at "ss"
      refine c_ixT (SqT.of ha) rfl ?_
      walk_at "ss"
      refine newT fun p1 H1 hp1 e1 g1 => ?_
      refine c_in (.inr (SqT.of g1)) rfl rfl ?_
      have ha1 := e1 _ _ ha
      rw [show inV (V.str "not") [V.str "name", V.str "value"] = false from by decide +kernel]
      walk_at "ss"
      rw [str_ne (by decide +kernel)]
      walk_at "ss"
      refine .inr ⟨_, rfl, ?_⟩
      walk_at "ss"
      refine ⟨a, _, rfl, SqT.of ha1, fun z => absurd (show (1 : Nat) = 0 from z.1) (by decide), fun p2 hp2 => ?_⟩
      have e2 : Ex H1 (upd H1 p2 (.tup [v1])) := Ex.new hp2
      have g2 : upd H1 p2 (.tup [v1]) p2 = some (.tup [v1]) := upd_same
      show ∃ a, _
      rw [show cutV [V.str "not", v1] _ none = [v1] from rfl]
      generalize upd H1 p2 (.tup [v1]) = H2 at e2 g2
      have e12 := e1.trans e2
      refine ⟨p2, rfl, ⟨_, SqT.of g2⟩, lcTN (fun i y G => ∃ t, ([tx] : List Tm)[i]? = some t ∧ TermAt Z G t y) (fun i y G G2 en ⟨t, h1, h2⟩ => ⟨t, h1, h2.keep (NL.ins en)⟩) (SqT.of g2) (by simp) (fun i x hx => ?_) ?_⟩
      · intro H3 e3 R N hR
        have hi : i < 1 := by simpa using (List.getElem?_eq_some_iff.mp hx).1
        walk_at "ss"
        have go : ∃ t, ([tx] : List Tm)[i]? = some t ∧ ToldAt H t x ∧ t.good ∧ t.dep + 1 ≤ l := by
          have hi' : i = 0 := by omega
          rcases hi' with rfl
          · have hv : v1 = x := by simpa using hx
            subst hv
            exact ⟨tx, rfl, h_tx, g_tx, by omega⟩
        obtain ⟨t, ht1, ht2, ht3, ht4⟩ := go
        have el : ((l : Nat) : Int) - 1 = ((l - 1 : Nat) : Int) := by omega
        rw [el]
        refine ⟨t, x, l - 1, rfl, ht2.up (e12.trans e3), ht3, by omega, by omega, by omega, fun v H4 e4 tv => ?_⟩
        exact hR _ _ e4 ⟨t, ht1, tv⟩
      intro ys p3 H3 hyl hys hp3 e3 g3
      obtain ⟨y0, rfl⟩ : ∃ y0, ys = [y0] := by
        match ys, hyl with
        | [y0], _ => exact ⟨y0, rfl⟩
      have k0 : TermAt Z H3 tx y0 := by
        obtain ⟨t, h1, h2⟩ := hys 0 y0 rfl
        have : tx = t := by simpa using h1
        subst this
        exact h2
      have e03 := e12.trans e3
      have ha3 := e03 _ _ ha
      walk_at "ss"
      refine c_noneIn (SqL.of g3) (fun z hz => ?_) (fun z hz => ?_) ?_
      · obtain ⟨i, hi⟩ := List.getElem?_of_mem hz
        obtain ⟨t, _, h2⟩ := hys i z hi
        exact h2.noneOr T
      · obtain ⟨i, hi⟩ := List.getElem?_of_mem hz
        obtain ⟨t, _, h2⟩ := hys i z hi
        obtain ⟨aa, _, _, rfl, _⟩ := h2.cls
        exact fun z => by cases z
      walk_at "ss"
      rw [str_ne (by decide +kernel)]
      walk_at "ss"
      rw [str_eq rfl]
      walk_at "ss"
      refine ⟨p3, _, rfl, .inl (SqL.of g3), ?_⟩
      walk_at "ss"
      refine if_tt rfl ?_
      walk_at "ss"
      refine c_ixL (SqL.of g3) rfl ?_
      walk_at "ss"
      exact mk_Not k0 (by omega) (k.up e03)
    | pk tc tx ty =>
      obtain ⟨a, v0, v1, v2, rfl, ha, h_tc, h_tx, h_ty⟩ := ht
      obtain ⟨g_tc, g_tx, g_ty⟩ := hg
      simp only [Tm.dep] at hd hd0
      walk_at "ss"
      rw [int_ne (by omega)]
      walk_at "ss"
      refine isi (ty_tup ha) kb_tt ?_
      walk_at "ss"
      refine ⟨a, _, rfl, .inr (SqT.of ha), ?_⟩
      walk_at "ss"
      refine if_ff rfl ?_
      walk_at "ss"
      refine c_ixT (SqT.of ha) rfl ?_
      walk_at "ss"
      refine isi (ty_str _) kb_ss ?_
      walk_at "ss"
      refine c_ixT (SqT.of ha) rfl ?_
      walk_at "ss"
      refine newT fun p1 H1 hp1 e1 g1 => ?_
      refine c_in (.inr (SqT.of g1)) rfl rfl ?_
      have ha1 := e1 _ _ ha
      rw [show inV (V.str "pick") [V.str "name", V.str "value"] = false from by decide +kernel]
      walk_at "ss"
      rw [str_ne (by decide +kernel)]
      walk_at "ss"
      refine .inr ⟨_, rfl, ?_⟩
      walk_at "ss"
      refine ⟨a, _, rfl, SqT.of ha1, fun z => absurd (show (1 : Nat) = 0 from z.1) (by decide), fun p2 hp2 => ?_⟩
      have e2 : Ex H1 (upd H1 p2 (.tup [v0, v1, v2])) := Ex.new hp2
      have g2 : upd H1 p2 (.tup [v0, v1, v2]) p2 = some (.tup [v0, v1, v2]) := upd_same
      show ∃ a, _
      rw [show cutV [V.str "pick", v0, v1, v2] _ none = [v0, v1, v2] from rfl]
      generalize upd H1 p2 (.tup [v0, v1, v2]) = H2 at e2 g2
      have e12 := e1.trans e2
      refine ⟨p2, rfl, ⟨_, SqT.of g2⟩, lcTN (fun i y G => ∃ t, ([tc, tx, ty] : List Tm)[i]? = some t ∧ TermAt Z G t y) (fun i y G G2 en ⟨t, h1, h2⟩ => ⟨t, h1, h2.keep (NL.ins en)⟩) (SqT.of g2) (by simp) (fun i x hx => ?_) ?_⟩
      · intro H3 e3 R N hR
        have hi : i < 3 := by simpa using (List.getElem?_eq_some_iff.mp hx).1
        walk_at "ss"
        have go : ∃ t, ([tc, tx, ty] : List Tm)[i]? = some t ∧ ToldAt H t x ∧ t.good ∧ t.dep + 1 ≤ l := by
          have hi' : i = 0 ∨ i = 1 ∨ i = 2 := by omega
          rcases hi' with rfl | rfl | rfl
          · have hv : v0 = x := by simpa using hx
            subst hv
            exact ⟨tc, rfl, h_tc, g_tc, by omega⟩
          · have hv : v1 = x := by simpa using hx
            subst hv
            exact ⟨tx, rfl, h_tx, g_tx, by omega⟩
          · have hv : v2 = x := by simpa using hx
            subst hv
            exact ⟨ty, rfl, h_ty, g_ty, by omega⟩
        obtain ⟨t, ht1, ht2, ht3, ht4⟩ := go
        have el : ((l : Nat) : Int) - 1 = ((l - 1 : Nat) : Int) := by omega
        rw [el]
        refine ⟨t, x, l - 1, rfl, ht2.up (e12.trans e3), ht3, by omega, by omega, by omega, fun v H4 e4 tv => ?_⟩
        exact hR _ _ e4 ⟨t, ht1, tv⟩
      intro ys p3 H3 hyl hys hp3 e3 g3
      obtain ⟨y0, y1, y2, rfl⟩ : ∃ y0 y1 y2, ys = [y0, y1, y2] := by
        match ys, hyl with
        | [y0, y1, y2], _ => exact ⟨y0, y1, y2, rfl⟩
      have k0 : TermAt Z H3 tc y0 := by
        obtain ⟨t, h1, h2⟩ := hys 0 y0 rfl
        have : tc = t := by simpa using h1
        subst this
        exact h2
      have k1 : TermAt Z H3 tx y1 := by
        obtain ⟨t, h1, h2⟩ := hys 1 y1 rfl
        have : tx = t := by simpa using h1
        subst this
        exact h2
      have k2 : TermAt Z H3 ty y2 := by
        obtain ⟨t, h1, h2⟩ := hys 2 y2 rfl
        have : ty = t := by simpa using h1
        subst this
        exact h2
      have e03 := e12.trans e3
      have ha3 := e03 _ _ ha
      walk_at "ss"
      refine c_noneIn (SqL.of g3) (fun z hz => ?_) (fun z hz => ?_) ?_
      · obtain ⟨i, hi⟩ := List.getElem?_of_mem hz
        obtain ⟨t, _, h2⟩ := hys i z hi
        exact h2.noneOr T
      · obtain ⟨i, hi⟩ := List.getElem?_of_mem hz
        obtain ⟨t, _, h2⟩ := hys i z hi
        obtain ⟨aa, _, _, rfl, _⟩ := h2.cls
        exact fun z => by cases z
      walk_at "ss"
      rw [str_ne (by decide +kernel)]
      walk_at "ss"
      rw [str_ne (by decide +kernel)]
      walk_at "ss"
      rw [str_eq rfl]
      walk_at "ss"
      refine ⟨p3, _, rfl, .inl (SqL.of g3), ?_⟩
      walk_at "ss"
      refine if_tt rfl ?_
      walk_at "ss"
      refine c_ixL (SqL.of g3) rfl ?_
      walk_at "ss"
      refine c_ixL (SqL.of g3) rfl ?_
      walk_at "ss"
      refine c_ixL (SqL.of g3) rfl ?_
      walk_at "ss"
      exact mk_Pick k0 k1 k2 (by omega) (by omega) (by omega) (k.up e03)
theorem okn_made (T : Txt K mg Z) : ∀ n, FnOk P w K mg base CX0 (n + 12) Z.f_made_of_told Z.fd_made_of_told ["told", "left"] (sp_made Z n)
  | 0 => ⟨fun vs H Q E ⟨t, u, l, e, _⟩ => by rw [e]; rfl, fun _ _ _ _ _ _ _ _ _ _ _ _ _ ⟨t, u, l, _, _, _, h1, h2, _⟩ => by have := t.dep_pos; omega⟩
  | n + 1 => ok_made_of_told T (okn_made T n)
def sp_term_of (Z : Adr) : Sp := fun vs H Q _ => ∃ t u, vs = [u] ∧ ToldAt H t u ∧ t.good ∧ t.dep ≤ 5 ∧ RetM Z t H Q
theorem ok_term_of (T : Txt K mg Z)  : FnOk P w K mg base CX0 (18) Z.f_term_of Z.fd_term_of ["told"] (sp_term_of Z) := by
  refine T.F_term_of.ok sc_term_of (fun vs H Q E h => ?_) (fun cdv AA outer s H vs Q E hr h => ?_)
  · obtain ⟨t, u, rfl, _⟩ := h
    rfl
  · obtain ⟨t, u, rfl, ht, hg, hd, k⟩ := h
    have G_made_of_told := okn_made (P := P) (w := w) (base := base) T 5
    refine ⟨_, (pss_cons (ps_set (i := 1) sc_term_of.nd rfl (Or.inl rfl) (pe_call G_made_of_told (hr.mono (by omega)) rfl T.g_made_of_told T.F_made_of_told.kp T.b_made_of_told .nil pass0 (pa_cons (pv 0) (pa_cons (pe_gcst rfl T.c_MOST_LEVELS) pa_nil))))
      (pss_cons (ps_if (pt_cmpR op_isN (pv 1) pe_non (nomark _)) (pss_one ps_never) pss_nil)
      (pss_one (ps_ret (pv 1))))), ?_⟩
    walk_at "ss"
    refine ⟨t, u, 5, rfl, ht, hg, hd, Nat.le_refl _, Nat.le_refl _, fun v H1 e1 tv => ?_⟩
    walk_at "ss"
    have nv : decide (v = V.non) = false := by
      obtain ⟨aa, _, _, rfl, _⟩ := tv.cls
      rfl
    rw [nv]
    walk_at "ss"
    exact k _ _ e1 tv

/-! ### rows: the plain side -/
inductive Rw where
  | pl (n : Str) (t : Tm)
  | vd (k : Nat) (n : Str) (v : V) (x : Str)
  | wh (n x y : Str)
  | sm (ns : List Str)
  | cl (os : List Str) (nd : Str) (xs : List Str)
def vword : Nat → Str
  | 0 => "before"
  | 1 => "hold"
  | _ => "like"
def Rw.kind : Rw → Nat
  | .pl _ _ => 0
  | .vd 0 _ _ _ => 1
  | .vd 1 _ _ _ => 2
  | .vd _ _ _ _ => 3
  | .wh _ _ _ => 4
  | .sm _ => 5
  | .cl _ _ _ => 6
def Rw.word : Rw → Str
  | .pl _ _ => "plain"
  | .vd k _ _ _ => vword k
  | .wh _ _ _ => "when"
  | .sm _ => "same"
  | .cl _ _ _ => "call"
theorem Rw.kind_lt (r : Rw) : r.kind < 7 := by
  cases r with
  | vd k n v x => rcases k with _ | _ | k <;> simp [Rw.kind]
  | _ => simp [Rw.kind]
def goodN (s : Str) : Prop := isPointed s = true ∧ s.length ≤ 80 ∧ OkT s
/-- each once, the first -/
def once (l : List Str) : List Str := l.foldl (fun acc n => addN acc [n]) []
def Rw.tells : Rw → List Str
  | .pl n _ => [n]
  | .vd _ n _ _ => [n]
  | .wh n _ _ => [n]
  | .sm _ => []
  | .cl os _ _ => os
def Rw.names : Rw → List Str
  | .pl _ t => t.names
  | .vd _ _ _ x => [x]
  | .wh _ x y => once [x, y]
  | .sm ns => once ns
  | .cl _ _ xs => once xs
def Rw.all (r : Rw) : List Str := r.tells ++ r.names
def Rw.good : Rw → Prop
  | .pl n t => goodN n ∧ t.good ∧ t.dep ≤ 5
  | .vd k n v x => k < 3 ∧ goodN n ∧ isVal v = true ∧ goodN x
  | .wh n x y => goodN n ∧ goodN x ∧ goodN y
  | .sm ns => 2 ≤ ns.length ∧ ns.length ≤ 100 ∧ ∀ s ∈ ns, goodN s
  | .cl os nd xs => 1 ≤ os.length ∧ os.length ≤ 100 ∧ (∀ s ∈ os, goodN s) ∧ (isName nd = true ∧ nd.length ≤ 8 ∧ OkT nd) ∧ 1 ≤ xs.length ∧ xs.length ≤ 100 ∧ ∀ s ∈ xs, goodN s
/-! rows as tuples -/
def RowAt (H : Hp) : Rw → V → Prop
  | .pl n t, u => ∃ a w, u = .ref a ∧ H a = some (.tup [.str "plain", .str n, w]) ∧ ToldAt H t w
  | .vd k n v x, u => ∃ a, u = .ref a ∧ H a = some (.tup [.str (vword k), .str n, v, .str x])
  | .wh n x y, u => ∃ a, u = .ref a ∧ H a = some (.tup [.str "when", .str n, .str x, .str y])
  | .sm ns, u => ∃ a p, u = .ref a ∧ H a = some (.tup [.str "same", .ref p]) ∧ H p = some (.tup (ns.map V.str))
  | .cl os nd xs, u => ∃ a p q, u = .ref a ∧ H a = some (.tup [.str "call", .ref p, .str nd, .ref q]) ∧ H p = some (.tup (os.map V.str)) ∧ H q = some (.tup (xs.map V.str))
theorem NL.tup {H H2 : Hp} (e : NL H H2) {a : Addr} {xs : List V} (h : H a = some (.tup xs)) : H2 a = some (.tup xs) := e _ _ (fun _ z => by cases z) h
theorem RowAt.nl {H H2 : Hp} (e : NL H H2) {r : Rw} {u : V} (h : RowAt H r u) : RowAt H2 r u := by
  cases r with
  | pl n t => obtain ⟨a, w, h1, h2, h3⟩ := h; exact ⟨a, w, h1, NL.tup e h2, h3.keep (NL.tups e)⟩
  | vd k n v x => obtain ⟨a, h1, h2⟩ := h; exact ⟨a, h1, NL.tup e h2⟩
  | wh n x y => obtain ⟨a, h1, h2⟩ := h; exact ⟨a, h1, NL.tup e h2⟩
  | sm ns => obtain ⟨a, p, h1, h2, h3⟩ := h; exact ⟨a, p, h1, NL.tup e h2, NL.tup e h3⟩
  | cl os nd xs => obtain ⟨a, p, q, h1, h2, h3, h4⟩ := h; exact ⟨a, p, q, h1, NL.tup e h2, NL.tup e h3, NL.tup e h4⟩
theorem RowAt.up {H H2 : Hp} {r : Rw} {u : V} (h : RowAt H r u) (e : Ex H H2) : RowAt H2 r u := h.nl (NL.of e)
/-- the row: a tuple that begins with its word -/
theorem RowAt.hd {H : Hp} {r : Rw} {u : V} (h : RowAt H r u) : ∃ a xs, u = .ref a ∧ H a = some (.tup (.str r.word :: xs)) := by
  cases r with
  | pl n t => obtain ⟨a, w, h1, h2, h3⟩ := h; exact ⟨a, _, h1, h2⟩
  | vd k n v x => obtain ⟨a, h1, h2⟩ := h; exact ⟨a, _, h1, h2⟩
  | wh n x y => obtain ⟨a, h1, h2⟩ := h; exact ⟨a, _, h1, h2⟩
  | sm ns => obtain ⟨a, p, h1, h2, h3⟩ := h; exact ⟨a, _, h1, h2⟩
  | cl os nd xs => obtain ⟨a, p, q, h1, h2, h3, h4⟩ := h; exact ⟨a, _, h1, h2⟩
def strsD (ns : List Str) : PyData := .tuple (ns.map PyData.str)
def Rw.data : Rw → PyData
  | .pl n t => .tuple [.str "plain", .str n, t.data]
  | .vd k n v x => .tuple [.str (vword k), .str n, valD v, .str x]
  | .wh n x y => .tuple [.str "when", .str n, .str x, .str y]
  | .sm ns => .tuple [.str "same", strsD ns]
  | .cl os nd xs => .tuple [.str "call", strsD os, .str nd, strsD xs]
theorem dp_strs {H : Hp} : ∀ {ns : List Str}, DpAll K H (ns.map V.str) (ns.map PyData.str)
  | [] => .nil
  | s :: ns => .cons (.str s) dp_strs
theorem dp_val {H : Hp} {v : V} (h : isVal v = true) : Dp K H v (valD v) := by
  cases v with
  | bl b => exact .bl b
  | int i => exact .int i
  | _ => exact absurd h Bool.false_ne_true
theorem RowAt.dp {H : Hp} {r : Rw} {u : V} (g : r.good) (h : RowAt H r u) : Dp K H u r.data := by
  cases r with
  | pl n t => obtain ⟨a, w, rfl, h2, h3⟩ := h; exact .tup (SqT.of h2) (.cons (.str _) (.cons (.str _) (.cons (h3.dp g.2.1) .nil)))
  | vd k n v x => obtain ⟨a, rfl, h2⟩ := h; exact .tup (SqT.of h2) (.cons (.str _) (.cons (.str _) (.cons (dp_val g.2.2.1) (.cons (.str _) .nil))))
  | wh n x y => obtain ⟨a, rfl, h2⟩ := h; exact .tup (SqT.of h2) (.cons (.str _) (.cons (.str _) (.cons (.str _) (.cons (.str _) .nil))))
  | sm ns => obtain ⟨a, p, rfl, h2, h3⟩ := h; exact .tup (SqT.of h2) (.cons (.str _) (.cons (.tup (SqT.of h3) dp_strs) .nil))
  | cl os nd xs => obtain ⟨a, p, q, rfl, h2, h3, h4⟩ := h; exact .tup (SqT.of h2) (.cons (.str _) (.cons (.tup (SqT.of h3) dp_strs) (.cons (.str _) (.cons (.tup (SqT.of h4) dp_strs) .nil))))
theorem rp_N {s : Str} (h : goodN s) : RpOk 0 80 (.str s) := (rp_str h.2.2).mono (Nat.le_refl _) h.2.1
theorem rp_val {v : V} (g : isVal v = true) : RpOk 0 0 (valD v) := by
  cases v with
  | bl b => exact rp_bl b
  | int i =>
    have g' : (decide (-1000000000 ≤ i) && decide (i ≤ 1000000000)) = true := g
    rw [Bool.and_eq_true, decide_eq_true_eq, decide_eq_true_eq] at g'
    exact rp_int (by omega)
  | _ => exact absurd g Bool.false_ne_true
theorem rp_strs {ns : List Str} (h : ∀ s ∈ ns, goodN s) (hl : ns.length ≤ 100) : RpOk 1 8100 (strsD ns) := by
  have h1 : RpAll 0 ((ns.map PyData.str).length * (80 + 1)) (ns.map PyData.str) := rp_all fun d hd => by
    obtain ⟨s, hs, rfl⟩ := List.mem_map.mp hd
    exact rp_N (h s hs)
  rw [List.length_map] at h1
  exact (rp_tup h1).mono (Nat.le_refl _) (by omega)
theorem vword_in (k : Nat) : vword k = "before" ∨ vword k = "hold" ∨ vword k = "like" := by
  rcases k with _ | _ | k
  · exact .inl rfl
  · exact .inr (.inl rfl)
  · exact .inr (.inr rfl)
theorem rp_vword (k : Nat) : RpOk 0 6 (.str (vword k)) := by
  rcases vword_in k with e | e | e <;> (rw [e]; exact ok_lit (by decide +kernel) (by decide +kernel))
theorem Rw.rp {r : Rw} (g : r.good) : RpOk 6 250000 r.data := by
  cases r with
  | pl n t =>
    have hB : 200 * 4 ^ t.dep ≤ 204800 := by
      have : 4 ^ t.dep ≤ 4 ^ 5 := Nat.pow_le_pow_right (by decide) g.2.2
      have e : (4 : Nat) ^ 5 = 1024 := rfl
      omega
    have hd := g.2.2
    exact (rp_tup (rp_cons (ok_lit (n := 5) (by decide +kernel) (by decide +kernel)) (rp_cons (rp_N g.1) (rp_cons (Tm.rp g.2.1) rp_nil)))).mono (by omega) (by omega)
  | vd k n v x => exact (rp_tup (rp_cons (rp_vword k) (rp_cons (rp_N g.2.1) (rp_cons (rp_val g.2.2.1) (rp_cons (rp_N g.2.2.2) rp_nil))))).mono (by omega) (by omega)
  | wh n x y => exact (rp_tup (rp_cons (ok_lit (n := 5) (by decide +kernel) (by decide +kernel)) (rp_cons (rp_N g.1) (rp_cons (rp_N g.2.1) (rp_cons (rp_N g.2.2) rp_nil))))).mono (by omega) (by omega)
  | sm ns => exact (rp_tup (rp_cons (ok_lit (n := 5) (by decide +kernel) (by decide +kernel)) (rp_cons (rp_strs g.2.2 g.2.1) rp_nil))).mono (by omega) (by omega)
  | cl os nd xs => exact (rp_tup (rp_cons (ok_lit (n := 5) (by decide +kernel) (by decide +kernel)) (rp_cons (rp_strs g.2.2.1 g.2.1) (rp_cons ((rp_str g.2.2.2.1.2.2).mono (Nat.le_refl _) g.2.2.2.1.2.1) (rp_cons (rp_strs g.2.2.2.2.2.2 g.2.2.2.2.2.1) rp_nil))))).mono (by omega) (by omega)
/-! rows as objects -/
def clsK (Z : Adr) : Nat → Addr
  | 0 => Z.c_Plain
  | 1 => Z.c_Before
  | 2 => Z.c_Hold
  | 3 => Z.c_Like
  | 4 => Z.c_When
  | 5 => Z.c_Same
  | _ => Z.c_Call
def MCE (Z : Adr) (C : Addr) : Prop := ∃ i, i < 7 ∧ C = clsK Z i
theorem clsK_at {i : Nat} (h : i < 7) : ([Z.c_Plain, Z.c_Before, Z.c_Hold, Z.c_Like, Z.c_When, Z.c_Same, Z.c_Call] : List Addr)[i]? = some (clsK Z i) := by
  have : i = 0 ∨ i = 1 ∨ i = 2 ∨ i = 3 ∨ i = 4 ∨ i = 5 ∨ i = 6 := by omega
  rcases this with rfl | rfl | rfl | rfl | rfl | rfl | rfl <;> rfl
theorem clsK_inj (T : Txt K mg Z) {i j : Nat} (hi : i < 7) (hj : j < 7) (e : clsK Z i = clsK Z j) : i = j := by
  rcases Nat.lt_trichotomy i j with h | h | h
  · exact absurd e (difB_ne T.fact_difE (clsK_at hi) (clsK_at hj) h)
  · exact h
  · exact absurd e.symm (difB_ne T.fact_difE (clsK_at hj) (clsK_at hi) h)
def offE (fs : List (Str × V)) : Prop := fs.lookup ("told" : Str) = none ∧ fs.lookup ("tells" : Str) = none ∧ fs.lookup ("names" : Str) = none ∧ fs.lookup ("term" : Str) = none ∧ fs.lookup ("is_call" : Str) = none
def offX (fs : List (Str × V)) : Prop := fs.lookup ("put_otherwise" : Str) = none ∧ fs.lookup ("renamed" : Str) = none
def EqAt (Z : Adr) (H : Hp) (r : Rw) (v u : V) : Prop := ∃ a dx fs, v = .ref a ∧ H a = some (.ins (clsK Z r.kind) dx fs) ∧ RowAt H r u ∧ fs.lookup ("told_row" : Str) = some u ∧ (offE fs ∧ offX fs) ∧ ∀ n t, r = .pl n t → ∃ tv, fs.lookup ("kept_term" : Str) = some tv ∧ TermAt Z H t tv
theorem EqAt.nl {H H2 : Hp} {r : Rw} {v u : V} (h : EqAt Z H r v u) (e : NL H H2) : EqAt Z H2 r v u := by
  obtain ⟨a, dx, fs, h1, h2, h3, h4, h5, h6⟩ := h
  refine ⟨a, dx, fs, h1, NL.ins e _ _ _ _ h2, h3.nl e, h4, h5, fun n t he => ?_⟩
  obtain ⟨tv, h7, h8⟩ := h6 n t he
  exact ⟨tv, h7, h8.keep (NL.ins e)⟩
theorem EqAt.up {H H2 : Hp} {r : Rw} {v u : V} (h : EqAt Z H r v u) (e : Ex H H2) : EqAt Z H2 r v u := h.nl (NL.of e)
theorem kitTab_ok {cs : List Addr} {E : Addr} (h : kitTab K cs E = true) {c : Addr} (hc : c ∈ cs) : PySem.W.kitOne K (.ref c) (.ref E) = some true ∧ PySem.W.mroIn K c (.type "object") = some true ∧ PySem.W.findIn K (.ref c) "__eq__" = some (some (.builtin "object.__eq__")) ∧ ∀ c' ∈ cs, PySem.W.kitOne K (.ref c) (.ref c') = some (decide (c = c')) := by
  have := List.all_eq_true.mp h c hc
  simp only [Bool.and_eq_true, decide_eq_true_eq, List.all_eq_true] at this
  exact this
theorem clsK_mem {i : Nat} (h : i < 7) : clsK Z i ∈ ([Z.c_Plain, Z.c_Before, Z.c_Hold, Z.c_Like, Z.c_When, Z.c_Same, Z.c_Call] : List Addr) := List.mem_of_getElem? (clsK_at h)
theorem tcE (T : Txt K mg Z) {i : Nat} (h : i < 7) : Cls K (clsK Z i) ∧ NoAttr K (clsK Z i) "told_row" ∧ (i = 0 → NoAttr K (clsK Z i) "kept_term") ∧ ∀ {H : Hp} {a dx : Addr} {gs : List (Str × V)}, H a = some (.ins (clsK Z i) dx gs) → TyX K H (.ref a) (.ref (clsK Z i)) := by
  have : i = 0 ∨ i = 1 ∨ i = 2 ∨ i = 3 ∨ i = 4 ∨ i = 5 ∨ i = 6 := by omega
  rcases this with rfl | rfl | rfl | rfl | rfl | rfl | rfl
  · exact ⟨(tcB_ok T.x_Plain).cl, (tcB_ok T.x_Plain).no _ (by decide +kernel), fun _ => (tcB_ok T.x_Plain).no _ (by decide +kernel), fun e => (tcB_ok T.x_Plain).ty e⟩
  · exact ⟨(tcB_ok T.x_Before).cl, (tcB_ok T.x_Before).no _ (by decide +kernel), (fun z => absurd z (by decide)), fun e => (tcB_ok T.x_Before).ty e⟩
  · exact ⟨(tcB_ok T.x_Hold).cl, (tcB_ok T.x_Hold).no _ (by decide +kernel), (fun z => absurd z (by decide)), fun e => (tcB_ok T.x_Hold).ty e⟩
  · exact ⟨(tcB_ok T.x_Like).cl, (tcB_ok T.x_Like).no _ (by decide +kernel), (fun z => absurd z (by decide)), fun e => (tcB_ok T.x_Like).ty e⟩
  · exact ⟨(tcB_ok T.x_When).cl, (tcB_ok T.x_When).no _ (by decide +kernel), (fun z => absurd z (by decide)), fun e => (tcB_ok T.x_When).ty e⟩
  · exact ⟨(tcB_ok T.x_Same).cl, (tcB_ok T.x_Same).no _ (by decide +kernel), (fun z => absurd z (by decide)), fun e => (tcB_ok T.x_Same).ty e⟩
  · exact ⟨(tcB_ok T.x_Call).cl, (tcB_ok T.x_Call).no _ (by decide +kernel), (fun z => absurd z (by decide)), fun e => (tcB_ok T.x_Call).ty e⟩
theorem is_row (T : Txt K mg Z) {H : Hp} {r : Rw} {v u : V} {Q : VK} (h : EqAt Z H r v u) (q : Q (.bl true) H) : rIsi K [v, .ref Z.c_Equation] H Q := by
  obtain ⟨a, dx, fs, rfl, h2, _⟩ := h
  exact ⟨_, _, _, _, true, rfl, .own _, (tcE T r.kind_lt).2.2.2 h2, (kitTab_ok T.fact_kitE (clsK_mem r.kind_lt)).1, q⟩
theorem is_kind (T : Txt K mg Z) {H : Hp} {r : Rw} {v u : V} {Q : VK} {i : Nat} (hi : i < 7) (h : EqAt Z H r v u) (q : Q (.bl (decide (r.kind = i))) H) : rIsi K [v, .ref (clsK Z i)] H Q := by
  obtain ⟨a, dx, fs, rfl, h2, _⟩ := h
  have e := (kitTab_ok T.fact_kitE (clsK_mem r.kind_lt)).2.2.2 _ (clsK_mem hi)
  have ed : decide (clsK Z r.kind = clsK Z i) = decide (r.kind = i) := by
    by_cases h : r.kind = i
    · rw [decide_eq_true h, decide_eq_true (by rw [h])]
    · rw [decide_eq_false h, decide_eq_false fun z => h (clsK_inj T r.kind_lt hi z)]
  rw [ed] at e
  exact ⟨_, _, _, _, _, rfl, .own _, (tcE T r.kind_lt).2.2.2 h2, e, q⟩

/-! ### each name once -/
theorem once_app (l : List Str) (n : Str) : once (l ++ [n]) = addN (once l) [n] := by
  unfold once
  rw [List.foldl_append] <;> rfl
theorem addN_one (a : List Str) (n : Str) : addN a [n] = if a.contains n then a else a ++ [n] := by
  unfold addN
  rw [List.filter_cons, List.filter_nil]
  cases h : a.contains n <;> simp
theorem once_len (l : List Str) : (once l).length ≤ l.length := by
  have h : ∀ (l acc : List Str), (l.foldl (fun acc n => addN acc [n]) acc).length ≤ acc.length + l.length := by
    intro l
    induction l with
    | nil => intro acc; exact Nat.le_refl _
    | cons a l ih =>
      intro acc
      have h1 := ih (addN acc [a])
      have h2 := addN_len acc [a]
      rw [List.length_singleton] at h2
      rw [List.foldl_cons, List.length_cons]
      omega
  have := h l []
  rw [List.length_nil, Nat.zero_add] at this
  exact this
def keyT (n : Str) : Key × V := (.inr n, .bl true)
theorem put_once (l : List Str) (n : Str) : putK (l.map keyT) (.inr n) (.bl true) = (addN l [n]).map keyT := by
  rw [addN_one]
  unfold putK
  have e : ((l.map keyT).any fun kv => decide (kv.1 = Sum.inr n)) = l.contains n := by
    induction l with
    | nil => rfl
    | cons a l ih =>
      rw [List.map_cons, List.any_cons, ih, List.contains_cons]
      have : decide ((keyT a).1 = (Sum.inr n : Key)) = (n == a) := by
        show decide ((Sum.inr a : Key) = Sum.inr n) = _
        by_cases h : a = n
        · subst h; simp
        · rw [decide_eq_false (fun z => h (Sum.inr.inj z))]
          simp
          exact fun z => h z.symm
      rw [this]
  rw [e]
  cases h : l.contains n with
  | true =>
    rw [if_pos rfl, if_pos rfl]
    have : (fun kv : Key × V => if kv.1 = (Sum.inr n : Key) then (kv.1, V.bl true) else kv) ∘ keyT = keyT := by
      funext a
      show (if (Sum.inr a : Key) = Sum.inr n then ((Sum.inr a : Key), V.bl true) else keyT a) = keyT a
      split <;> rfl
    rw [List.map_map, this]
  | false => rw [if_neg (by decide), if_neg (by decide), List.map_append] <;> rfl
theorem kV_keyT (l : List Str) : (l.map keyT).map (fun kv => kV kv.1) = l.map V.str := by rw [List.map_map]; rfl
def sp_each_once : Sp := fun vs H Q _ => ∃ a ns, vs = [.ref a] ∧ H a = some (.lst (ns.map V.str)) ∧ ns.length ≤ 1000 ∧ RetL ((once ns).map V.str) H Q
def sp_each_onceT : Sp := fun vs H Q _ => ∃ a ns, vs = [.ref a] ∧ H a = some (.tup (ns.map V.str)) ∧ ns.length ≤ 1000 ∧ RetL ((once ns).map V.str) H Q

theorem ok_each_once (T : Txt K mg Z) : FnOk P w K mg base CX0 1 Z.f_each_once Z.fd_each_once ["names"] sp_each_once := by
  refine T.F_each_once.ok sc_each_once (fun vs H Q E h => ?_) (fun cdv AA outer s H vs Q E hr h => ?_)
  · obtain ⟨a, ns, rfl, _⟩ := h
    rfl
  · obtain ⟨a, ns, rfl, ha, hl, k⟩ := h
    refine ⟨_, (pss_cons (ps_set (i := 1) sc_each_once.nd rfl (Or.inl rfl) pe_dnewK)
      (pss_cons (ps_for PassesOwn.never rfl (pi_list (pv 0)) (pg_name (i := 2) sc_each_once.nd rfl (Or.inl rfl)) (pss_one (ps_dput (hu_of hr) (pv 1) (pv 2) pe_bl rfl)))
      (pss_one (ps_ret (pe_callTy (call_listD rfl) (by rfl) T.n_list (by decide +kernel) (pa_cons (pv 1) pa_nil)))))), ?_⟩
    walk_at "ss"
    intro d hd
    walk_at "ss"
    have e1 : Ex H (upd H d (.dK [])) := Ex.new hd
    refine ⟨⟨_, SqL.of (e1 _ _ ha)⟩, forL (xs := ns.map V.str) (fun i σ' G => (∃ v2, σ' = [some (.ref a), some (.ref d), v2]) ∧ Ex H G ∧ G a = some (.lst (ns.map V.str)) ∧ G d = some (.dK ((once (ns.take i)).map keyT))) ⟨⟨_, rfl⟩, e1, e1 _ _ ha, upd_same⟩ (fun i σ' G _ q => SqL.of q.2.2.1) ?_ ?_⟩
    · rintro i x σ' G hx ⟨⟨v2, rfl⟩, eG, ga, gd⟩
      rw [List.getElem?_map] at hx
      obtain ⟨n, hn, rfl⟩ := Option.map_eq_some_iff.mp hx
      have hlen := once_len (ns.take i)
      have htl : (ns.take i).length ≤ 1000 := by rw [List.length_take]; omega
      walk_at "ss"
      refine ⟨d, _, rfl, .inl ⟨_, .inr n, gd, rfl, Evl.sz_lt (by rw [List.length_map]; omega), rfl⟩, ?_⟩
      walk_at "ss"
      refine ⟨⟨_, rfl⟩, Ex.mut eG hd, ?_, ?_⟩
      · have nda : a ≠ d := ne_of_none ha hd
        rw [upd_ne nda]
        exact ga
      · rw [upd_same, List.take_add_one, hn]
        show some (HO.dK (putK _ _ _)) = some (HO.dK ((once (ns.take i ++ [n])).map keyT))
        rw [put_once, once_app]
    · rintro σ' G ⟨⟨v2, rfl⟩, eG, ga, gd⟩
      rw [List.length_map, List.take_length] at gd
      walk_at "ss"
      refine ⟨d, _, rfl, .inl gd, fun p hp => ?_⟩
      rw [kV_keyT]
      exact k p _ (fresh_back eG hp) (eG.trans (Ex.new hp)) upd_same

theorem ok_each_onceT (T : Txt K mg Z) : FnOk P w K mg base CX0 1 Z.f_each_once Z.fd_each_once ["names"] sp_each_onceT := by
  refine T.F_each_once.ok sc_each_once (fun vs H Q E h => ?_) (fun cdv AA outer s H vs Q E hr h => ?_)
  · obtain ⟨a, ns, rfl, _⟩ := h
    rfl
  · obtain ⟨a, ns, rfl, ha, hl, k⟩ := h
    refine ⟨_, (pss_cons (ps_set (i := 1) sc_each_once.nd rfl (Or.inl rfl) pe_dnewK)
      (pss_cons (ps_for PassesOwn.never rfl (pi_tup (pv 0)) (pg_name (i := 2) sc_each_once.nd rfl (Or.inl rfl)) (pss_one (ps_dput (hu_of hr) (pv 1) (pv 2) pe_bl rfl)))
      (pss_one (ps_ret (pe_callTy (call_listD rfl) (by rfl) T.n_list (by decide +kernel) (pa_cons (pv 1) pa_nil)))))), ?_⟩
    walk_at "ss"
    intro d hd
    walk_at "ss"
    have e1 : Ex H (upd H d (.dK [])) := Ex.new hd
    refine ⟨⟨_, SqT.of (e1 _ _ ha)⟩, forT (xs := ns.map V.str) (fun i σ' G => (∃ v2, σ' = [some (.ref a), some (.ref d), v2]) ∧ Ex H G ∧ G a = some (.tup (ns.map V.str)) ∧ G d = some (.dK ((once (ns.take i)).map keyT))) ⟨⟨_, rfl⟩, e1, e1 _ _ ha, upd_same⟩ (fun i σ' G _ q => SqT.of q.2.2.1) ?_ ?_⟩
    · rintro i x σ' G hx ⟨⟨v2, rfl⟩, eG, ga, gd⟩
      rw [List.getElem?_map] at hx
      obtain ⟨n, hn, rfl⟩ := Option.map_eq_some_iff.mp hx
      have hlen := once_len (ns.take i)
      have htl : (ns.take i).length ≤ 1000 := by rw [List.length_take]; omega
      walk_at "ss"
      refine ⟨d, _, rfl, .inl ⟨_, .inr n, gd, rfl, Evl.sz_lt (by rw [List.length_map]; omega), rfl⟩, ?_⟩
      walk_at "ss"
      refine ⟨⟨_, rfl⟩, Ex.mut eG hd, ?_, ?_⟩
      · have nda : a ≠ d := ne_of_none ha hd
        rw [upd_ne nda]
        exact ga
      · rw [upd_same, List.take_add_one, hn]
        show some (HO.dK (putK _ _ _)) = some (HO.dK ((once (ns.take i ++ [n])).map keyT))
        rw [put_once, once_app]
    · rintro σ' G ⟨⟨v2, rfl⟩, eG, ga, gd⟩
      rw [List.length_map, List.take_length] at gd
      walk_at "ss"
      refine ⟨d, _, rfl, .inl gd, fun p hp => ?_⟩
      rw [kV_keyT]
      exact k p _ (fresh_back eG hp) (eG.trans (Ex.new hp)) upd_same

/-! ### methods of rows -/
def spE (Z : Adr) (S : Rw → Prop) (R : Rw → V → V → Hp → VK → Prop) : Sp := fun vs H Q _ => ∃ r v u, vs = [v] ∧ EqAt Z H r v u ∧ r.good ∧ S r ∧ R r v u H Q
def Re_told : Rw → V → V → Hp → VK → Prop := fun _ _ u H Q => Q u H
def Re_tells : Rw → V → V → Hp → VK → Prop := fun r _ _ H Q => RetL (r.tells.map V.str) H Q
def Re_names : Rw → V → V → Hp → VK → Prop := fun r _ _ H Q => RetL (r.names.map V.str) H Q
def Re_term (Z : Adr) : Rw → V → V → Hp → VK → Prop := fun r _ _ H Q => match r with
  | .pl _ t => ∀ tv, TermAt Z H t tv → Q tv H
  | _ => Q .non H
def Re_is_call : Rw → V → V → Hp → VK → Prop := fun r _ _ H Q => Q (.bl (decide (r.kind = 6))) H

def spmE_told (Z : Adr) (C : Addr) : Sp := spE Z (fun r => clsK Z r.kind = C) Re_told
def spmE_tells (Z : Adr) (C : Addr) : Sp := spE Z (fun r => clsK Z r.kind = C) Re_tells
def spmE_names (Z : Adr) (C : Addr) : Sp := spE Z (fun r => clsK Z r.kind = C) Re_names
def spmE_term (Z : Adr) (C : Addr) : Sp := spE Z (fun r => clsK Z r.kind = C) (Re_term Z)
theorem ok_Equation_told (T : Txt K mg Z) : FnOk P w K mg base CX0 1 Z.f_Equation_told Z.fd_Equation_told ["self"] (spE Z (fun r => True) Re_told) := by
  refine T.F_Equation_told.ok sc_Equation_told (fun vs H Q E h => ?_) (fun cdv AA outer s H vs Q E hr h => ?_)
  · obtain ⟨r, v, u, rfl, _⟩ := h
    rfl
  · obtain ⟨r, v, u, rfl, ⟨a, dx, fs, rfl, ha, hr2, hrow, hoff, htm⟩, hg, hS, k⟩ := h
    have TX := tcE T r.kind_lt
    refine ⟨_, (pss_one (ps_ret (pe_fld (pv 0) (by rfl)))), ?_⟩
    walk_at "ss"
    exact ⟨_, _, _, _, _, rfl, ha, TX.1, TX.2.1, hrow, k⟩
theorem kind_pl {r : Rw} (h : r.kind = 0) : ∃ n t, r = .pl n t := by
  cases r with
  | pl n t => exact ⟨_, _, rfl⟩
  | vd k n v x => rcases k with _ | _ | k <;> cases h
  | wh n x y => cases h
  | sm ns => cases h
  | cl a b c => cases h
theorem kind_vd {r : Rw} (h : r.kind = 1 ∨ r.kind = 2 ∨ r.kind = 3) : ∃ k n v x, r = .vd k n v x := by
  cases r with
  | vd k n v x => exact ⟨_, _, _, _, rfl⟩
  | _ => simp [Rw.kind] at h
theorem kind_wh {r : Rw} (h : r.kind = 4) : ∃ n x y, r = .wh n x y := by
  cases r with
  | wh n x y => exact ⟨_, _, _, rfl⟩
  | vd k n v x => rcases k with _ | _ | k <;> cases h
  | _ => cases h
theorem kind_sm {r : Rw} (h : r.kind = 5) : ∃ ns, r = .sm ns := by
  cases r with
  | sm ns => exact ⟨_, rfl⟩
  | vd k n v x => rcases k with _ | _ | k <;> cases h
  | _ => cases h
theorem kind_cl {r : Rw} (h : r.kind = 6) : ∃ os nd xs, r = .cl os nd xs := by
  cases r with
  | cl a b c => exact ⟨_, _, _, rfl⟩
  | vd k n v x => rcases k with _ | _ | k <;> cases h
  | _ => cases h
/-- the row's second thing, where it tells one name -/
theorem row_one {H : Hp} {r : Rw} {u : V} (h : RowAt H r u) (hk : r.kind = 0 ∨ r.kind = 1 ∨ r.kind = 2 ∨ r.kind = 3 ∨ r.kind = 4) : ∃ a xs n, u = .ref a ∧ H a = some (.tup (.str r.word :: .str n :: xs)) ∧ r.tells = [n] := by
  cases r with
  | pl n t => obtain ⟨a, w, h1, h2, h3⟩ := h; exact ⟨a, _, _, h1, h2, rfl⟩
  | vd k n v x => obtain ⟨a, h1, h2⟩ := h; exact ⟨a, _, _, h1, h2, rfl⟩
  | wh n x y => obtain ⟨a, h1, h2⟩ := h; exact ⟨a, _, _, h1, h2, rfl⟩
  | sm ns => simp [Rw.kind] at hk
  | cl a b c => simp [Rw.kind] at hk
theorem at_hd {x : V} {xs : List V} : atI (x :: xs) 0 = some x := atI_nat (j := 0) rfl
theorem at_1 {x y : V} {xs : List V} : atI (x :: y :: xs) 1 = some y := atI_nat (j := 1) rfl
theorem ok_Equation_tells (T : Txt K mg Z) : FnOk P w K mg base CX0 1 Z.f_Equation_tells Z.fd_Equation_tells ["self"] (spE Z (fun r => r.kind = 0 ∨ r.kind = 1 ∨ r.kind = 2 ∨ r.kind = 3 ∨ r.kind = 4) Re_tells) := by
  refine T.F_Equation_tells.ok sc_Equation_tells (fun vs H Q E h => ?_) (fun cdv AA outer s H vs Q E hr h => ?_)
  · obtain ⟨r, v, u, rfl, _⟩ := h
    rfl
  · obtain ⟨r, v, u, rfl, ⟨a, dx, fs, rfl, ha, hr2, hrow, hoff, htm⟩, hg, hS, k⟩ := h
    have TX := tcE T r.kind_lt
    obtain ⟨b, xs, n, rfl, hb, ht⟩ := row_one hr2 hS
    refine ⟨_, (pss_one (ps_ret (pe_lst (pa_cons (pe_ix ix_tup (pe_fld (pv 0) (by rfl)) pe_int (fun _ _ => rfl)) pa_nil)))), ?_⟩
    walk_at "ss"
    refine ⟨_, _, _, _, _, rfl, ha, TX.1, TX.2.1, hrow, ?_⟩
    walk_at "ss"
    refine c_ixT (SqT.of hb) at_1 ?_
    walk_at "ss"
    unfold Re_tells at k
    rw [ht] at k
    exact newL k
theorem ok_Same_tells (T : Txt K mg Z) : FnOk P w K mg base CX0 1 Z.f_Same_tells Z.fd_Same_tells ["self"] (spE Z (fun r => r.kind = 5) Re_tells) := by
  refine T.F_Same_tells.ok sc_Same_tells (fun vs H Q E h => ?_) (fun cdv AA outer s H vs Q E hr h => ?_)
  · obtain ⟨r, v, u, rfl, _⟩ := h
    rfl
  · obtain ⟨r, v, u, rfl, ⟨a, dx, fs, rfl, ha, hr2, hrow, hoff, htm⟩, hg, hS, k⟩ := h
    have TX := tcE T r.kind_lt
    obtain ⟨ns, rfl⟩ := kind_sm hS
    refine ⟨_, (pss_one (ps_ret (pe_lst pa_nil))), ?_⟩
    walk_at "ss"
    exact newL k
theorem ok_Call_tells (T : Txt K mg Z) : FnOk P w K mg base CX0 1 Z.f_Call_tells Z.fd_Call_tells ["self"] (spE Z (fun r => r.kind = 6) Re_tells) := by
  refine T.F_Call_tells.ok sc_Call_tells (fun vs H Q E h => ?_) (fun cdv AA outer s H vs Q E hr h => ?_)
  · obtain ⟨r, v, u, rfl, _⟩ := h
    rfl
  · obtain ⟨r, v, u, rfl, ⟨a, dx, fs, rfl, ha, hr2, hrow, hoff, htm⟩, hg, hS, k⟩ := h
    have TX := tcE T r.kind_lt
    obtain ⟨os, nd, xs, rfl⟩ := kind_cl hS
    obtain ⟨b, p, q, rfl, hb, hp, hq⟩ := hr2
    refine ⟨_, (pss_one (ps_ret (pe_callTy call_list_of (by rfl) T.n_list (by decide +kernel) (pa_cons (pe_ix ix_tup (pe_fld (pv 0) (by rfl)) pe_int (fun _ _ => rfl)) pa_nil)))), ?_⟩
    walk_at "ss"
    refine ⟨_, _, _, _, _, rfl, ha, TX.1, TX.2.1, hrow, ?_⟩
    walk_at "ss"
    refine c_ixT (SqT.of hb) rfl ?_
    walk_at "ss"
    refine ⟨_, _, rfl, .inr (SqT.of hp), fun l hl => ?_⟩
    exact k l _ hl (Ex.new hl) upd_same
theorem ok_Equation_names (T : Txt K mg Z) : FnOk P w K mg base CX0 1 Z.f_Equation_names Z.fd_Equation_names ["self"] (spE Z (fun r => r.kind = 1 ∨ r.kind = 2 ∨ r.kind = 3) Re_names) := by
  refine T.F_Equation_names.ok sc_Equation_names (fun vs H Q E h => ?_) (fun cdv AA outer s H vs Q E hr h => ?_)
  · obtain ⟨r, v, u, rfl, _⟩ := h
    rfl
  · obtain ⟨r, v, u, rfl, ⟨a, dx, fs, rfl, ha, hr2, hrow, hoff, htm⟩, hg, hS, k⟩ := h
    have TX := tcE T r.kind_lt
    obtain ⟨kk, n, w0, x, rfl⟩ := kind_vd hS
    obtain ⟨b, rfl, hb⟩ := hr2
    refine ⟨_, (pss_one (ps_ret (pe_lst (pa_cons (pe_ix ix_tup (pe_fld (pv 0) (by rfl)) pe_int (fun _ _ => rfl)) pa_nil)))), ?_⟩
    walk_at "ss"
    refine ⟨_, _, _, _, _, rfl, ha, TX.1, TX.2.1, hrow, ?_⟩
    walk_at "ss"
    refine c_ixT (SqT.of hb) rfl ?_
    walk_at "ss"
    exact newL k
theorem ok_Plain_names (T : Txt K mg Z)  : FnOk P w K mg base CX0 (9) Z.f_Plain_names Z.fd_Plain_names ["self"] (spE Z (fun r => r.kind = 0) Re_names) := by
  refine T.F_Plain_names.ok sc_Plain_names (fun vs H Q E h => ?_) (fun cdv AA outer s H vs Q E hr h => ?_)
  · obtain ⟨r, v, u, rfl, _⟩ := h
    rfl
  · obtain ⟨r, v, u, rfl, ⟨a, dx, fs, rfl, ha, hr2, hrow, hoff, htm⟩, hg, hS, k⟩ := h
    have TX := tcE T r.kind_lt
    obtain ⟨n, t, rfl⟩ := kind_pl hS
    obtain ⟨tv, hk, htv⟩ := htm n t rfl
    have GM_names := gm_names (P := P) (w := w) (base := base) T 5
    refine ⟨_, (pss_one (ps_ret (pe_methP0 (pe_fld (pv 0) (by rfl)) GM_names (hr.mono (by omega)) pass0))), ?_⟩
    walk_at "ss"
    refine ⟨_, _, _, _, _, rfl, ha, TX.1, TX.2.2.1 rfl, hk, ?_⟩
    obtain ⟨a2, dx2, fs2, rfl, ha2, l1, l2, l3, l4⟩ := htv.cls
    refine ⟨a2, _, dx2, fs2, rfl, ha2, clsT_MC Z t, l2, ?_⟩
    walk_at "ss"
    have h5 := hg.2.2
    exact ⟨t, _, rfl, htv, rfl, h5, by omega, k⟩
theorem ok_When_names (T : Txt K mg Z) : FnOk P w K mg base CX0 2 Z.f_When_names Z.fd_When_names ["self"] (spE Z (fun r => r.kind = 4) Re_names) := by
  have G_each_once := ok_each_once (P := P) (w := w) (base := base) T
  refine T.F_When_names.ok sc_When_names (fun vs H Q E h => ?_) (fun cdv AA outer s H vs Q E hr h => ?_)
  · obtain ⟨r, v, u, rfl, _⟩ := h
    rfl
  · obtain ⟨r, v, u, rfl, ⟨a, dx, fs, rfl, ha, hr2, hrow, hoff, htm⟩, hg, hS, k⟩ := h
    have TX := tcE T r.kind_lt
    obtain ⟨n, x, y, rfl⟩ := kind_wh hS
    obtain ⟨b, rfl, hb⟩ := hr2
    refine ⟨_, (pss_one (ps_ret (pe_call G_each_once (hr.mono (by omega)) rfl T.g_each_once T.F_each_once.kp T.b_each_once .nil pass0 (pa_cons (pe_callTy call_list_of (by rfl) T.n_list (by decide +kernel) (pa_cons (pe_slice sl_tup (pe_fld (pv 0) (by rfl)) (po_some pe_int) po_none) pa_nil)) pa_nil)))), ?_⟩
    walk_at "ss"
    refine ⟨_, _, _, _, _, rfl, ha, TX.1, TX.2.1, hrow, ?_⟩
    walk_at "ss"
    refine ⟨b, _, rfl, SqT.of hb, fun z => absurd (show (2 : Nat) = 0 from z.1) (by decide), fun p2 hp2 => ?_⟩
    walk_at "ss"
    refine ⟨_, _, rfl, .inr (SqT.of upd_same), fun l hl => ?_⟩
    walk_at "ss"
    refine ⟨l, [x, y], rfl, upd_same, by simp, RetL.up k ((Ex.new hp2).trans (Ex.new hl))⟩
theorem ok_Same_names (T : Txt K mg Z)  : FnOk P w K mg base CX0 (2) Z.f_Same_names Z.fd_Same_names ["self"] (spE Z (fun r => r.kind = 5) Re_names) := by
  refine T.F_Same_names.ok sc_Same_names (fun vs H Q E h => ?_) (fun cdv AA outer s H vs Q E hr h => ?_)
  · obtain ⟨r, v, u, rfl, _⟩ := h
    rfl
  · obtain ⟨r, v, u, rfl, ⟨a, dx, fs, rfl, ha, hr2, hrow, hoff, htm⟩, hg, hS, k⟩ := h
    have TX := tcE T r.kind_lt
    obtain ⟨ns, rfl⟩ := kind_sm hS
    obtain ⟨b, p, rfl, hb, hp⟩ := hr2
    have G_each_once := ok_each_onceT (P := P) (w := w) (base := base) T
    refine ⟨_, (pss_one (ps_ret (pe_call G_each_once (hr.mono (by omega)) rfl T.g_each_once T.F_each_once.kp T.b_each_once .nil pass0 (pa_cons (pe_ix ix_tup (pe_fld (pv 0) (by rfl)) pe_int (fun _ _ => rfl)) pa_nil)))), ?_⟩
    walk_at "ss"
    refine ⟨_, _, _, _, _, rfl, ha, TX.1, TX.2.1, hrow, ?_⟩
    walk_at "ss"
    refine c_ixT (SqT.of hb) rfl ?_
    walk_at "ss"
    have hlen := hg.2.1
    exact ⟨p, ns, rfl, hp, by omega, k⟩
theorem ok_Call_names (T : Txt K mg Z)  : FnOk P w K mg base CX0 (2) Z.f_Call_names Z.fd_Call_names ["self"] (spE Z (fun r => r.kind = 6) Re_names) := by
  refine T.F_Call_names.ok sc_Call_names (fun vs H Q E h => ?_) (fun cdv AA outer s H vs Q E hr h => ?_)
  · obtain ⟨r, v, u, rfl, _⟩ := h
    rfl
  · obtain ⟨r, v, u, rfl, ⟨a, dx, fs, rfl, ha, hr2, hrow, hoff, htm⟩, hg, hS, k⟩ := h
    have TX := tcE T r.kind_lt
    obtain ⟨os, nd, xs, rfl⟩ := kind_cl hS
    obtain ⟨b, q, p, rfl, hb, hq, hp⟩ := hr2
    have G_each_once := ok_each_onceT (P := P) (w := w) (base := base) T
    refine ⟨_, (pss_one (ps_ret (pe_call G_each_once (hr.mono (by omega)) rfl T.g_each_once T.F_each_once.kp T.b_each_once .nil pass0 (pa_cons (pe_ix ix_tup (pe_fld (pv 0) (by rfl)) pe_int (fun _ _ => rfl)) pa_nil)))), ?_⟩
    walk_at "ss"
    refine ⟨_, _, _, _, _, rfl, ha, TX.1, TX.2.1, hrow, ?_⟩
    walk_at "ss"
    refine c_ixT (SqT.of hb) rfl ?_
    walk_at "ss"
    have hlen := hg.2.2.2.2.2.1
    exact ⟨p, xs, rfl, hp, by omega, k⟩
theorem ok_Equation_term (T : Txt K mg Z) : FnOk P w K mg base CX0 1 Z.f_Equation_term Z.fd_Equation_term ["self"] (spE Z (fun r => r.kind = 1 ∨ r.kind = 2 ∨ r.kind = 3 ∨ r.kind = 4 ∨ r.kind = 5 ∨ r.kind = 6) (Re_term Z)) := by
  refine T.F_Equation_term.ok sc_Equation_term (fun vs H Q E h => ?_) (fun cdv AA outer s H vs Q E hr h => ?_)
  · obtain ⟨r, v, u, rfl, _⟩ := h
    rfl
  · obtain ⟨r, v, u, rfl, ⟨a, dx, fs, rfl, ha, hr2, hrow, hoff, htm⟩, hg, hS, k⟩ := h
    have TX := tcE T r.kind_lt
    refine ⟨_, (pss_one (ps_ret pe_non)), ?_⟩
    walk_at "ss"
    cases r with
    | pl n t => simp [Rw.kind] at hS
    | _ => exact k
theorem ok_Plain_term (T : Txt K mg Z) : FnOk P w K mg base CX0 1 Z.f_Plain_term Z.fd_Plain_term ["self"] (spE Z (fun r => r.kind = 0) (Re_term Z)) := by
  refine T.F_Plain_term.ok sc_Plain_term (fun vs H Q E h => ?_) (fun cdv AA outer s H vs Q E hr h => ?_)
  · obtain ⟨r, v, u, rfl, _⟩ := h
    rfl
  · obtain ⟨r, v, u, rfl, ⟨a, dx, fs, rfl, ha, hr2, hrow, hoff, htm⟩, hg, hS, k⟩ := h
    have TX := tcE T r.kind_lt
    obtain ⟨n, t, rfl⟩ := kind_pl hS
    obtain ⟨tv, hk, htv⟩ := htm n t rfl
    refine ⟨_, (pss_one (ps_ret (pe_fld (pv 0) (by rfl)))), ?_⟩
    walk_at "ss"
    exact ⟨_, _, _, _, _, rfl, ha, TX.1, TX.2.2.1 rfl, hk, k tv htv⟩
theorem gmE_told (T : Txt K mg Z) : ∀ C, MCE Z C → MOk P w K mg base CX0 1 C "told" (spmE_told Z C) := by
  rintro C ⟨i, hi, rfl⟩
  have hi' : i = 0 ∨ i = 1 ∨ i = 2 ∨ i = 3 ∨ i = 4 ∨ i = 5 ∨ i = 6 := by omega
  rcases hi' with rfl | rfl | rfl | rfl | rfl | rfl | rfl
  · exact ⟨(tcB_ok T.x_Plain).cl, _, _, _, ⟨T.h_told_Plain, T.y_Equation_told, T.F_Equation_told.kp⟩, ((ok_Equation_told (P := P) (w := w) (base := base) T).mono (by decide)).imp fun vs H Q E ⟨r, v, u, e, h, hg, hc, k⟩ => ⟨r, v, u, e, h, hg, True.intro, k⟩, T.b_Equation_told⟩
  · exact ⟨(tcB_ok T.x_Before).cl, _, _, _, ⟨T.h_told_Before, T.y_Equation_told, T.F_Equation_told.kp⟩, ((ok_Equation_told (P := P) (w := w) (base := base) T).mono (by decide)).imp fun vs H Q E ⟨r, v, u, e, h, hg, hc, k⟩ => ⟨r, v, u, e, h, hg, True.intro, k⟩, T.b_Equation_told⟩
  · exact ⟨(tcB_ok T.x_Hold).cl, _, _, _, ⟨T.h_told_Hold, T.y_Equation_told, T.F_Equation_told.kp⟩, ((ok_Equation_told (P := P) (w := w) (base := base) T).mono (by decide)).imp fun vs H Q E ⟨r, v, u, e, h, hg, hc, k⟩ => ⟨r, v, u, e, h, hg, True.intro, k⟩, T.b_Equation_told⟩
  · exact ⟨(tcB_ok T.x_Like).cl, _, _, _, ⟨T.h_told_Like, T.y_Equation_told, T.F_Equation_told.kp⟩, ((ok_Equation_told (P := P) (w := w) (base := base) T).mono (by decide)).imp fun vs H Q E ⟨r, v, u, e, h, hg, hc, k⟩ => ⟨r, v, u, e, h, hg, True.intro, k⟩, T.b_Equation_told⟩
  · exact ⟨(tcB_ok T.x_When).cl, _, _, _, ⟨T.h_told_When, T.y_Equation_told, T.F_Equation_told.kp⟩, ((ok_Equation_told (P := P) (w := w) (base := base) T).mono (by decide)).imp fun vs H Q E ⟨r, v, u, e, h, hg, hc, k⟩ => ⟨r, v, u, e, h, hg, True.intro, k⟩, T.b_Equation_told⟩
  · exact ⟨(tcB_ok T.x_Same).cl, _, _, _, ⟨T.h_told_Same, T.y_Equation_told, T.F_Equation_told.kp⟩, ((ok_Equation_told (P := P) (w := w) (base := base) T).mono (by decide)).imp fun vs H Q E ⟨r, v, u, e, h, hg, hc, k⟩ => ⟨r, v, u, e, h, hg, True.intro, k⟩, T.b_Equation_told⟩
  · exact ⟨(tcB_ok T.x_Call).cl, _, _, _, ⟨T.h_told_Call, T.y_Equation_told, T.F_Equation_told.kp⟩, ((ok_Equation_told (P := P) (w := w) (base := base) T).mono (by decide)).imp fun vs H Q E ⟨r, v, u, e, h, hg, hc, k⟩ => ⟨r, v, u, e, h, hg, True.intro, k⟩, T.b_Equation_told⟩
theorem gmE_tells (T : Txt K mg Z) : ∀ C, MCE Z C → MOk P w K mg base CX0 1 C "tells" (spmE_tells Z C) := by
  rintro C ⟨i, hi, rfl⟩
  have hi' : i = 0 ∨ i = 1 ∨ i = 2 ∨ i = 3 ∨ i = 4 ∨ i = 5 ∨ i = 6 := by omega
  rcases hi' with rfl | rfl | rfl | rfl | rfl | rfl | rfl
  · exact ⟨(tcB_ok T.x_Plain).cl, _, _, _, ⟨T.h_tells_Plain, T.y_Equation_tells, T.F_Equation_tells.kp⟩, ((ok_Equation_tells (P := P) (w := w) (base := base) T).mono (by decide)).imp fun vs H Q E ⟨r, v, u, e, h, hg, hc, k⟩ => ⟨r, v, u, e, h, hg, (by have := clsK_inj T r.kind_lt hi hc; omega), k⟩, T.b_Equation_tells⟩
  · exact ⟨(tcB_ok T.x_Before).cl, _, _, _, ⟨T.h_tells_Before, T.y_Equation_tells, T.F_Equation_tells.kp⟩, ((ok_Equation_tells (P := P) (w := w) (base := base) T).mono (by decide)).imp fun vs H Q E ⟨r, v, u, e, h, hg, hc, k⟩ => ⟨r, v, u, e, h, hg, (by have := clsK_inj T r.kind_lt hi hc; omega), k⟩, T.b_Equation_tells⟩
  · exact ⟨(tcB_ok T.x_Hold).cl, _, _, _, ⟨T.h_tells_Hold, T.y_Equation_tells, T.F_Equation_tells.kp⟩, ((ok_Equation_tells (P := P) (w := w) (base := base) T).mono (by decide)).imp fun vs H Q E ⟨r, v, u, e, h, hg, hc, k⟩ => ⟨r, v, u, e, h, hg, (by have := clsK_inj T r.kind_lt hi hc; omega), k⟩, T.b_Equation_tells⟩
  · exact ⟨(tcB_ok T.x_Like).cl, _, _, _, ⟨T.h_tells_Like, T.y_Equation_tells, T.F_Equation_tells.kp⟩, ((ok_Equation_tells (P := P) (w := w) (base := base) T).mono (by decide)).imp fun vs H Q E ⟨r, v, u, e, h, hg, hc, k⟩ => ⟨r, v, u, e, h, hg, (by have := clsK_inj T r.kind_lt hi hc; omega), k⟩, T.b_Equation_tells⟩
  · exact ⟨(tcB_ok T.x_When).cl, _, _, _, ⟨T.h_tells_When, T.y_Equation_tells, T.F_Equation_tells.kp⟩, ((ok_Equation_tells (P := P) (w := w) (base := base) T).mono (by decide)).imp fun vs H Q E ⟨r, v, u, e, h, hg, hc, k⟩ => ⟨r, v, u, e, h, hg, (by have := clsK_inj T r.kind_lt hi hc; omega), k⟩, T.b_Equation_tells⟩
  · exact ⟨(tcB_ok T.x_Same).cl, _, _, _, ⟨T.h_tells_Same, T.y_Same_tells, T.F_Same_tells.kp⟩, ((ok_Same_tells (P := P) (w := w) (base := base) T).mono (by decide)).imp fun vs H Q E ⟨r, v, u, e, h, hg, hc, k⟩ => ⟨r, v, u, e, h, hg, (by have := clsK_inj T r.kind_lt hi hc; omega), k⟩, T.b_Same_tells⟩
  · exact ⟨(tcB_ok T.x_Call).cl, _, _, _, ⟨T.h_tells_Call, T.y_Call_tells, T.F_Call_tells.kp⟩, ((ok_Call_tells (P := P) (w := w) (base := base) T).mono (by decide)).imp fun vs H Q E ⟨r, v, u, e, h, hg, hc, k⟩ => ⟨r, v, u, e, h, hg, (by have := clsK_inj T r.kind_lt hi hc; omega), k⟩, T.b_Call_tells⟩
theorem gmE_names (T : Txt K mg Z) : ∀ C, MCE Z C → MOk P w K mg base CX0 9 C "names" (spmE_names Z C) := by
  rintro C ⟨i, hi, rfl⟩
  have hi' : i = 0 ∨ i = 1 ∨ i = 2 ∨ i = 3 ∨ i = 4 ∨ i = 5 ∨ i = 6 := by omega
  rcases hi' with rfl | rfl | rfl | rfl | rfl | rfl | rfl
  · exact ⟨(tcB_ok T.x_Plain).cl, _, _, _, ⟨T.h_names_Plain, T.y_Plain_names, T.F_Plain_names.kp⟩, ((ok_Plain_names (P := P) (w := w) (base := base) T).mono (by decide)).imp fun vs H Q E ⟨r, v, u, e, h, hg, hc, k⟩ => ⟨r, v, u, e, h, hg, (by have := clsK_inj T r.kind_lt hi hc; omega), k⟩, T.b_Plain_names⟩
  · exact ⟨(tcB_ok T.x_Before).cl, _, _, _, ⟨T.h_names_Before, T.y_Equation_names, T.F_Equation_names.kp⟩, ((ok_Equation_names (P := P) (w := w) (base := base) T).mono (by decide)).imp fun vs H Q E ⟨r, v, u, e, h, hg, hc, k⟩ => ⟨r, v, u, e, h, hg, (by have := clsK_inj T r.kind_lt hi hc; omega), k⟩, T.b_Equation_names⟩
  · exact ⟨(tcB_ok T.x_Hold).cl, _, _, _, ⟨T.h_names_Hold, T.y_Equation_names, T.F_Equation_names.kp⟩, ((ok_Equation_names (P := P) (w := w) (base := base) T).mono (by decide)).imp fun vs H Q E ⟨r, v, u, e, h, hg, hc, k⟩ => ⟨r, v, u, e, h, hg, (by have := clsK_inj T r.kind_lt hi hc; omega), k⟩, T.b_Equation_names⟩
  · exact ⟨(tcB_ok T.x_Like).cl, _, _, _, ⟨T.h_names_Like, T.y_Equation_names, T.F_Equation_names.kp⟩, ((ok_Equation_names (P := P) (w := w) (base := base) T).mono (by decide)).imp fun vs H Q E ⟨r, v, u, e, h, hg, hc, k⟩ => ⟨r, v, u, e, h, hg, (by have := clsK_inj T r.kind_lt hi hc; omega), k⟩, T.b_Equation_names⟩
  · exact ⟨(tcB_ok T.x_When).cl, _, _, _, ⟨T.h_names_When, T.y_When_names, T.F_When_names.kp⟩, ((ok_When_names (P := P) (w := w) (base := base) T).mono (by decide)).imp fun vs H Q E ⟨r, v, u, e, h, hg, hc, k⟩ => ⟨r, v, u, e, h, hg, (by have := clsK_inj T r.kind_lt hi hc; omega), k⟩, T.b_When_names⟩
  · exact ⟨(tcB_ok T.x_Same).cl, _, _, _, ⟨T.h_names_Same, T.y_Same_names, T.F_Same_names.kp⟩, ((ok_Same_names (P := P) (w := w) (base := base) T).mono (by decide)).imp fun vs H Q E ⟨r, v, u, e, h, hg, hc, k⟩ => ⟨r, v, u, e, h, hg, (by have := clsK_inj T r.kind_lt hi hc; omega), k⟩, T.b_Same_names⟩
  · exact ⟨(tcB_ok T.x_Call).cl, _, _, _, ⟨T.h_names_Call, T.y_Call_names, T.F_Call_names.kp⟩, ((ok_Call_names (P := P) (w := w) (base := base) T).mono (by decide)).imp fun vs H Q E ⟨r, v, u, e, h, hg, hc, k⟩ => ⟨r, v, u, e, h, hg, (by have := clsK_inj T r.kind_lt hi hc; omega), k⟩, T.b_Call_names⟩
theorem gmE_term (T : Txt K mg Z) : ∀ C, MCE Z C → MOk P w K mg base CX0 1 C "term" (spmE_term Z C) := by
  rintro C ⟨i, hi, rfl⟩
  have hi' : i = 0 ∨ i = 1 ∨ i = 2 ∨ i = 3 ∨ i = 4 ∨ i = 5 ∨ i = 6 := by omega
  rcases hi' with rfl | rfl | rfl | rfl | rfl | rfl | rfl
  · exact ⟨(tcB_ok T.x_Plain).cl, _, _, _, ⟨T.h_term_Plain, T.y_Plain_term, T.F_Plain_term.kp⟩, ((ok_Plain_term (P := P) (w := w) (base := base) T).mono (by decide)).imp fun vs H Q E ⟨r, v, u, e, h, hg, hc, k⟩ => ⟨r, v, u, e, h, hg, (by have := clsK_inj T r.kind_lt hi hc; omega), k⟩, T.b_Plain_term⟩
  · exact ⟨(tcB_ok T.x_Before).cl, _, _, _, ⟨T.h_term_Before, T.y_Equation_term, T.F_Equation_term.kp⟩, ((ok_Equation_term (P := P) (w := w) (base := base) T).mono (by decide)).imp fun vs H Q E ⟨r, v, u, e, h, hg, hc, k⟩ => ⟨r, v, u, e, h, hg, (by have := clsK_inj T r.kind_lt hi hc; omega), k⟩, T.b_Equation_term⟩
  · exact ⟨(tcB_ok T.x_Hold).cl, _, _, _, ⟨T.h_term_Hold, T.y_Equation_term, T.F_Equation_term.kp⟩, ((ok_Equation_term (P := P) (w := w) (base := base) T).mono (by decide)).imp fun vs H Q E ⟨r, v, u, e, h, hg, hc, k⟩ => ⟨r, v, u, e, h, hg, (by have := clsK_inj T r.kind_lt hi hc; omega), k⟩, T.b_Equation_term⟩
  · exact ⟨(tcB_ok T.x_Like).cl, _, _, _, ⟨T.h_term_Like, T.y_Equation_term, T.F_Equation_term.kp⟩, ((ok_Equation_term (P := P) (w := w) (base := base) T).mono (by decide)).imp fun vs H Q E ⟨r, v, u, e, h, hg, hc, k⟩ => ⟨r, v, u, e, h, hg, (by have := clsK_inj T r.kind_lt hi hc; omega), k⟩, T.b_Equation_term⟩
  · exact ⟨(tcB_ok T.x_When).cl, _, _, _, ⟨T.h_term_When, T.y_Equation_term, T.F_Equation_term.kp⟩, ((ok_Equation_term (P := P) (w := w) (base := base) T).mono (by decide)).imp fun vs H Q E ⟨r, v, u, e, h, hg, hc, k⟩ => ⟨r, v, u, e, h, hg, (by have := clsK_inj T r.kind_lt hi hc; omega), k⟩, T.b_Equation_term⟩
  · exact ⟨(tcB_ok T.x_Same).cl, _, _, _, ⟨T.h_term_Same, T.y_Equation_term, T.F_Equation_term.kp⟩, ((ok_Equation_term (P := P) (w := w) (base := base) T).mono (by decide)).imp fun vs H Q E ⟨r, v, u, e, h, hg, hc, k⟩ => ⟨r, v, u, e, h, hg, (by have := clsK_inj T r.kind_lt hi hc; omega), k⟩, T.b_Equation_term⟩
  · exact ⟨(tcB_ok T.x_Call).cl, _, _, _, ⟨T.h_term_Call, T.y_Equation_term, T.F_Equation_term.kp⟩, ((ok_Equation_term (P := P) (w := w) (base := base) T).mono (by decide)).imp fun vs H Q E ⟨r, v, u, e, h, hg, hc, k⟩ => ⟨r, v, u, e, h, hg, (by have := clsK_inj T r.kind_lt hi hc; omega), k⟩, T.b_Equation_term⟩

/-! ### rows made -/
theorem TermAt.keepM {H H2 : Hp} (e : ∀ a C dx fs, MC Z C → H a = some (.ins C dx fs) → H2 a = some (.ins C dx fs)) : ∀ {t : Tm} {v : V}, TermAt Z H t v → TermAt Z H2 t v := by
  intro t
  induction t with
  | nm s => rintro v ⟨a, dx, h1, h2⟩; exact ⟨a, dx, h1, e _ _ _ _ (clsT_MC Z (.nm s)) h2⟩
  | vl x => rintro v ⟨a, dx, h1, h2⟩; exact ⟨a, dx, h1, e _ _ _ _ (clsT_MC Z (.vl x)) h2⟩
  | two op p q ihp ihq => rintro v ⟨a, dx, v1, v2, h1, h2, h3, h4⟩; exact ⟨a, dx, v1, v2, h1, e _ _ _ _ (clsT_MC Z (.two op p q)) h2, ihp h3, ihq h4⟩
  | nt p ihp => rintro v ⟨a, dx, v1, h1, h2, h3⟩; exact ⟨a, dx, v1, h1, e _ _ _ _ (clsT_MC Z (.nt p)) h2, ihp h3⟩
  | pk c p q ihc ihp ihq => rintro v ⟨a, dx, v0, v1, v2, h1, h2, h3, h4, h5⟩; exact ⟨a, dx, v0, v1, v2, h1, e _ _ _ _ (clsT_MC Z (.pk c p q)) h2, ihc h3, ihp h4, ihq h5⟩
theorem MC_ne (T : Txt K mg Z) {C : Addr} (h : MC Z C) : C ≠ Z.c_Plain := by
  rcases h with rfl | rfl | rfl | rfl | rfl
  · exact (difB_ne (i := 0) (j := 1) T.fact_difT rfl rfl (by decide)).symm
  · exact (difB_ne (i := 0) (j := 2) T.fact_difT rfl rfl (by decide)).symm
  · exact (difB_ne (i := 0) (j := 3) T.fact_difT rfl rfl (by decide)).symm
  · exact (difB_ne (i := 0) (j := 4) T.fact_difT rfl rfl (by decide)).symm
  · exact (difB_ne (i := 0) (j := 5) T.fact_difT rfl rfl (by decide)).symm
def RetE (Z : Adr) (r : Rw) (u : V) (H : Hp) (Q : VK) : Prop := ∀ v H2, Ex H H2 → EqAt Z H2 r v u → Q v H2
theorem RetE.up {r : Rw} {u : V} {H0 H : Hp} {Q : VK} (k : RetE Z r u H0 Q) (e : Ex H0 H) : RetE Z r u H Q := fun v H2 e2 => k v H2 (e.trans e2)
def sp_Equation_init (Z : Adr) : Sp := fun vs H Q _ => ∃ x dx i v, vs = [.ref x, v] ∧ i < 7 ∧ H x = some (.ins (clsK Z i) dx []) ∧ Q .non (upd H x (.ins (clsK Z i) dx [("told_row", v)]))
theorem ok_Equation_init (T : Txt K mg Z) : FnOk P w K mg base CX0 1 Z.f_Equation_init Z.fd_Equation_init ["self", "row"] (sp_Equation_init Z) := by
  refine T.F_Equation_init.ok sc_Equation_init (fun vs H Q E h => ?_) (fun cdv AA outer s H vs Q E hr h => ?_)
  · obtain ⟨x, dx, i, v, rfl, _⟩ := h
    rfl
  · obtain ⟨x, dx, i, v, rfl, hi, hx, k⟩ := h
    have TX := tcE T hi
    refine ⟨_, (pss_one (ps_fld (pv 0) (pv 1) (by rfl))), ?_⟩
    walk_at "ss"
    refine ⟨x, _, dx, _, rfl, hx, TX.1, TX.2.1, by simp, ?_⟩
    walk_at "ss"
    exact k
def sp_Plain_init (Z : Adr) : Sp := fun vs H Q _ => ∃ x dx n t u H0, vs = [.ref x, u] ∧ H x = some (.ins Z.c_Plain dx []) ∧ H0 x = none ∧ Ex H0 H ∧ RowAt H0 (.pl n t) u ∧ t.good ∧ t.dep ≤ 5 ∧
  ∀ H2 tv, Ex H0 H2 → H2 x = some (.ins Z.c_Plain dx [("told_row", u), ("kept_term", tv)]) → TermAt Z H2 t tv → Q .non H2
theorem ok_Plain_init (T : Txt K mg Z)  : FnOk P w K mg base CX0 (20) Z.f_Plain_init Z.fd_Plain_init ["self", "row"] (sp_Plain_init Z) := by
  have G_Equation_init := ok_Equation_init (P := P) (w := w) (base := base) T
  have G_term_of := ok_term_of (P := P) (w := w) (base := base) T
  refine T.F_Plain_init.ok sc_Plain_init (fun vs H Q E h => ?_) (fun cdv AA outer s H vs Q E hr h => ?_)
  · obtain ⟨x, dx, n, t, u, H0, rfl, _⟩ := h
    rfl
  · obtain ⟨x, dx, n, t, u, H0, rfl, hx, h0, e0, ⟨b, tw, rfl, hb, hw⟩, hg, hd, k⟩ := h
    have TX := tcE T (i := 0) (by decide)
    refine ⟨_, (pss_cons (ps_expr (pe_cm rfl T.m_Equation (cmB_ok T.fact_cm_Equation) G_Equation_init (hr.mono (by omega)) T.F_Equation_init.kp T.b_Equation_init pass0 (pa_cons (pv 0) (pa_cons (pv 1) pa_nil))))
      (pss_one (ps_fld (pv 0) (pe_call G_term_of (hr.mono (by omega)) rfl T.g_term_of T.F_term_of.kp T.b_term_of .nil pass0 (pa_cons (pe_ix ix_tup (pv 1) pe_int (fun _ _ => rfl)) pa_nil)) (by rfl)))), ?_⟩
    walk_at "ss"
    refine ⟨x, dx, 0, _, rfl, by decide, hx, ?_⟩
    have e1 : Ex H0 (upd H x (.ins (clsK Z 0) dx [("told_row", .ref b)])) := Ex.mut e0 h0
    have hx1 : upd H x (.ins (clsK Z 0) dx [("told_row", .ref b)]) x = some (.ins (clsK Z 0) dx [("told_row", .ref b)]) := upd_same
    generalize upd H x (.ins (clsK Z 0) dx [("told_row", .ref b)]) = H1 at e1 hx1
    walk_at "ss"
    refine c_ixT (SqT.of (e1 _ _ hb)) rfl ?_
    walk_at "ss"
    refine ⟨t, tw, rfl, hw.up e1, hg, hd, fun tv H2 e2 htv => ?_⟩
    walk_at "ss"
    refine ⟨x, _, dx, _, rfl, e2 _ _ hx1, TX.1, TX.2.2.1 rfl, by simp, ?_⟩
    rw [put_tl (by decide +kernel)]
    walk_at "ss"
    refine k _ tv (Ex.mut (e1.trans e2) h0) upd_same (htv.keepM fun a C dx' fs hC ha => ?_)
    rw [upd_ne]
    · exact ha
    · intro z
      subst z
      have := (e2 _ _ hx1).symm.trans ha
      injection this with this
      injection this with h1
      exact MC_ne T hC h1.symm
theorem offE1 {u : V} : offE [("told_row", u)] := by
  refine ⟨?_, ?_, ?_, ?_, ?_⟩ <;> exact lk_tl (by decide +kernel) rfl
theorem offE2 {u v : V} : offE [("told_row", u), ("kept_term", v)] := by
  refine ⟨?_, ?_, ?_, ?_, ?_⟩ <;> exact lk_tl (by decide +kernel) (lk_tl (by decide +kernel) rfl)
theorem offX1 {u : V} : offX [("told_row", u)] := by
  refine ⟨?_, ?_⟩ <;> exact lk_tl (by decide +kernel) rfl
theorem offX2 {u v : V} : offX [("told_row", u), ("kept_term", v)] := by
  refine ⟨?_, ?_⟩ <;> exact lk_tl (by decide +kernel) (lk_tl (by decide +kernel) rfl)
theorem mk_row {H : Hp} {Q : VK} {E : XK} {i : Nat} {r : Rw} {u : V} (hi : r.kind = i) (h0 : i ≠ 0) (hr : RowAt H r u) (k : RetE Z r u H Q) : MkP2 (clsK Z i) (sp_Equation_init Z) [u] H Q E := fun x dx hx hd _ => by
  have hk := r.kind_lt
  refine ⟨x, dx, i, u, rfl, by omega, upd_same, rfl, ?_⟩
  have e1 : Ex H (upd (upd (upd H dx (.own x)) x (.ins (clsK Z i) dx [])) x (.ins (clsK Z i) dx [("told_row", u)])) := Ex.mut (mk_heap hx hd) hx
  refine k _ _ e1 ⟨x, dx, _, rfl, by rw [hi]; exact upd_same, hr.up e1, lk_hd, ⟨offE1, offX1⟩, fun n t e => ?_⟩
  subst e
  exact absurd hi.symm h0
theorem mk_Plain {H : Hp} {Q : VK} {E : XK} {n : Str} {t : Tm} {u : V} (hr : RowAt H (.pl n t) u) (hg : t.good) (hd5 : t.dep ≤ 5) (k : RetE Z (.pl n t) u H Q) : MkP2 Z.c_Plain (sp_Plain_init Z) [u] H Q E := fun x dx hx hd _ =>
  ⟨x, dx, n, t, u, H, rfl, upd_same, hx, mk_heap hx hd, hr, hg, hd5, fun H2 tv e2 g2 htv => ⟨rfl, k _ _ e2 ⟨x, dx, _, rfl, g2, hr.up e2, lk_hd, ⟨offE2, offX2⟩, fun n' t' e => by cases e; exact ⟨tv, lk_tl (by decide +kernel) lk_hd, htv⟩⟩⟩⟩
/-! are_pointed .. equation_of -/
def sp_are_pointed : Sp := fun vs H Q _ => ∃ (p : Addr) (ns : List Str) (m : Int), vs = [.ref p, .int m] ∧ H p = some (.tup (ns.map V.str)) ∧ (∀ s ∈ ns, goodN s) ∧ m ≤ (ns.length : Int) ∧ ns.length ≤ 1000 ∧ RetV (.bl true) H Q
theorem ok_are_pointed (T : Txt K mg Z) : FnOk P w K mg base CX0 3 Z.f_are_pointed Z.fd_are_pointed ["thing", "least"] sp_are_pointed := by
  have G_is_pointed := ok_is_pointed (P := P) (w := w) (base := base) T
  refine T.F_are_pointed.ok sc_are_pointed (fun vs H Q E h => ?_) (fun cdv AA outer s H vs Q E hr h => ?_)
  · obtain ⟨p, ns, m, rfl, _⟩ := h
    rfl
  · obtain ⟨p, ns, m, rfl, hp, hg, hm, hl, k⟩ := h
    refine ⟨_, (pss_one (ps_ret (pe_and (pe_callB call_isi (by rfl) T.n_isinstance (by decide +kernel) (pa_cons (pv 0) (pa_cons (pe_bltn (v := .ty "tuple") (by rfl) T.n_tuple (by decide +kernel) rfl) pa_nil))) (pe_and (pe_cmpR op_ge (pe_callB call_len_seq (by rfl) T.n_len (by decide +kernel) (pa_cons (pv 0) pa_nil)) (pv 1) (nomark _)) (pe_one (pe_callB (cr_all rfl) (by rfl) T.n_all (by decide +kernel) (pa_cons (pe_lc (own := [("name", 2)]) (g := (gName 2)) (tt := tYes) (te := (tCall (sp_is_pointed K) [] E0 (tCons (tVar 2) tNil))) rfl sc_are_pointed.nd (pi_tup (pv 0)) (blkOk_by (own := [("name", 2)]) (N := N_are_pointed) (sc := defScope s_are_pointed) (by decide +kernel)) (fun _ _ _ _ _ => (pg_name (i := 2) sc_are_pointed.nd rfl (Or.inl rfl))) (fun _ _ _ _ _ => pts_nil) (fun _ _ _ _ _ => (pe_call G_is_pointed (hr.mono (by omega)) rfl T.g_is_pointed T.F_is_pointed.kp T.b_is_pointed .nil pass0 (pa_cons (pv 2) pa_nil)))) pa_nil))))))), ?_⟩
    walk_at "ss"
    refine isi (ty_tup hp) kb_tt ?_
    walk_at "ss"
    refine ⟨p, _, rfl, .inr (SqT.of hp), ?_⟩
    walk_at "ss"
    refine if_tt (decide_eq_true (by rw [List.length_map]; exact hm)) ?_
    walk_at "ss"
    refine ⟨⟨_, SqT.of hp⟩, lcT (fun i => (ns[i]?).bind fun _ => some (.bl true)) (SqT.of hp) (by rw [List.length_map]; omega) (fun i x hx => ?_) ?_⟩
    · rw [List.getElem?_map] at hx
      obtain ⟨s, hs, rfl⟩ := Option.map_eq_some_iff.mp hx
      have hgs := hg s (List.mem_of_getElem? hs)
      have := hgs.2.1
      intro H2 e2 R hR
      walk_at "ss"
      refine ⟨_, rfl, .inl ⟨s, rfl, by omega, fun H3 e3 => ?_⟩⟩
      rw [hgs.1]
      rw [hs] at hR
      exact hR _ e3
    rw [List.length_map, fm_range, fm_some]
    intro p2 H2 hp2 e2 g2
    walk_at "ss"
    refine ⟨p2, ns.map fun _ => true, rfl, SqL.of (by rw [g2, List.map_map]; rfl), ?_⟩
    have ea : (ns.map fun _ => true).all id = true := by
      rw [List.all_eq_true]
      intro b hb
      obtain ⟨_, _, rfl⟩ := List.mem_map.mp hb
      rfl
    rw [ea]
    exact k _ e2
/-- a row with a value, or one whose name is none -/
def sp_is_valued : Sp := fun vs H Q _ => ∃ a w n v x, vs = [.ref a] ∧ H a = some (.tup [.str w, .str n, v, .str x]) ∧ n.length ≤ 1000 ∧ ((isPointed n = true ∧ isVal v = true ∧ goodN x ∧ RetV (.bl true) H Q) ∨ (isPointed n = false ∧ RetV (.bl false) H Q))
theorem ok_is_valued (T : Txt K mg Z) : FnOk P w K mg base CX0 4 Z.f_is_valued Z.fd_is_valued ["row"] sp_is_valued := by
  have G_is_pointed := ok_is_pointed (P := P) (w := w) (base := base) T
  have G_is_value := ok_is_value (P := P) (w := w) (base := base) T
  refine T.F_is_valued.ok sc_is_valued (fun vs H Q E h => ?_) (fun cdv AA outer s H vs Q E hr h => ?_)
  · obtain ⟨a, w0, n, v, x, rfl, _⟩ := h
    rfl
  · obtain ⟨a, w0, n, v, x, rfl, ha, hn, h⟩ := h
    refine ⟨_, (pss_one (ps_ret (pe_and (pe_cmpR op_eq (pe_callB call_len_seq (by rfl) T.n_len (by decide +kernel) (pa_cons (pv 0) pa_nil)) pe_int (nomark _)) (pe_and (pe_call G_is_pointed (hr.mono (by omega)) rfl T.g_is_pointed T.F_is_pointed.kp T.b_is_pointed .nil pass0 (pa_cons (pe_ix ix_tup (pv 0) pe_int (fun _ _ => rfl)) pa_nil)) (pe_and (pe_call G_is_value (hr.mono (by omega)) rfl T.g_is_value T.F_is_value.kp T.b_is_value .nil pass0 (pa_cons (pe_ix ix_tup (pv 0) pe_int (fun _ _ => rfl)) pa_nil)) (pe_one (pe_call G_is_pointed (hr.mono (by omega)) rfl T.g_is_pointed T.F_is_pointed.kp T.b_is_pointed .nil pass0 (pa_cons (pe_ix ix_tup (pv 0) pe_int (fun _ _ => rfl)) pa_nil)))))))), ?_⟩
    walk_at "ss"
    refine ⟨a, _, rfl, .inr (SqT.of ha), ?_⟩
    walk_at "ss"
    refine if_tt rfl ?_
    walk_at "ss"
    refine c_ixT (SqT.of ha) rfl ?_
    walk_at "ss"
    refine ⟨_, rfl, .inl ⟨n, rfl, by omega, fun H1 e1 => ?_⟩⟩
    rcases h with ⟨h1, h2, h3, k⟩ | ⟨h1, k⟩
    · rw [h1]
      walk_at "ss"
      refine c_ixT (SqT.of (e1 _ _ ha)) rfl ?_
      walk_at "ss"
      refine is_val h2 ?_
      walk_at "ss"
      refine c_ixT (SqT.of (e1 _ _ ha)) rfl ?_
      walk_at "ss"
      have := h3.2.1
      refine ⟨_, rfl, .inl ⟨x, rfl, by omega, fun H2 e2 => ?_⟩⟩
      rw [h3.1]
      exact k _ (e1.trans e2)
    · rw [h1]
      walk_at "ss"
      exact k _ e1
def sp_plain_of (Z : Adr) : Sp := fun vs H Q _ => ∃ n t u, vs = [u] ∧ RowAt H (.pl n t) u ∧ Rw.good (.pl n t) ∧ RetE Z (.pl n t) u H Q
theorem ok_plain_of (T : Txt K mg Z) : FnOk P w K mg base CX0 22 Z.f_plain_of Z.fd_plain_of ["row"] (sp_plain_of Z) := by
  have G_is_pointed := ok_is_pointed (P := P) (w := w) (base := base) T
  have G_Plain_init := ok_Plain_init (P := P) (w := w) (base := base) T
  refine T.F_plain_of.ok sc_plain_of (fun vs H Q E h => ?_) (fun cdv AA outer s H vs Q E hr h => ?_)
  · obtain ⟨n, t, u, rfl, _⟩ := h
    rfl
  · obtain ⟨n, t, u, rfl, hr2, hg, k⟩ := h
    have hr3 := hr2
    obtain ⟨a, tw, rfl, ha, hw⟩ := hr2
    refine ⟨_, (pss_cons (ps_if (PW.pt (pw_or (pt_cmpR op_ne (pe_callB call_len_seq (by rfl) T.n_len (by decide +kernel) (pa_cons (pv 0) pa_nil)) pe_int (nomark _)) (pw_or1 (pt_not (pt_val (pe_call G_is_pointed (hr.mono (by omega)) rfl T.g_is_pointed T.F_is_pointed.kp T.b_is_pointed .nil pass0 (pa_cons (pe_ix ix_tup (pv 0) pe_int (fun _ _ => rfl)) pa_nil))))))) (pss_one (ps_ret pe_non)) pss_nil)
      (pss_one (ps_try_thru0 (pss_one (ps_ret (pe_make ⟨(tcB_ok T.x_Plain).makes, T.i_Plain, T.y_Plain_init, (tcB_ok T.x_Plain).kp⟩ G_Plain_init (hr.mono (by omega)) rfl T.m_Plain T.b_Plain_init .nil pass0 (pa_cons (pv 0) pa_nil))))))), ?_⟩
    walk_at "ss"
    refine ⟨a, _, rfl, .inr (SqT.of ha), ?_⟩
    walk_at "ss"
    refine if_ff rfl ?_
    walk_at "ss"
    refine c_ixT (SqT.of ha) rfl ?_
    walk_at "ss"
    have := hg.1.2.1
    refine ⟨_, rfl, .inl ⟨n, rfl, by omega, fun H1 e1 => ?_⟩⟩
    rw [hg.1.1]
    walk_at "ss"
    exact mk_Plain (hr3.up e1) hg.2.1 hg.2.2 (k.up e1)
def badV (H : Hp) (u : V) : Prop := ∃ a n v x, u = .ref a ∧ H a = some (.tup [.str "before", .str n, v, .str x]) ∧ n.length ≤ 1000 ∧ isPointed n = false
def sp_valued_of (Z : Adr) : Sp := fun vs H Q _ => ∃ u, vs = [u] ∧ ((∃ kk n v x, RowAt H (.vd kk n v x) u ∧ Rw.good (.vd kk n v x) ∧ RetE Z (.vd kk n v x) u H Q) ∨ (badV H u ∧ RetV .non H Q))
theorem ok_valued_of (T : Txt K mg Z) : FnOk P w K mg base CX0 5 Z.f_valued_of Z.fd_valued_of ["row"] (sp_valued_of Z) := by
  have G_Equation_init := ok_Equation_init (P := P) (w := w) (base := base) T
  have G_is_valued := ok_is_valued (P := P) (w := w) (base := base) T
  refine T.F_valued_of.ok sc_valued_of (fun vs H Q E h => ?_) (fun cdv AA outer s H vs Q E hr h => ?_)
  · obtain ⟨u, rfl, _⟩ := h
    rfl
  · obtain ⟨u, rfl, h⟩ := h
    refine ⟨_, (pss_cons (ps_if (pt_not (pt_val (pe_call G_is_valued (hr.mono (by omega)) rfl T.g_is_valued T.F_is_valued.kp T.b_is_valued .nil pass0 (pa_cons (pv 0) pa_nil)))) (pss_one (ps_ret pe_non)) pss_nil)
      (pss_cons (ps_if (pt_cmpR op_eq (pe_ix ix_tup (pv 0) pe_int (fun _ _ => rfl)) pe_str (nomark _)) (pss_one (ps_ret (pe_make ⟨(tcB_ok T.x_Before).makes, T.i_Before, T.y_Equation_init, (tcB_ok T.x_Before).kp⟩ G_Equation_init (hr.mono (by omega)) rfl T.m_Before T.b_Equation_init .nil pass0 (pa_cons (pv 0) pa_nil)))) pss_nil)
      (pss_cons (ps_if (pt_cmpR op_eq (pe_ix ix_tup (pv 0) pe_int (fun _ _ => rfl)) pe_str (nomark _)) (pss_one (ps_ret (pe_make ⟨(tcB_ok T.x_Hold).makes, T.i_Hold, T.y_Equation_init, (tcB_ok T.x_Hold).kp⟩ G_Equation_init (hr.mono (by omega)) rfl T.m_Hold T.b_Equation_init .nil pass0 (pa_cons (pv 0) pa_nil)))) pss_nil)
      (pss_one (ps_ret (pe_make ⟨(tcB_ok T.x_Like).makes, T.i_Like, T.y_Equation_init, (tcB_ok T.x_Like).kp⟩ G_Equation_init (hr.mono (by omega)) rfl T.m_Like T.b_Equation_init .nil pass0 (pa_cons (pv 0) pa_nil))))))), ?_⟩
    rcases h with ⟨kk, n, v, x, hr2, hg, k⟩ | ⟨⟨a, n, v, x, rfl, ha, hn, hb⟩, k⟩
    · have hr3 := hr2
      obtain ⟨a, rfl, ha⟩ := hr2
      have h80 := hg.2.1.2.1
      walk_at "ss"
      refine ⟨a, _, n, v, x, rfl, ha, by omega, .inl ⟨hg.2.1.1, hg.2.2.1, hg.2.2.2, fun H1 e1 => ?_⟩⟩
      have ha1 := e1 _ _ ha
      walk_at "ss"
      refine c_ixT (SqT.of ha1) rfl ?_
      walk_at "ss"
      have hk3 := hg.1
      have hk : kk = 0 ∨ kk = 1 ∨ kk = 2 := by omega
      rcases hk with rfl | rfl | rfl
      · refine if_tt (str_eq rfl) ?_
        walk_at "ss"
        exact mk_row (i := 1) rfl (by decide) (hr3.up e1) (k.up e1)
      · refine if_ff (str_ne (by decide +kernel)) ?_
        walk_at "ss"
        refine c_ixT (SqT.of ha1) rfl ?_
        walk_at "ss"
        refine if_tt (str_eq rfl) ?_
        walk_at "ss"
        exact mk_row (i := 2) rfl (by decide) (hr3.up e1) (k.up e1)
      · refine if_ff (str_ne (by decide +kernel)) ?_
        walk_at "ss"
        refine c_ixT (SqT.of ha1) rfl ?_
        walk_at "ss"
        refine if_ff (str_ne (by decide +kernel)) ?_
        walk_at "ss"
        exact mk_row (i := 3) rfl (by decide) (hr3.up e1) (k.up e1)
    · walk_at "ss"
      refine ⟨a, _, n, v, x, rfl, ha, by omega, .inr ⟨hb, fun H1 e1 => ?_⟩⟩
      walk_at "ss"
      exact k _ e1
def sp_call_of (Z : Adr) : Sp := fun vs H Q _ => ∃ os nd xs u, vs = [u] ∧ RowAt H (.cl os nd xs) u ∧ Rw.good (.cl os nd xs) ∧ RetE Z (.cl os nd xs) u H Q
theorem ok_call_of (T : Txt K mg Z) : FnOk P w K mg base CX0 4 Z.f_call_of Z.fd_call_of ["row"] (sp_call_of Z) := by
  have G_is_name := ok_is_name (P := P) (w := w) (base := base) T
  have G_Equation_init := ok_Equation_init (P := P) (w := w) (base := base) T
  have G_are_pointed := ok_are_pointed (P := P) (w := w) (base := base) T
  refine T.F_call_of.ok sc_call_of (fun vs H Q E h => ?_) (fun cdv AA outer s H vs Q E hr h => ?_)
  · obtain ⟨os, nd, xs, u, rfl, _⟩ := h
    rfl
  · obtain ⟨os, nd, xs, u, rfl, hr2, hg, k⟩ := h
    have hr3 := hr2
    obtain ⟨a, p, q, rfl, ha, hp, hq⟩ := hr2
    obtain ⟨g1, g2, g3, ⟨g4, g5, g6⟩, g7, g8, g9⟩ := hg
    refine ⟨_, (pss_cons (ps_if (PW.pt (pw_or (pt_cmpR op_ne (pe_callB call_len_seq (by rfl) T.n_len (by decide +kernel) (pa_cons (pv 0) pa_nil)) pe_int (nomark _)) (pw_or (pt_not (pt_val (pe_call G_are_pointed (hr.mono (by omega)) rfl T.g_are_pointed T.F_are_pointed.kp T.b_are_pointed .nil pass0 (pa_cons (pe_ix ix_tup (pv 0) pe_int (fun _ _ => rfl)) (pa_cons pe_int pa_nil))))) (pw_or (pt_not (pt_val (pe_call G_is_name (hr.mono (by omega)) rfl T.g_is_name T.F_is_name.kp T.b_is_name .nil pass0 (pa_cons (pe_ix ix_tup (pv 0) pe_int (fun _ _ => rfl)) pa_nil)))) (pw_or1 (pt_not (pt_val (pe_call G_are_pointed (hr.mono (by omega)) rfl T.g_are_pointed T.F_are_pointed.kp T.b_are_pointed .nil pass0 (pa_cons (pe_ix ix_tup (pv 0) pe_int (fun _ _ => rfl)) (pa_cons pe_int pa_nil)))))))))) (pss_one (ps_ret pe_non)) pss_nil)
      (pss_one (ps_ret (pe_make ⟨(tcB_ok T.x_Call).makes, T.i_Call, T.y_Equation_init, (tcB_ok T.x_Call).kp⟩ G_Equation_init (hr.mono (by omega)) rfl T.m_Call T.b_Equation_init .nil pass0 (pa_cons (pv 0) pa_nil))))), ?_⟩
    walk_at "ss"
    refine ⟨a, _, rfl, .inr (SqT.of ha), ?_⟩
    walk_at "ss"
    refine if_ff rfl ?_
    walk_at "ss"
    refine c_ixT (SqT.of ha) rfl ?_
    walk_at "ss"
    refine ⟨p, os, 1, rfl, hp, g3, by omega, by omega, fun H1 e1 => ?_⟩
    walk_at "ss"
    refine c_ixT (SqT.of (e1 _ _ ha)) rfl ?_
    walk_at "ss"
    refine ⟨_, rfl, .inl ⟨nd, rfl, by omega, fun H2 e2 => ?_⟩⟩
    rw [g4]
    walk_at "ss"
    have e12 := e1.trans e2
    refine c_ixT (SqT.of (e12 _ _ ha)) rfl ?_
    walk_at "ss"
    refine ⟨q, xs, 1, rfl, e12 _ _ hq, g9, by omega, by omega, fun H3 e3 => ?_⟩
    walk_at "ss"
    exact mk_row (i := 6) rfl (by decide) (hr3.up (e12.trans e3)) (k.up (e12.trans e3))
def sp_made_of (Z : Adr) : Sp := fun vs H Q _ => ∃ u, vs = [u] ∧ ((∃ r, RowAt H r u ∧ r.good ∧ RetE Z r u H Q) ∨ (badV H u ∧ RetV .non H Q))
theorem in_vw (k : Nat) : inV (.str (vword k)) [.str "before", .str "hold", .str "like"] = true := by
  rcases vword_in k with e | e | e <;> (rw [e]; decide +kernel)
theorem vw_ne {k : Nat} : vword k ≠ "plain" := by
  rcases vword_in k with e | e | e <;> (rw [e]; decide +kernel)
theorem ok_made_of (T : Txt K mg Z) : FnOk P w K mg base CX0 23 Z.f_made_of Z.fd_made_of ["row"] (sp_made_of Z) := by
  have G_Equation_init := ok_Equation_init (P := P) (w := w) (base := base) T
  have G_are_pointed := ok_are_pointed (P := P) (w := w) (base := base) T
  have G_plain_of := ok_plain_of (P := P) (w := w) (base := base) T
  have G_valued_of := ok_valued_of (P := P) (w := w) (base := base) T
  have G_call_of := ok_call_of (P := P) (w := w) (base := base) T
  refine T.F_made_of.ok sc_made_of (fun vs H Q E h => ?_) (fun cdv AA outer s H vs Q E hr h => ?_)
  · obtain ⟨u, rfl, _⟩ := h
    rfl
  · obtain ⟨u, rfl, h⟩ := h
    refine ⟨_, (pss_cons (ps_if (pt_cmpR op_eq (pe_ix ix_tup (pv 0) pe_int (fun _ _ => rfl)) pe_str (nomark _)) (pss_one (ps_ret (pe_call G_plain_of (hr.mono (by omega)) rfl T.g_plain_of T.F_plain_of.kp T.b_plain_of .nil pass0 (pa_cons (pv 0) pa_nil)))) pss_nil)
      (pss_cons (ps_if (pt_cmpR op_in_seq (pe_ix ix_tup (pv 0) pe_int (fun _ _ => rfl)) (pe_tup (pa_cons pe_str (pa_cons pe_str (pa_cons pe_str pa_nil)))) (by rfl)) (pss_one (ps_ret (pe_call G_valued_of (hr.mono (by omega)) rfl T.g_valued_of T.F_valued_of.kp T.b_valued_of .nil pass0 (pa_cons (pv 0) pa_nil)))) pss_nil)
      (pss_cons (ps_if (pt_cmpR op_eq (pe_ix ix_tup (pv 0) pe_int (fun _ _ => rfl)) pe_str (nomark _)) (pss_one (ps_ret (pe_call G_call_of (hr.mono (by omega)) rfl T.g_call_of T.F_call_of.kp T.b_call_of .nil pass0 (pa_cons (pv 0) pa_nil)))) pss_nil)
      (pss_cons (ps_if (PW.pt (pw_and (pt_cmpR op_eq (pe_ix ix_tup (pv 0) pe_int (fun _ _ => rfl)) pe_str (nomark _)) (pw_and (pt_cmpR op_eq (pe_callB call_len_seq (by rfl) T.n_len (by decide +kernel) (pa_cons (pv 0) pa_nil)) pe_int (nomark _)) (pw_and1 (pt_val (pe_call G_are_pointed (hr.mono (by omega)) rfl T.g_are_pointed T.F_are_pointed.kp T.b_are_pointed .nil pass0 (pa_cons (pe_slice sl_tup (pv 0) (po_some pe_int) po_none) (pa_cons pe_int pa_nil)))))))) (pss_one (ps_ret (pe_make ⟨(tcB_ok T.x_When).makes, T.i_When, T.y_Equation_init, (tcB_ok T.x_When).kp⟩ G_Equation_init (hr.mono (by omega)) rfl T.m_When T.b_Equation_init .nil pass0 (pa_cons (pv 0) pa_nil)))) pss_nil)
      (pss_cons (ps_if (PW.pt (pw_and (pt_cmpR op_eq (pe_ix ix_tup (pv 0) pe_int (fun _ _ => rfl)) pe_str (nomark _)) (pw_and (pt_cmpR op_eq (pe_callB call_len_seq (by rfl) T.n_len (by decide +kernel) (pa_cons (pv 0) pa_nil)) pe_int (nomark _)) (pw_and1 (pt_val (pe_call G_are_pointed (hr.mono (by omega)) rfl T.g_are_pointed T.F_are_pointed.kp T.b_are_pointed .nil pass0 (pa_cons (pe_ix ix_tup (pv 0) pe_int (fun _ _ => rfl)) (pa_cons pe_int pa_nil)))))))) (pss_one (ps_ret (pe_make ⟨(tcB_ok T.x_Same).makes, T.i_Same, T.y_Equation_init, (tcB_ok T.x_Same).kp⟩ G_Equation_init (hr.mono (by omega)) rfl T.m_Same T.b_Equation_init .nil pass0 (pa_cons (pv 0) pa_nil)))) pss_nil)
      (pss_one (ps_ret pe_non))))))), ?_⟩
    rcases h with ⟨r, hr2, hg, k⟩ | ⟨⟨a, n, v, x, rfl, ha, hn, hb⟩, k⟩
    · have hr3 := hr2
      cases r with
      | pl n t =>
        obtain ⟨a, tw, rfl, ha, hw⟩ := hr2
        walk_at "ss"
        refine c_ixT (SqT.of ha) rfl ?_
        walk_at "ss"
        rw [str_eq rfl]
        walk_at "ss"
        exact ⟨n, t, _, rfl, hr3, hg, k⟩
      | vd kk n v x =>
        obtain ⟨a, rfl, ha⟩ := hr2
        walk_at "ss"
        refine c_ixT (SqT.of ha) rfl ?_
        walk_at "ss"
        rw [str_ne vw_ne]
        walk_at "ss"
        refine c_ixT (SqT.of ha) rfl ?_
        walk_at "ss"
        refine newT fun p1 H1 hp1 e1 g1 => ?_
        refine c_in (.inr (SqT.of g1)) rfl rfl ?_
        rw [in_vw]
        walk_at "ss"
        exact ⟨_, rfl, .inl ⟨kk, n, v, x, hr3.up e1, hg, k.up e1⟩⟩
      | cl os nd xs =>
        obtain ⟨a, p, q, rfl, ha, hp, hq⟩ := hr2
        walk_at "ss"
        refine c_ixT (SqT.of ha) rfl ?_
        walk_at "ss"
        rw [str_ne (by decide +kernel)]
        walk_at "ss"
        refine c_ixT (SqT.of ha) rfl ?_
        walk_at "ss"
        refine newT fun p1 H1 hp1 e1 g1 => ?_
        refine c_in (.inr (SqT.of g1)) rfl rfl ?_
        rw [show inV (V.str "call") [.str "before", .str "hold", .str "like"] = false from by decide +kernel]
        walk_at "ss"
        refine c_ixT (SqT.of (e1 _ _ ha)) rfl ?_
        walk_at "ss"
        rw [str_eq rfl]
        walk_at "ss"
        exact ⟨os, nd, xs, _, rfl, hr3.up e1, hg, k.up e1⟩
      | wh n x y =>
        obtain ⟨a, rfl, ha⟩ := hr2
        walk_at "ss"
        refine c_ixT (SqT.of ha) rfl ?_
        walk_at "ss"
        rw [str_ne (by decide +kernel)]
        walk_at "ss"
        refine c_ixT (SqT.of ha) rfl ?_
        walk_at "ss"
        refine newT fun p1 H1 hp1 e1 g1 => ?_
        refine c_in (.inr (SqT.of g1)) rfl rfl ?_
        rw [show inV (V.str "when") [.str "before", .str "hold", .str "like"] = false from by decide +kernel]
        have ha1 := e1 _ _ ha
        walk_at "ss"
        refine c_ixT (SqT.of ha1) rfl ?_
        walk_at "ss"
        rw [str_ne (by decide +kernel)]
        walk_at "ss"
        refine c_ixT (SqT.of ha1) rfl ?_
        walk_at "ss"
        rw [str_eq rfl]
        walk_at "ss"
        refine ⟨a, _, rfl, .inr (SqT.of ha1), ?_⟩
        walk_at "ss"
        refine if_tt rfl ?_
        walk_at "ss"
        refine ⟨a, _, rfl, SqT.of ha1, fun z => absurd (show (1 : Nat) = 0 from z.1) (by decide), fun p2 hp2 => ?_⟩
        walk_at "ss"
        have e2 := Ex.new (H := H1) (p := p2) (o := .tup ([n, x, y].map V.str)) hp2
        refine ⟨p2, [n, x, y], 3, rfl, upd_same, fun s hs => ?_, by simp, by simp, fun H3 e3 => ?_⟩
        · simp only [List.mem_cons, List.not_mem_nil, or_false] at hs
          rcases hs with rfl | rfl | rfl
          · exact hg.1
          · exact hg.2.1
          · exact hg.2.2
        walk_at "ss"
        exact mk_row (i := 4) rfl (by decide) (hr3.up (e1.trans (e2.trans e3))) (k.up (e1.trans (e2.trans e3)))
      | sm ns =>
        obtain ⟨a, p, rfl, ha, hp⟩ := hr2
        walk_at "ss"
        refine c_ixT (SqT.of ha) rfl ?_
        walk_at "ss"
        rw [str_ne (by decide +kernel)]
        walk_at "ss"
        refine c_ixT (SqT.of ha) rfl ?_
        walk_at "ss"
        refine newT fun p1 H1 hp1 e1 g1 => ?_
        refine c_in (.inr (SqT.of g1)) rfl rfl ?_
        rw [show inV (V.str "same") [.str "before", .str "hold", .str "like"] = false from by decide +kernel]
        have ha1 := e1 _ _ ha
        walk_at "ss"
        refine c_ixT (SqT.of ha1) rfl ?_
        walk_at "ss"
        rw [str_ne (by decide +kernel)]
        walk_at "ss"
        refine c_ixT (SqT.of ha1) rfl ?_
        walk_at "ss"
        rw [str_ne (by decide +kernel)]
        walk_at "ss"
        refine c_ixT (SqT.of ha1) rfl ?_
        walk_at "ss"
        rw [str_eq rfl]
        walk_at "ss"
        refine ⟨a, _, rfl, .inr (SqT.of ha1), ?_⟩
        walk_at "ss"
        refine if_tt rfl ?_
        walk_at "ss"
        refine c_ixT (SqT.of ha1) rfl ?_
        walk_at "ss"
        have g1' := hg.1
        have g2' := hg.2.1
        refine ⟨p, ns, 2, rfl, e1 _ _ hp, hg.2.2, by omega, by omega, fun H3 e3 => ?_⟩
        walk_at "ss"
        exact mk_row (i := 5) rfl (by decide) (hr3.up (e1.trans e3)) (k.up (e1.trans e3))
    · walk_at "ss"
      refine c_ixT (SqT.of ha) rfl ?_
      walk_at "ss"
      rw [str_ne (by decide +kernel)]
      walk_at "ss"
      refine c_ixT (SqT.of ha) rfl ?_
      walk_at "ss"
      refine newT fun p1 H1 hp1 e1 g1 => ?_
      refine c_in (.inr (SqT.of g1)) rfl rfl ?_
      rw [show inV (V.str "before") [.str "before", .str "hold", .str "like"] = true from by decide +kernel]
      walk_at "ss"
      exact ⟨_, rfl, .inr ⟨⟨a, n, v, x, rfl, e1 _ _ ha, hn, hb⟩, k.up e1⟩⟩
theorem ne_empty {H : Hp} {Q : VK} {a p : Addr} {d : PyData} {ds : List PyData} {D B : Nat} (h : Dp K H (.ref a) (.tuple (d :: ds))) (r : RpOk D B (.tuple (d :: ds))) (hD : D ≤ 64) (g : H p = some (.tup [])) (q : Q (.bl true) H) : rNeD K (.ref a) (.ref p) H Q := by
  refine ⟨_, .tuple [], h, .tup (SqT.of g) .nil, r.shaped hD, by decide +kernel, ?_⟩
  rw [show PyData.eqv (.tuple (d :: ds)) (.tuple []) = false from by simp [PyData.eqv, PyData.eqvAll]]
  exact q
theorem Rw.data_cons (r : Rw) : ∃ d ds, r.data = .tuple (d :: ds) := by cases r <;> exact ⟨_, _, rfl⟩
def sp_equation_of (Z : Adr) : Sp := fun vs H Q _ => ∃ r u, vs = [u] ∧ RowAt H r u ∧ r.good ∧ RetE Z r u H Q
theorem ok_equation_of (T : Txt K mg Z) : FnOk P w K mg base CX0 24 Z.f_equation_of Z.fd_equation_of ["told"] (sp_equation_of Z) := by
  have G_made_of := ok_made_of (P := P) (w := w) (base := base) T
  refine T.F_equation_of.ok sc_equation_of (fun vs H Q E h => ?_) (fun cdv AA outer s H vs Q E hr h => ?_)
  · obtain ⟨r, u, rfl, _⟩ := h
    rfl
  · obtain ⟨r, u, rfl, hr2, hg, k⟩ := h
    have hr3 := hr2
    obtain ⟨a, xs, rfl, ha⟩ := hr2.hd
    refine ⟨_, (pss_cons (ps_set (i := 1) sc_equation_of.nd rfl (Or.inl rfl) pe_non)
      (pss_cons (ps_if (PW.pt (pw_and (pt_val (pe_callB call_isi (by rfl) T.n_isinstance (by decide +kernel) (pa_cons (pv 0) (pa_cons (pe_bltn (v := .ty "tuple") (by rfl) T.n_tuple (by decide +kernel) rfl) pa_nil)))) (pw_and (pt_cmpR (op_neD hr.units) (pv 0) (pe_tup pa_nil) (nomark _)) (pw_and1 (pt_val (pe_callB call_isi (by rfl) T.n_isinstance (by decide +kernel) (pa_cons (pe_ix ix_tup (pv 0) pe_int (fun _ _ => rfl)) (pa_cons (pe_bltn (v := .ty "str") (by rfl) T.n_str (by decide +kernel) rfl) pa_nil)))))))) (pss_one (ps_set (i := 1) sc_equation_of.nd rfl (Or.inl rfl) (pe_call G_made_of (hr.mono (by omega)) rfl T.g_made_of T.F_made_of.kp T.b_made_of .nil pass0 (pa_cons (pv 0) pa_nil)))) pss_nil)
      (pss_cons (ps_if (pt_cmpR op_isN (pv 1) pe_non (nomark _)) (pss_one ps_never) pss_nil)
      (pss_one (ps_ret (pv 1)))))), ?_⟩
    walk_at "ss"
    refine isi (ty_tup ha) kb_tt ?_
    walk_at "ss"
    refine newT fun p1 H1 hp1 e1 g1 => ?_
    obtain ⟨d, ds, hdd⟩ := r.data_cons
    have hdp := (hr3.up e1).dp (K := K) hg
    have hrp := Rw.rp hg
    rw [hdd] at hdp hrp
    refine ne_empty hdp hrp (by decide) g1 ?_
    walk_at "ss"
    refine c_ixT (SqT.of (e1 _ _ ha)) at_hd ?_
    walk_at "ss"
    refine isi (ty_str _) kb_ss ?_
    walk_at "ss"
    refine ⟨_, rfl, .inl ⟨r, hr3.up e1, hg, fun v H2 e2 hv => ?_⟩⟩
    walk_at "ss"
    have nv : decide (v = V.non) = false := by
      obtain ⟨aa, _, _, rfl, _⟩ := hv
      rfl
    rw [nv]
    walk_at "ss"
    exact k _ _ (e1.trans e2) hv

/-! ### plain facts about rows (printed by mk_rowf.py) -/
def Tm.flat : Tm → List Str
  | .nm s => [s]
  | .vl _ => []
  | .two _ a b => a.flat ++ b.flat
  | .nt a => a.flat
  | .pk c a b => c.flat ++ a.flat ++ b.flat
theorem snoc_ind {P : List Str → Prop} (h0 : P []) (h1 : ∀ y n, P y → P (y ++ [n])) : ∀ y, P y := by
  intro y
  have h : ∀ z : List Str, P z.reverse := by
    intro z
    induction z with
    | nil => exact h0
    | cons a z ih => rw [List.reverse_cons]; exact h1 _ _ ih
  have h2 := h y.reverse
  rw [List.reverse_reverse] at h2
  exact h2
theorem once_go (y : List Str) : ∀ (A : List Str), y.foldl (fun acc n => addN acc [n]) A = addN A (once y) := by
  intro A
  refine snoc_ind (P := fun y => y.foldl (fun acc n => addN acc [n]) A = addN A (once y)) ?_ (fun y n ih => ?_) y
  · show A = addN A []
    simp [addN]
  · rw [List.foldl_append, ih, once_app]
    show addN (addN A (once y)) [n] = addN A (addN (once y) [n])
    have m1 : (addN A (once y)).contains n = (A.contains n || (once y).contains n) := by
      rw [Bool.eq_iff_iff, Bool.or_eq_true, List.contains_iff_mem, List.contains_iff_mem, List.contains_iff_mem]
      constructor
      · intro h
        rcases List.mem_append.mp h with h | h
        · exact .inl h
        · exact .inr (List.mem_filter.mp h).1
      · intro h
        by_cases hA : n ∈ A
        · exact List.mem_append_left _ hA
        · rcases h with h | h
          · exact absurd h hA
          · refine List.mem_append_right _ (List.mem_filter.mpr ⟨h, ?_⟩)
            rw [Bool.not_eq_true']
            cases hc : A.contains n with
            | false => rfl
            | true => exact absurd (List.contains_iff_mem.mp hc) hA
    rw [addN_one, addN_one, m1]
    cases h1 : (once y).contains n with
    | true => rw [Bool.or_true, if_pos rfl, if_pos rfl]
    | false =>
      simp only [Bool.or_false, Bool.false_eq_true, ↓reduceIte]
      unfold addN
      rw [List.filter_append]
      cases h2 : A.contains n with
      | true =>
        have h3 : [n].filter (fun m => !A.contains m) = [] := by rw [List.filter_cons, h2]; rfl
        rw [h3, List.append_nil, if_pos rfl]
      | false =>
        have h3 : [n].filter (fun m => !A.contains m) = [n] := by rw [List.filter_cons, h2]; rfl
        rw [h3, if_neg (by decide), List.append_assoc]
theorem once_cat (x y : List Str) : once (x ++ y) = addN (once x) (once y) := by
  have : once (x ++ y) = y.foldl (fun acc n => addN acc [n]) (once x) := by
    unfold once
    rw [List.foldl_append]
  rw [this, once_go]
theorem addN_nil (l : List Str) : addN [] l = l := by
  unfold addN
  rw [List.nil_append]
  exact List.filter_eq_self.mpr fun a _ => rfl
theorem Tm.names_once (t : Tm) : once t.flat = t.names := by
  induction t with
  | nm s => exact addN_nil [s]
  | vl v => rfl
  | two op a b iha ihb =>
    show once (a.flat ++ b.flat) = addN (addN [] a.names) b.names
    rw [once_cat, iha, ihb, addN_nil]
  | nt a iha =>
    show once a.flat = addN [] a.names
    rw [iha, addN_nil]
  | pk c a b ihc iha ihb =>
    show once (c.flat ++ a.flat ++ b.flat) = addN (addN (addN [] c.names) a.names) b.names
    rw [once_cat, once_cat, ihc, iha, ihb, addN_nil]
theorem addN_mem {a b : List Str} {s : Str} (h : s ∈ addN a b) : s ∈ a ∨ s ∈ b := by
  rcases List.mem_append.mp h with h | h
  · exact .inl h
  · exact .inr (List.mem_filter.mp h).1
theorem once_mem {l : List Str} {s : Str} (h : s ∈ once l) : s ∈ l := by
  refine snoc_ind (P := fun l => s ∈ once l → s ∈ l) (fun h => by cases h) (fun y n ih h => ?_) l h
  rw [once_app] at h
  rcases addN_mem h with h | h
  · exact List.mem_append_left _ (ih h)
  · exact List.mem_append_right _ h
theorem once_sub {l : List Str} {s : Str} (h : s ∈ l) : s ∈ once l := by
  revert h
  refine snoc_ind (P := fun l => s ∈ l → s ∈ once l) (fun h => by cases h) (fun y n ih h => ?_) l
  rw [once_app, addN_one]
  rcases List.mem_append.mp h with h | h
  · split
    · exact ih h
    · exact List.mem_append_left _ (ih h)
  · have e : s = n := by simpa using h
    subst e
    split
    · rename_i hc; exact List.contains_iff_mem.mp hc
    · exact List.mem_append_right _ (by simp)
theorem flat_names {t : Tm} {s : Str} (h : s ∈ t.flat) : s ∈ t.names := by rw [← Tm.names_once]; exact once_sub h
theorem names_flat {t : Tm} {s : Str} (h : s ∈ t.names) : s ∈ t.flat := by rw [← Tm.names_once] at h; exact once_mem h
theorem Tm.flat_len (t : Tm) : t.flat.length ≤ 3 ^ t.dep := by
  induction t with
  | nm s => simp [Tm.flat, Tm.dep]
  | vl v => simp [Tm.flat, Tm.dep]
  | two op a b iha ihb =>
    have p1 : 3 ^ a.dep ≤ 3 ^ max a.dep b.dep := Nat.pow_le_pow_right (by decide) (by omega)
    have p2 : 3 ^ b.dep ≤ 3 ^ max a.dep b.dep := Nat.pow_le_pow_right (by decide) (by omega)
    have e : 3 ^ (1 + max a.dep b.dep) = 3 * 3 ^ max a.dep b.dep := by rw [Nat.pow_add]
    show (a.flat ++ b.flat).length ≤ 3 ^ (1 + max a.dep b.dep)
    rw [e, List.length_append]
    omega
  | nt a iha =>
    have e : 3 ^ (1 + a.dep) = 3 * 3 ^ a.dep := by rw [Nat.pow_add]
    show a.flat.length ≤ 3 ^ (1 + a.dep)
    rw [e]
    omega
  | pk c a b ihc iha ihb =>
    have p0 : 3 ^ c.dep ≤ 3 ^ max (max c.dep a.dep) b.dep := Nat.pow_le_pow_right (by decide) (by omega)
    have p1 : 3 ^ a.dep ≤ 3 ^ max (max c.dep a.dep) b.dep := Nat.pow_le_pow_right (by decide) (by omega)
    have p2 : 3 ^ b.dep ≤ 3 ^ max (max c.dep a.dep) b.dep := Nat.pow_le_pow_right (by decide) (by omega)
    have e : 3 ^ (1 + max (max c.dep a.dep) b.dep) = 3 * 3 ^ max (max c.dep a.dep) b.dep := by rw [Nat.pow_add]
    show (c.flat ++ a.flat ++ b.flat).length ≤ 3 ^ (1 + max (max c.dep a.dep) b.dep)
    rw [e, List.length_append, List.length_append]
    omega
theorem flat_729 {t : Tm} (h : t.dep ≤ 6) : t.flat.length ≤ 729 := by
  have h1 := t.flat_len
  have h2 : 3 ^ t.dep ≤ 3 ^ 6 := Nat.pow_le_pow_right (by decide) h
  have e : (3 : Nat) ^ 6 = 729 := rfl
  omega
def Beh (K : PySem.W.Frag) (H : Hp) : Option Tm → V → Prop
  | some q, v => ToldAt H q v
  | none, v => (∃ s, v = .str s) ∨ isVal v = true
def Tm.beh : Tm → List (Option Tm)
  | .nm _ => []
  | .vl _ => [none]
  | .two _ a b => [none, some a, some b]
  | .nt a => [some a]
  | .pk c a b => [some c, some a, some b]
def flatO : List (Option Tm) → List Str
  | [] => []
  | some q :: l => q.flat ++ flatO l
  | none :: l => flatO l
theorem flatO_app (l : List (Option Tm)) (o : Option Tm) : flatO (l ++ [o]) = flatO l ++ (match o with | some q => q.flat | none => []) := by
  induction l with
  | nil => cases o <;> simp [flatO]
  | cons a l ih => cases a <;> simp [flatO, ih]
theorem Tm.flat_beh (t : Tm) (h : ∀ s, t ≠ .nm s) : flatO t.beh = t.flat := by
  cases t with
  | nm s => exact absurd rfl (h s)
  | vl v => rfl
  | two op a b => simp [Tm.beh, flatO, Tm.flat]
  | nt a => simp [Tm.beh, flatO, Tm.flat]
  | pk c a b => simp [Tm.beh, flatO, Tm.flat]
theorem told_beh {H : Hp} {t : Tm} {u : V} (h : ToldAt H t u) (hg : t.good) (hn : ∀ s, t ≠ .nm s) : ∃ (a : Addr) (w : Str) (xs : List V), u = .ref a ∧ H a = some (.tup (.str w :: xs)) ∧ w ≠ "name" ∧ xs.length = t.beh.length ∧ cutV (.str w :: xs) (some 1) none = xs ∧ xs ≠ [] ∧
    (∀ (i : Nat) (v : V), xs[i]? = some v → ∃ o, t.beh[i]? = some o ∧ Beh K H o v) ∧ ∀ q, some q ∈ t.beh → q.good ∧ q.dep + 1 ≤ t.dep := by
  have i2 : ∀ {x y v : V} {o p : Option Tm}, Beh K H o x → Beh K H p y → ∀ i : Nat, ([x, y] : List V)[i]? = some v → ∃ z, ([o, p] : List (Option Tm))[i]? = some z ∧ Beh K H z v := by
    intro x y v o p h1 h2 i hv
    match i, hv with
    | 0, hv => cases hv; exact ⟨_, rfl, h1⟩
    | 1, hv => cases hv; exact ⟨_, rfl, h2⟩
  have i3 : ∀ {x y z v : V} {o p q : Option Tm}, Beh K H o x → Beh K H p y → Beh K H q z → ∀ i : Nat, ([x, y, z] : List V)[i]? = some v → ∃ r, ([o, p, q] : List (Option Tm))[i]? = some r ∧ Beh K H r v := by
    intro x y z v o p q h1 h2 h3 i hv
    match i, hv with
    | 0, hv => cases hv; exact ⟨_, rfl, h1⟩
    | 1, hv => cases hv; exact ⟨_, rfl, h2⟩
    | 2, hv => cases hv; exact ⟨_, rfl, h3⟩
  cases t with
  | nm s => exact absurd rfl (hn s)
  | vl x =>
    obtain ⟨a, rfl, ha⟩ := h
    refine ⟨a, _, _, rfl, ha, by decide +kernel, rfl, rfl, by simp, fun i v hv => ?_, fun q hq => by simp [Tm.beh] at hq⟩
    match i, hv with
    | 0, hv => cases hv; exact ⟨none, rfl, .inr hg⟩
  | two op p q =>
    obtain ⟨a, v1, v2, rfl, ha, h1, h2⟩ := h
    refine ⟨a, _, _, rfl, ha, by decide +kernel, rfl, rfl, by simp, fun i v hv => i3 (o := none) (p := some p) (q := some q) (.inl ⟨_, rfl⟩) h1 h2 i hv, fun z hz => ?_⟩
    simp only [Tm.beh, List.mem_cons, reduceCtorEq, Option.some.injEq, List.not_mem_nil, or_false, false_or] at hz
    rcases hz with rfl | rfl
    · exact ⟨hg.2.1, Tm.dep_part (by simp [Tm.parts])⟩
    · exact ⟨hg.2.2, Tm.dep_part (by simp [Tm.parts])⟩
  | nt p =>
    obtain ⟨a, v1, rfl, ha, h1⟩ := h
    refine ⟨a, _, _, rfl, ha, by decide +kernel, rfl, rfl, by simp, fun i v hv => ?_, fun z hz => ?_⟩
    · match i, hv with
      | 0, hv => cases hv; exact ⟨some p, rfl, h1⟩
    · simp only [Tm.beh, List.mem_cons, Option.some.injEq, List.not_mem_nil, or_false] at hz
      subst hz
      exact ⟨hg, Tm.dep_part (by simp [Tm.parts])⟩
  | pk c p q =>
    obtain ⟨a, v0, v1, v2, rfl, ha, h0, h1, h2⟩ := h
    refine ⟨a, _, _, rfl, ha, by decide +kernel, rfl, rfl, by simp, fun i v hv => i3 (o := some c) (p := some p) (q := some q) h0 h1 h2 i hv, fun z hz => ?_⟩
    simp only [Tm.beh, List.mem_cons, Option.some.injEq, List.not_mem_nil, or_false] at hz
    rcases hz with rfl | rfl | rfl
    · exact ⟨hg.1, Tm.dep_part (by simp [Tm.parts])⟩
    · exact ⟨hg.2.1, Tm.dep_part (by simp [Tm.parts])⟩
    · exact ⟨hg.2.2, Tm.dep_part (by simp [Tm.parts])⟩
theorem kb_st : kitB "str" "tuple" = some false := by decide +kernel
theorem kb_it : kitB "int" "tuple" = some false := by decide +kernel
theorem kb_bt : kitB "bool" "tuple" = some false := by decide +kernel
theorem beh_none {H : Hp} {v : V} (h : Beh K H none v) : ∃ n : String, TyX K H v (.type n) ∧ kitB n "tuple" = some false := by
  rcases h with ⟨s, rfl⟩ | h
  · exact ⟨_, ty_str s, kb_st⟩
  · cases v with
    | bl b => exact ⟨_, ty_bl b, kb_bt⟩
    | int i => exact ⟨_, ty_int i, kb_it⟩
    | _ => exact absurd h Bool.false_ne_true
theorem Told_tup {H : Hp} {t : Tm} {v : V} (h : ToldAt H t v) : ∃ a xs, v = .ref a ∧ H a = some (.tup xs) := by
  cases t with
  | nm s => obtain ⟨a, h1, h2⟩ := h; exact ⟨a, _, h1, h2⟩
  | vl s => obtain ⟨a, h1, h2⟩ := h; exact ⟨a, _, h1, h2⟩
  | two op p q => obtain ⟨a, _, _, h1, h2, _⟩ := h; exact ⟨a, _, h1, h2⟩
  | nt p => obtain ⟨a, _, h1, h2, _⟩ := h; exact ⟨a, _, h1, h2⟩
  | pk c p q => obtain ⟨a, _, _, _, h1, h2, _⟩ := h; exact ⟨a, _, h1, h2⟩
theorem nat_pow6 {t : Tm} (l : List (Option Tm)) (h : ∀ q, some q ∈ l → q.dep ≤ 6) (hl : l.length ≤ 3) : (flatO l).length ≤ l.length * 729 := by
  induction l with
  | nil => simp [flatO]
  | cons o l ih =>
    have ih' := ih (fun q hq => h q (List.mem_cons_of_mem _ hq)) (by rw [List.length_cons] at hl; omega)
    cases o with
    | none => simp only [flatO, List.length_cons, Nat.succ_mul]; omega
    | some q =>
      have := flat_729 (h q List.mem_cons_self)
      simp only [flatO, List.length_append, List.length_cons, Nat.succ_mul]
      omega
theorem beh_len (t : Tm) : t.beh.length ≤ 3 := by cases t <;> simp [Tm.beh]
theorem RowAt.tu {H H2 : Hp} (e : ∀ a xs, H a = some (.tup xs) → H2 a = some (.tup xs)) {r : Rw} {u : V} (h : RowAt H r u) : RowAt H2 r u := by
  cases r with
  | pl n t => obtain ⟨a, w, h1, h2, h3⟩ := h; exact ⟨a, w, h1, e _ _ h2, h3.keep e⟩
  | vd k n v x => obtain ⟨a, h1, h2⟩ := h; exact ⟨a, h1, e _ _ h2⟩
  | wh n x y => obtain ⟨a, h1, h2⟩ := h; exact ⟨a, h1, e _ _ h2⟩
  | sm ns => obtain ⟨a, p, h1, h2, h3⟩ := h; exact ⟨a, p, h1, e _ _ h2, e _ _ h3⟩
  | cl os nd xs => obtain ⟨a, p, q, h1, h2, h3, h4⟩ := h; exact ⟨a, p, q, h1, e _ _ h2, e _ _ h3, e _ _ h4⟩
theorem str_ok {l : List Str} (h : ∀ s ∈ l, goodN s) : (l.map V.str).all okV = true := by
  rw [List.all_eq_true]
  intro x hx
  obtain ⟨s, hs, rfl⟩ := List.mem_map.mp hx
  exact okT_V (h s hs).2.2
theorem Tm.good_flat : ∀ {t : Tm}, t.good → ∀ s ∈ t.flat, goodN s := by
  intro t
  induction t with
  | nm z => intro g s hs; have : s = z := (by simpa [Tm.flat] using hs); rw [this]; exact g
  | vl v => intro _ s hs; cases hs
  | two op a b iha ihb => intro g s hs; exact (List.mem_append.mp hs).elim (iha g.2.1 s) (ihb g.2.2 s)
  | nt a iha => intro g s hs; exact iha g s hs
  | pk c a b ihc iha ihb => intro g s hs; exact (List.mem_append.mp hs).elim (fun h => (List.mem_append.mp h).elim (ihc g.1 s) (iha g.2.1 s)) (ihb g.2.2 s)
theorem Rw.good_all {r : Rw} (g : r.good) : ∀ s ∈ r.all, goodN s := by
  intro s hs
  cases r with
  | pl n t =>
    rcases List.mem_append.mp hs with h | h
    · have : s = n := by simpa [Rw.tells] using h
      rw [this]; exact g.1
    · exact Tm.good_flat g.2.1 s (names_flat h)
  | vd k n v x =>
    rcases List.mem_append.mp hs with h | h
    · have : s = n := by simpa [Rw.tells] using h
      rw [this]; exact g.2.1
    · have : s = x := by simpa [Rw.names] using h
      rw [this]; exact g.2.2.2
  | wh n x y =>
    rcases List.mem_append.mp hs with h | h
    · have : s = n := by simpa [Rw.tells] using h
      rw [this]; exact g.1
    · have h2 : s ∈ [x, y] := once_mem h
      simp only [List.mem_cons, List.not_mem_nil, or_false] at h2
      rcases h2 with rfl | rfl
      · exact g.2.1
      · exact g.2.2
  | sm ns =>
    rcases List.mem_append.mp hs with h | h
    · cases h
    · exact g.2.2 s (once_mem h)
  | cl os nd xs =>
    rcases List.mem_append.mp hs with h | h
    · exact g.2.2.1 s h
    · exact g.2.2.2.2.2.2 s (once_mem h)
theorem eqL_strs : ∀ {F : List Str}, eqL (F.map V.str) (F.map V.str) = true
  | [] => rfl
  | a :: F => by
    rw [List.map_cons, eqL, eqL_strs, Bool.and_true]
    show (a == a) = true
    exact beq_self_eq_true a
theorem Rw.all_len {r : Rw} (g : r.good) : r.all.length ≤ 1000 := by
  unfold Rw.all
  rw [List.length_append]
  cases r with
  | pl n t => have := names_729 (t := t) (by have := g.2.2; omega); simp only [Rw.tells, Rw.names, List.length_cons, List.length_nil]; omega
  | vd k n v x => simp [Rw.tells, Rw.names]
  | wh n x y => have := once_len [x, y]; simp only [Rw.tells, Rw.names, List.length_cons, List.length_nil] at this ⊢; omega
  | sm ns => have := once_len ns; have := g.2.1; simp only [Rw.tells, Rw.names, List.length_nil]; omega
  | cl os nd xs => have := once_len xs; have := g.2.1; have := g.2.2.2.2.2.1; simp only [Rw.tells, Rw.names]; omega

/-! ### nodes: the plain side -/
open TL (tl)
theorem kb_tl : kitB "tuple" "list" = some false := by decide +kernel
theorem kb_ll : kitB "list" "list" = some true := by decide +kernel
/-- isinstance(x, (list, tuple)) -/
theorem isiLT {H : Hp} {Q : VK} {x : V} {tp : Addr} (h : TyX K H x (.type "tuple") ∨ TyX K H x (.type "list")) (ht : H tp = some (.tup [.ty "list", .ty "tuple"])) (q : Q (.bl true) H) : rIsiT K [x, .ref tp] H Q := by
  rcases h with h | h
  · refine ⟨x, tp, _, _, [.type "list", .type "tuple"], _, rfl, ht, .cons (.ty _) (.cons (.ty _) .nil), h, ?_, q⟩
    exact kitAny_cons (kit_ty kb_tl) (fun _ => kitAny_cons (kit_ty kb_tt) (fun z => by cases z) (fun _ => rfl)) (fun z => by cases z)
  · refine ⟨x, tp, _, _, [.type "list", .type "tuple"], _, rfl, ht, .cons (.ty _) (.cons (.ty _) .nil), h, ?_, q⟩
    exact kitAny_cons (kit_ty kb_ll) (fun z => by cases z) (fun _ => rfl)
theorem forT {H : Hp} {σ : St} {D : Ends} {g : L2.TG} {tb : TS} {a : Addr} {xs : List V} (Pv : Nat → St → Hp → Prop) (h0 : Pv 0 σ H) (hl : ∀ i σ' H', i ≤ xs.length → Pv i σ' H' → SqT K H' a xs)
    (hs : ∀ i x σ' H', xs[i]? = some x → Pv i σ' H' → g x σ' H' fun σ2 H2 => tb { D with nx := Pv (i + 1), ct := Pv (i + 1), bk := D.nx } σ2 H2) (hd : ∀ σ' H', Pv xs.length σ' H' → D.nx σ' H') : ForI (Itt K a) g tb D σ H := for_tup Pv h0 hl hs hd
theorem nodup_take {l : List Str} {i : Nat} {s : Str} (h : (l.take i).Nodup) (hs : l[i]? = some s) (hn : s ∉ l.take i) : (l.take (i + 1)).Nodup := by
  rw [List.take_add_one, hs, List.nodup_append]
  refine ⟨h, by simp, fun a ha b hb e => hn ?_⟩
  have : b = s := by simpa using hb
  rw [← this, ← e]
  exact ha
/-! unlike names -/
def sp_need_names : Sp := fun vs H Q _ => ∃ (p : Addr) (ns : List Str), vs = [.ref p] ∧ H p = some (.tup (ns.map V.str)) ∧ 0 < ns.length ∧ ns.length ≤ 300 ∧ (∀ s ∈ ns, goodN s) ∧ ns.Nodup ∧ RetV .non H Q
theorem ok_need_names (T : Txt K mg Z) : FnOk P w K mg base CX0 3 Z.f_need_names Z.fd_need_names ["things"] sp_need_names := by
  have G_is_pointed := ok_is_pointed (P := P) (w := w) (base := base) T
  refine T.F_need_names.ok sc_need_names (fun vs H Q E h => ?_) (fun cdv AA outer s H vs Q E hr h => ?_)
  · obtain ⟨p, ns, rfl, _⟩ := h
    rfl
  · obtain ⟨p, ns, rfl, gp, h0, hl, hg, hnd, k⟩ := h
    refine ⟨_, (pss_cons (ps_if (PW.pt (pw_or (pt_not (pt_val (pe_callB call_isiT (by rfl) T.n_isinstance (by decide +kernel) (pa_cons (pv 0) (pa_cons (pe_tup (pa_cons (pe_bltn (v := .ty "list") (by rfl) T.n_list (by decide +kernel) rfl) (pa_cons (pe_bltn (v := .ty "tuple") (by rfl) T.n_tuple (by decide +kernel) rfl) pa_nil))) pa_nil))))) (pw_or1 (pt_cmpR op_eq (pe_callB call_len_seq (by rfl) T.n_len (by decide +kernel) (pa_cons (pv 0) pa_nil)) pe_int (nomark _))))) (pss_one ps_never) pss_nil)
      (pss_cons (ps_set (i := 1) sc_need_names.nd rfl (Or.inl rfl) pe_dnewK)
      (pss_one (ps_for PassesOwn.never rfl (pi_tup (pv 0)) (pg_name (i := 2) sc_need_names.nd rfl (Or.inl rfl)) (pss_cons (ps_if (pt_not (pt_val (pe_call G_is_pointed (hr.mono (by omega)) rfl T.g_is_pointed T.F_is_pointed.kp T.b_is_pointed .nil pass0 (pa_cons (pv 2) pa_nil)))) (pss_one ps_never) pss_nil)
      (pss_cons (ps_if (pt_cmpR (op_inDk (hu_of hr)) (pv 2) (pv 1) (by rfl)) (pss_one ps_never) pss_nil)
      (pss_one (ps_dput (hu_of hr) (pv 1) (pv 2) pe_bl rfl)))))))), ?_⟩
    walk_at "ss"
    refine newT fun tp H1 htp e1 g1 => ?_
    walk_at "ss"
    refine isiLT (.inl (ty_tup (e1 _ _ gp))) g1 ?_
    walk_at "ss"
    refine ⟨p, _, rfl, .inr (SqT.of (e1 _ _ gp)), ?_⟩
    walk_at "ss"
    rw [List.length_map]
    refine if_ff (decide_eq_false (fun z => by have := V.int.inj z; omega)) ?_
    walk_at "ss"
    intro ad had
    have e2 : Ex H1 (upd H1 ad (.dK [])) := Ex.new had
    have g2 : upd H1 ad (.dK []) ad = some (.dK []) := upd_same
    generalize upd H1 ad (.dK []) = H2 at e2 g2
    have e12 := e1.trans e2
    have hadH : H ad = none := fresh_back e1 had
    walk_at "ss"
    refine ⟨⟨_, SqT.of (e12 _ _ gp)⟩, forT (xs := ns.map V.str) (fun i σ' G => (∃ v2, σ' = [some (.ref p), some (.ref ad), v2]) ∧ Ex H G ∧ ∃ ka, G ad = some (.dK ka) ∧ ka.length ≤ i ∧ ∀ z, (valV ka (.inr z)).isSome = decide (z ∈ ns.take i)) ⟨⟨_, rfl⟩, e12, [], g2, Nat.le_refl _, fun z => by simp [valV]⟩ (fun i σ' G _ q => SqT.of (q.2.1 _ _ gp)) ?_ ?_⟩
    · rintro i x σ' G hx ⟨⟨v2, rfl⟩, eG, ka, ga, hkl, hka⟩
      rw [List.getElem?_map] at hx
      obtain ⟨s, hs, rfl⟩ := Option.map_eq_some_iff.mp hx
      have hil := (List.getElem?_eq_some_iff.mp hs).1
      have hgs := hg s (List.mem_of_getElem? hs)
      have hsl := hgs.2.1
      have hm : s ∉ ns.take i := fun z => nodup_at hnd hs z (Nat.le_refl _) rfl
      walk_at "ss"
      refine ⟨_, rfl, .inl ⟨s, rfl, by omega, fun H3 e3 => ?_⟩⟩
      rw [hgs.1]
      walk_at "ss"
      refine ⟨ad, _, rfl, dgetK (e3 _ _ ga), ?_⟩
      walk_at "ss"
      rw [hka]
      refine if_ff (decide_eq_false hm) ?_
      walk_at "ss"
      refine ⟨ad, _, rfl, .inl ⟨ka, .inr s, e3 _ _ ga, rfl, Evl.sz_lt (by omega), rfl⟩, ?_⟩
      walk_at "ss"
      have hpl := putK_len ka (.inr s) (.bl true)
      refine ⟨⟨_, rfl⟩, Ex.mut (eG.trans e3) hadH, _, upd_same, by omega, fun z => ?_⟩
      rw [valV_put, List.take_add_one, hs]
      by_cases hz : z = s
      · rw [if_pos (by rw [hz])]
        simp [hz]
      · rw [if_neg (fun e => hz (Sum.inr.inj e)), hka]
        congr 1
        simp [hz]
    · rintro σ' G ⟨⟨v2, rfl⟩, eG, ka, ga, hkl, hka⟩
      walk_at "ss"
      exact k _ eG
/-! the rows -/
def sp_equations_of (Z : Adr) : Sp := fun vs H Q _ => ∃ (p : Addr) (rs : List Rw) (us : List V), vs = [.ref p] ∧ H p = some (.tup us) ∧ Paired (RowAt H) rs us ∧ rs.length ≤ 300 ∧ (∀ r ∈ rs, r.good ∧ (r.kind = 0 → r.names ≠ [])) ∧
  ∀ l evs H2, H l = none → Ex H H2 → H2 l = some (.lst evs) → Paired (fun r (q : V × V) => EqAt Z H2 r q.1 q.2) rs (evs.zip us) → evs.length = us.length → Q (.ref l) H2
theorem paired_ix {α β : Type} {F : α → β → Prop} : ∀ {l : List α} {m : List β}, Paired F l m → ∀ {i : Nat} {b : β}, m[i]? = some b → ∃ a, l[i]? = some a ∧ F a b
  | _, _, .nil, i, b, h => by simp at h
  | _, _, .cons (a := a0) (b := b0) p q, 0, b, h => by
    have e : b0 = b := by simpa using h
    subst e
    exact ⟨a0, rfl, p⟩
  | _, _, .cons p q, i + 1, b, h => by
    obtain ⟨a, h1, h2⟩ := paired_ix q (i := i) (b := b) (by simpa using h)
    exact ⟨a, by simpa using h1, h2⟩
theorem EqAt.cls {H : Hp} {r : Rw} {v u : V} (h : EqAt Z H r v u) : ∃ a dx fs, v = .ref a ∧ H a = some (.ins (clsK Z r.kind) dx fs) ∧ MCE Z (clsK Z r.kind) ∧ offE fs := by
  obtain ⟨a, dx, fs, h1, h2, _, _, h5, _⟩ := h
  exact ⟨a, dx, fs, h1, h2, ⟨_, r.kind_lt, rfl⟩, h5.1⟩
theorem row_names_good {r : Rw} (g : r.good) : ∀ s ∈ r.names, goodN s := fun s hs => Rw.good_all g s (List.mem_append_right _ hs)
theorem row_tells_good {r : Rw} (g : r.good) : ∀ s ∈ r.tells, goodN s := fun s hs => Rw.good_all g s (List.mem_append_left _ hs)
theorem re_term0 {r : Rw} {v u : V} {H : Hp} {Q : VK} (hk : r.kind ≠ 0) (q : Q .non H) : Re_term Z r v u H Q := by
  cases r with
  | pl n t => exact absurd rfl hk
  | _ => exact q
theorem re_term1 {r : Rw} {v u : V} {H : Hp} {Q : VK} (hk : r.kind = 0) (q : ∀ a, Q (.ref a) H) : Re_term Z r v u H Q := by
  cases r with
  | pl n t =>
    intro tv htv
    obtain ⟨a, dx, fs, rfl, _⟩ := htv.cls
    exact q a
  | vd k n v x => rcases k with _ | _ | k <;> cases hk
  | _ => cases hk
theorem paired_take {α β : Type} {F : α → β → Prop} : ∀ {l : List α} {m : List β}, Paired F l m → ∀ i : Nat, Paired F (l.take i) (m.take i)
  | _, _, .nil, i => by simp; exact .nil
  | _, _, .cons p q, 0 => .nil
  | _, _, .cons p q, i + 1 => .cons p (paired_take q i)
theorem ok_equations_of (T : Txt K mg Z)  : FnOk P w K mg base CX0 (26) Z.f_equations_of Z.fd_equations_of ["rows"] (sp_equations_of Z) := by
  have G_equation_of := ok_equation_of (P := P) (w := w) (base := base) T
  refine T.F_equations_of.ok sc_equations_of (fun vs H Q E h => ?_) (fun cdv AA outer s H vs Q E hr h => ?_)
  · obtain ⟨p, rs, us, rfl, _⟩ := h
    rfl
  · obtain ⟨p, rs, us, rfl, gp, hp, hl, hg, k⟩ := h
    have GME_term := gmE_term (P := P) (w := w) (base := base) T
    have GME_names := gmE_names (P := P) (w := w) (base := base) T
    refine ⟨_, (pss_cons (ps_if (pt_not (pt_val (pe_callB call_isiT (by rfl) T.n_isinstance (by decide +kernel) (pa_cons (pv 0) (pa_cons (pe_tup (pa_cons (pe_bltn (v := .ty "list") (by rfl) T.n_list (by decide +kernel) rfl) (pa_cons (pe_bltn (v := .ty "tuple") (by rfl) T.n_tuple (by decide +kernel) rfl) pa_nil))) pa_nil))))) (pss_one ps_never) pss_nil)
      (pss_cons (ps_set (i := 1) sc_equations_of.nd rfl (Or.inl rfl) (pe_lst pa_nil))
      (pss_cons (ps_for PassesOwn.never rfl (pi_tup (pv 0)) (pg_name (i := 2) sc_equations_of.nd rfl (Or.inl rfl)) (pss_cons (ps_set (i := 3) sc_equations_of.nd rfl (Or.inl rfl) (pe_call G_equation_of (hr.mono (by omega)) rfl T.g_equation_of T.F_equation_of.kp T.b_equation_of .nil pass0 (pa_cons (pv 2) pa_nil)))
      (Evl.pss_cut (ps_if (PW.pt (pw_and (pt_cmpR op_notN (pe_methP0 (pv 3) GME_term (hr.mono (by omega)) pass0) pe_non (nomark _)) (pw_and1 (pt_cmpR (op_eqD hr.units) (pe_methP0 (pv 3) GME_names (hr.mono (by omega)) pass0) (pe_lst pa_nil) (nomark _))))) (pss_one ps_never) pss_nil)
      (pss_one (ps_expr (pe_bm PySem.F.plainAttrs_list PySem.F.slot_list_append PySem.F.type_list_append mt_append (pv 1) (pa_cons (pv 3) pa_nil)))))))
      (pss_one (ps_ret (pv 1)))))), ?_⟩
    walk_at "ss"
    refine newT fun tp H1 htp e1 g1 => ?_
    walk_at "ss"
    refine isiLT (.inl (ty_tup (e1 _ _ gp))) g1 ?_
    walk_at "ss"
    refine newL fun fd H2 hfd e2 g2 => ?_
    have e12 := e1.trans e2
    have hfdH : H fd = none := fresh_back e1 hfd
    walk_at "ss"
    refine ⟨⟨_, SqT.of (e12 _ _ gp)⟩, forT (xs := us) (fun i σ' G => (∃ v2 v3, σ' = [some (.ref p), some (.ref fd), v2, v3]) ∧ Ex H G ∧ ∃ evs, G fd = some (.lst evs) ∧ evs.length = i ∧ Paired (fun r (q : V × V) => EqAt Z G r q.1 q.2) (rs.take i) (evs.zip (us.take i))) ⟨⟨_, _, rfl⟩, e12, [], g2, rfl, .nil⟩ (fun i σ' G _ q => SqT.of (q.2.1 _ _ gp)) ?_ ?_⟩
    · rintro i x σ' G hx ⟨⟨v2, v3, rfl⟩, eG, evs, gf, hel, hpr⟩
      obtain ⟨r, hr2, hR⟩ := paired_ix hp hx
      obtain ⟨hgr, hpl⟩ := hg r (List.mem_of_getElem? hr2)
      have hil := (List.getElem?_eq_some_iff.mp hr2).1
      walk_at "ss"
      refine ⟨r, x, rfl, hR.up eG, hgr, fun v H3 e3 hE => ?_⟩
      walk_at "ss"
      obtain ⟨a, dx, fs, rfl, ha, hM, o1, o2, o3, o4, o5⟩ := hE.cls
      refine c_cut (M := fun σ' G' => σ' = [some (.ref p), some (.ref fd), some x, some (.ref a)] ∧ Ex H3 G') ?_ ?_
      · walk_at "ss"
        refine ⟨a, _, dx, fs, rfl, ha, hM, o4, ?_⟩
        walk_at "ss"
        refine ⟨r, _, _, rfl, hE, hgr, rfl, ?_⟩
        by_cases hk0 : r.kind = 0
        · refine re_term1 hk0 fun tv => ?_
          walk_at "ss"
          refine if_tt (by rfl) ?_
          walk_at "ss"
          refine ⟨a, _, dx, fs, rfl, ha, hM, o3, ?_⟩
          walk_at "ss"
          refine ⟨r, _, _, rfl, hE, hgr, rfl, fun l2 H4 hl2 e4 g4 => ?_⟩
          walk_at "ss"
          refine newL fun l3 H5 hl3 e5 g5 => ?_
          have hno : r.names ≠ [] := hpl hk0
          have hok : (r.names.map V.str).all okV = true := by
            rw [List.all_eq_true]
            intro y hy
            obtain ⟨s, hs, rfl⟩ := List.mem_map.mp hy
            exact okT_V (row_names_good hgr s hs).2.2
          refine c_eqLs (SqL.of (e5 _ _ g4)) (SqL.of g5) hok rfl ?_
          have hf : eqL (r.names.map V.str) [] = false := by
            cases hn : r.names with
            | nil => exact absurd hn hno
            | cons a l => rfl
          rw [hf]
          walk_at "ss"
          exact e4.trans e5
        · refine re_term0 hk0 ?_
          walk_at "ss"
          refine if_ff (by rfl) ?_
          walk_at "ss"
          exact Ex.refl _
      · rintro σ' G4 ⟨rfl, e4⟩
        have e34 := e3.trans e4
        walk_at "ss"
        refine ⟨.inl ⟨rfl, _, SqL.of (e34 _ _ gf)⟩, ?_⟩
        walk_at "ss"
        refine ⟨fd, _, _, rfl, rfl, e34 _ _ gf, Evl.sz_lt (by omega), ?_⟩
        walk_at "ss"
        have NU : NL G4 (upd G4 fd (.lst (evs ++ [.ref a]))) := NL.upd (e34 _ _ gf)
        refine ⟨⟨_, _, rfl⟩, Ex.mut (eG.trans e34) hfdH, evs ++ [.ref a], upd_same, by rw [List.length_append, hel]; rfl, ?_⟩
        have hul : (us.take i).length = i := by
          rw [List.length_take]
          have := (List.getElem?_eq_some_iff.mp hx).1
          omega
        rw [List.take_add_one, hr2, List.take_add_one, hx]
        show Paired _ (rs.take i ++ [r]) ((evs ++ [V.ref a]).zip (us.take i ++ [x]))
        rw [List.zip_append (by rw [hel, hul])]
        exact paired_snoc (b := (V.ref a, x)) ((hE.up e4).nl NU) (paired_up (fun r q h => (h.up e34).nl NU) hpr)
    · rintro σ' G ⟨⟨v2, v3, rfl⟩, eG, evs, gf, hel, hpr⟩
      walk_at "ss"
      have hlen := paired_len hp
      rw [List.take_length, List.take_of_length_le (by omega)] at hpr
      exact k fd evs G hfdH eG gf hpr hel

/-! ### the class of nodes -/
open TL (tl)
structure Nd where
  nm : Str
  ins : List Str
  outs : List Str
  rows : List Rw
def Nd.told (n : Nd) : List Str := n.rows.flatMap Rw.tells
def Nd.names (n : Nd) : List Str := n.ins ++ n.told
structure Nd.good (n : Nd) : Prop where
  nm : isName n.nm = true ∧ n.nm.length ≤ 8 ∧ OkT n.nm
  in0 : 0 < n.ins.length
  in1 : n.ins.length ≤ 300
  inG : ∀ s ∈ n.ins, goodN s
  out0 : 0 < n.outs.length
  out1 : n.outs.length ≤ 300
  outG : ∀ s ∈ n.outs, goodN s ∧ s ∈ n.told
  outN : n.outs.Nodup
  all : n.names.Nodup
  all1 : n.names.length ≤ 1000
  row1 : n.rows.length ≤ 300
  row : ∀ r ∈ n.rows, r.good ∧ (r.kind = 0 → r.names ≠ []) ∧ ∀ s ∈ r.names, s ∈ n.names
def nfs (nm : Str) (li lo lr td : Addr) : List (Str × V) := [("name", .str nm), ("kept_inputs", .ref li), ("kept_outs", .ref lo), ("kept_rows", .ref lr), ("tellers", .ref td)]
/-- who tells each name -/
def telR (rs : List Rw) (evs : List V) : List (Key × V) := (rs.zip evs).flatMap fun p => p.1.tells.map fun s => ((.inr s : Key), p.2)
def telK (ins : List Str) (rs : List Rw) (evs : List V) : List (Key × V) := (ins.map fun s => ((.inr s : Key), V.non)) ++ telR rs evs
/-- the thing v is the node n -/
def NdAt (Z : Adr) (H : Hp) (n : Nd) (v : V) : Prop := ∃ a dx li lo lr td evs us, v = .ref a ∧ H a = some (.ins Z.c_Node dx (nfs n.nm li lo lr td)) ∧ H li = some (.lst (n.ins.map V.str)) ∧ H lo = some (.lst (n.outs.map V.str)) ∧ H lr = some (.lst evs) ∧ H td = some (.dK (telK n.ins n.rows evs)) ∧ Paired (fun r (q : V × V) => EqAt Z H r q.1 q.2) n.rows (evs.zip us) ∧ evs.length = us.length
theorem NdAt.up {H H2 : Hp} {n : Nd} {v : V} (h : NdAt Z H n v) (e : Ex H H2) : NdAt Z H2 n v := by
  obtain ⟨a, dx, li, lo, lr, td, evs, us, h1, h2, h3, h4, h5, h6, h7, h8⟩ := h
  exact ⟨a, dx, li, lo, lr, td, evs, us, h1, e _ _ h2, e _ _ h3, e _ _ h4, e _ _ h5, e _ _ h6, paired_up (fun r q h => h.up e) h7, h8⟩
/-- the thing u is the tuple by which the node n is told -/
def NdT (H : Hp) (n : Nd) (u : V) : Prop := ∃ a p q t us, u = .ref a ∧ H a = some (.tup [.str n.nm, .ref p, .ref q, .ref t]) ∧ H p = some (.tup (n.ins.map V.str)) ∧ H q = some (.tup (n.outs.map V.str)) ∧ H t = some (.tup us) ∧ Paired (RowAt H) n.rows us
theorem NdT.up {H H2 : Hp} {n : Nd} {u : V} (h : NdT H n u) (e : Ex H H2) : NdT H2 n u := by
  obtain ⟨a, p, q, t, us, h1, h2, h3, h4, h5, h6⟩ := h
  exact ⟨a, p, q, t, us, h1, e _ _ h2, e _ _ h3, e _ _ h4, e _ _ h5, paired_up (fun r q h => h.up e) h6⟩
theorem EqAt.it {H H2 : Hp} {r : Rw} {v u : V} (h : EqAt Z H r v u) (ei : InsK H H2) (et : TupK H H2) : EqAt Z H2 r v u := by
  obtain ⟨a, dx, fs, h1, h2, h3, h4, h5, h6⟩ := h
  refine ⟨a, dx, fs, h1, ei _ _ _ _ h2, h3.tu et, h4, h5, fun n t e => ?_⟩
  obtain ⟨tv, h7, h8⟩ := h6 n t e
  exact ⟨tv, h7, h8.keep ei⟩
theorem ins_dk {H G : Hp} {d : Addr} {kv : List (Key × V)} (x : ExB d H G) (hd : H d = some (.dK kv)) : InsK H G := fun a C dx fs h => x _ _ (ne_of h hd (fun z => by cases z)) h
theorem tup_dk {H G : Hp} {d : Addr} {kv : List (Key × V)} (x : ExB d H G) (hd : H d = some (.dK kv)) : TupK H G := fun a xs h => x _ _ (ne_of h hd (fun z => by cases z)) h
theorem lst_dk {H G : Hp} {d a : Addr} {kv : List (Key × V)} {xs : List V} (x : ExB d H G) (hd : H d = some (.dK kv)) (h : H a = some (.lst xs)) : G a = some (.lst xs) := x _ _ (ne_of h hd (fun z => by cases z)) h
/-- a node in the making -/
def NdMk (Z : Adr) (H : Hp) (n : Nd) (a li lo lr td : Addr) (evs us : List V) : Prop := (∃ dx, H a = some (.ins Z.c_Node dx (nfs n.nm li lo lr td))) ∧ H li = some (.lst (n.ins.map V.str)) ∧ H lo = some (.lst (n.outs.map V.str)) ∧ H lr = some (.lst evs) ∧ Paired (fun r (q : V × V) => EqAt Z H r q.1 q.2) n.rows (evs.zip us) ∧ evs.length = us.length
theorem NdMk.up {H H2 : Hp} {n : Nd} {a li lo lr td : Addr} {evs us : List V} (h : NdMk Z H n a li lo lr td evs us) (e : Ex H H2) : NdMk Z H2 n a li lo lr td evs us := by
  obtain ⟨⟨dx, h1⟩, h2, h3, h4, h5, h6⟩ := h
  exact ⟨⟨dx, e _ _ h1⟩, e _ _ h2, e _ _ h3, e _ _ h4, paired_up (fun r q h => h.up e) h5, h6⟩
theorem NdMk.dk {H H2 : Hp} {n : Nd} {a li lo lr td d : Addr} {evs us : List V} {kv : List (Key × V)} (h : NdMk Z H n a li lo lr td evs us) (x : ExB d H H2) (hd : H d = some (.dK kv)) : NdMk Z H2 n a li lo lr td evs us := by
  obtain ⟨⟨dx, h1⟩, h2, h3, h4, h5, h6⟩ := h
  exact ⟨⟨dx, ins_dk x hd _ _ _ _ h1⟩, lst_dk x hd h2, lst_dk x hd h3, lst_dk x hd h4, paired_up (fun r q h => h.it (ins_dk x hd) (tup_dk x hd)) h5, h6⟩
theorem tcN (T : Txt K mg Z) : Cls K Z.c_Node ∧ ∀ f ∈ (["name", "kept_inputs", "kept_outs", "kept_rows", "tellers"] : List Str), NoAttr K Z.c_Node f := ⟨(tcB_ok T.x_Node).cl, (tcB_ok T.x_Node).no⟩
theorem split_at {α : Type} {l : List α} {i : Nat} {a : α} (h : l[i]? = some a) : l = l.take i ++ a :: l.drop (i + 1) := by
  have h1 := (List.getElem?_eq_some_iff.mp h)
  obtain ⟨hl, he⟩ := h1
  conv => lhs; rw [← List.take_append_drop i l]
  rw [List.drop_eq_getElem_cons hl, he]
theorem nodup_mid {l m : List Str} {s : Str} (h : (l ++ s :: m).Nodup) : s ∉ l := fun hs => (List.nodup_append.mp h).2.2 s hs s List.mem_cons_self rfl
theorem names_split {n : Nd} {i j : Nat} {r : Rw} {s : Str} (hn : n.names.Nodup) (hi : n.rows[i]? = some r) (hj : r.tells[j]? = some s) : s ∉ n.ins ++ (n.rows.take i).flatMap Rw.tells ++ r.tells.take j := by
  refine nodup_mid (m := r.tells.drop (j + 1) ++ (n.rows.drop (i + 1)).flatMap Rw.tells) ?_
  have e : n.names = n.ins ++ (n.rows.take i).flatMap Rw.tells ++ r.tells.take j ++ s :: (r.tells.drop (j + 1) ++ (n.rows.drop (i + 1)).flatMap Rw.tells) := by
    unfold Nd.names Nd.told
    conv => lhs; rw [split_at hi]
    rw [List.flatMap_append, List.flatMap_cons]
    conv => lhs; rw [split_at hj]
    simp only [List.append_assoc, List.cons_append]
  rw [← e]
  exact hn
theorem telR_keys : ∀ {rs : List Rw} {evs : List V}, rs.length = evs.length → (telR rs evs).map (·.1) = (rs.flatMap Rw.tells).map (Sum.inr : Str → Key)
  | [], [], _ => rfl
  | r :: rs, v :: evs, h => by
    have ih := telR_keys (rs := rs) (evs := evs) (by simpa using h)
    unfold telR at ih ⊢
    rw [List.zip_cons_cons, List.flatMap_cons, List.map_append, ih, List.flatMap_cons, List.map_append, List.map_map]
    rfl
theorem telK_keys {ins : List Str} {rs : List Rw} {evs : List V} (h : rs.length = evs.length) : (telK ins rs evs).map (·.1) = (ins ++ rs.flatMap Rw.tells).map (Sum.inr : Str → Key) := by
  unfold telK
  rw [List.map_append, telR_keys h, List.map_map, List.map_append]
  rfl
theorem telK_snoc {ins : List Str} {rs : List Rw} {evs : List V} {r : Rw} {v : V} (h : rs.length = evs.length) : telK ins (rs ++ [r]) (evs ++ [v]) = telK ins rs evs ++ r.tells.map fun s => ((.inr s : Key), v) := by
  unfold telK telR
  rw [List.zip_append h, List.flatMap_append, List.append_assoc]
  simp
theorem valV_nokey {kv : List (Key × V)} {s : Str} {l : List Str} (hk : kv.map (·.1) = l.map (Sum.inr : Str → Key)) (hs : s ∉ l) : valV kv (.inr s) = none := by
  cases hv : valV kv (.inr s) with
  | none => rfl
  | some v =>
    have h1 : (Sum.inr s : Key) ∈ kv.map (·.1) := valV_in hv
    rw [hk] at h1
    obtain ⟨z, hz, he⟩ := List.mem_map.mp h1
    have : z = s := Sum.inr.inj he
    subst this
    exact absurd hz hs
def sp_take (Z : Adr) : Sp := fun vs H Q _ => ∃ n a li lo lr td evs us, vs = [.ref a] ∧ NdMk Z H n a li lo lr td evs us ∧ H td = some (.dK []) ∧ n.good ∧ ∀ H2, ExB td H H2 → H2 td = some (.dK (telK n.ins n.rows evs)) → Q .non H2
theorem ok_Node_take_tellers (T : Txt K mg Z)  : FnOk P w K mg base CX0 (12) Z.f_Node_take_tellers Z.fd_Node_take_tellers ["self"] (sp_take Z) := by
  refine T.F_Node_take_tellers.ok sc_Node_take_tellers (fun vs H Q E h => ?_) (fun cdv AA outer s H vs Q E hr h => ?_)
  · obtain ⟨n, a, li, lo, lr, td, evs, us, rfl, _⟩ := h
    rfl
  · obtain ⟨n, a, li, lo, lr, td, evs, us, rfl, hM, gtd, hg, k⟩ := h
    have GME_tells := gmE_tells (P := P) (w := w) (base := base) T
    obtain ⟨cN, nA⟩ := tcN T
    refine ⟨_, (Evl.pss_cut (ps_for PassesOwn.never rfl (pi_list (pe_fld (pv 0) (by rfl))) (pg_name (i := 1) sc_Node_take_tellers.nd rfl (Or.inl rfl)) (pss_one (ps_dput (hu_of hr) (pe_fld (pv 0) (by rfl)) (pv 1) pe_non rfl)))
      (pss_one (ps_for PassesOwn.never rfl (pi_list (pe_fld (pv 0) (by rfl))) (pg_name (i := 2) sc_Node_take_tellers.nd rfl (Or.inl rfl)) (pss_one (ps_for PassesOwn.never rfl (pi_list (pe_methP0 (pv 2) GME_tells (hr.mono (by omega)) pass0)) (pg_name (i := 1) sc_Node_take_tellers.nd rfl (Or.inl rfl)) (pss_cons (ps_if (pt_cmpR (op_inDk (hu_of hr)) (pv 1) (pe_fld (pv 0) (by rfl)) (by rfl)) (pss_one ps_never) pss_nil)
      (pss_one (ps_dput (hu_of hr) (pe_fld (pv 0) (by rfl)) (pv 1) (pv 2) rfl)))))))), ?_⟩
    walk_at "ss"
    refine c_cut (M := fun σ' G => (∃ v1 v2, σ' = [some (.ref a), v1, v2]) ∧ ExB td H G ∧ G td = some (.dK (n.ins.map fun s => ((.inr s : Key), V.non)))) ?_ ?_
    · walk_at "ss"
      obtain ⟨⟨dx, h1⟩, h2, h3, h4, h5, h6⟩ := id hM
      refine ⟨a, _, dx, _, _, rfl, h1, cN, nA _ (by simp), rfl, ?_⟩
      walk_at "ss"
      refine ⟨⟨_, SqL.of h2⟩, forL (xs := n.ins.map V.str) (fun i σ' G => (∃ v1 v2, σ' = [some (.ref a), v1, v2]) ∧ ExB td H G ∧ G td = some (.dK ((n.ins.take i).map fun s => ((.inr s : Key), V.non)))) ⟨⟨_, _, rfl⟩, ExB.refl _ _, gtd⟩ (fun i σ' G _ q => SqL.of (lst_dk q.2.1 gtd h2)) ?_ ?_⟩
      · rintro i x σ' G hx ⟨⟨v1, v2, rfl⟩, xG, gG⟩
        rw [List.getElem?_map] at hx
        obtain ⟨s, hs, rfl⟩ := Option.map_eq_some_iff.mp hx
        have hil := (List.getElem?_eq_some_iff.mp hs).1
        have h300 := hg.in1
        walk_at "ss"
        refine ⟨a, _, dx, _, _, rfl, ins_dk xG gtd _ _ _ _ h1, cN, nA _ (by simp), rfl, ?_⟩
        walk_at "ss"
        refine ⟨td, _, rfl, .inl ⟨_, .inr s, gG, rfl, Evl.sz_lt (by rw [List.length_map, List.length_take]; omega), rfl⟩, ?_⟩
        walk_at "ss"
        refine ⟨⟨_, _, rfl⟩, xG.trans ExB.upd, ?_⟩
        rw [upd_same, putK_fresh, List.take_add_one, hs, List.map_append]
        · rfl
        · intro hin
          rw [List.map_map] at hin
          obtain ⟨z, hz, he⟩ := List.mem_map.mp hin
          have : z = s := Sum.inr.inj he
          subst this
          have hnd : n.ins.Nodup := (List.nodup_append.mp hg.all).1
          exact nodup_at hnd hs hz (Nat.le_refl _) rfl
      · rintro σ' G ⟨⟨v1, v2, rfl⟩, xG, gG⟩
        rw [List.length_map, List.take_length] at gG
        walk_at "ss"
        exact ⟨⟨_, _, rfl⟩, xG, gG⟩
    · rintro σ' G1 ⟨⟨v1, v2, rfl⟩, x1, g1⟩
      obtain ⟨⟨dx, h1⟩, h2, h3, h4, h5, h6⟩ := id (hM.dk x1 gtd)
      walk_at "ss"
      refine ⟨a, _, dx, _, _, rfl, h1, cN, nA _ (by simp), rfl, ?_⟩
      walk_at "ss"
      have hlr : n.rows.length = evs.length := by have := paired_len h5; rw [List.length_zip, h6] at this; omega
      refine ⟨⟨_, SqL.of h4⟩, forL (xs := evs) (fun i σ' G => (∃ v1 v2, σ' = [some (.ref a), v1, v2]) ∧ ExB td G1 G ∧ G td = some (.dK (telK n.ins (n.rows.take i) (evs.take i)))) ⟨⟨_, _, rfl⟩, ExB.refl _ _, by rw [g1]; simp [telK, telR]⟩ (fun i σ' G _ q => SqL.of (lst_dk q.2.1 g1 h4)) ?_ ?_⟩
      · rintro i v σ' G hv ⟨⟨v1, v2, rfl⟩, xG, gG⟩
        have hil := (List.getElem?_eq_some_iff.mp hv).1
        have hz : (evs.zip us)[i]? = some (v, us[i]'(by omega)) := by
          rw [List.getElem?_zip_eq_some]
          exact ⟨hv, List.getElem?_eq_getElem (by omega)⟩
        obtain ⟨r, hr2, hE1⟩ := paired_ix h5 hz
        have hE : EqAt Z G r v _ := hE1.it (ins_dk xG g1) (tup_dk xG g1)
        have hgr := (hg.row r (List.mem_of_getElem? hr2)).1
        have hall := hg.all1
        obtain ⟨a2, dx2, fs2, rfl, ha2, hM2, o1, o2, o3, o4, o5⟩ := hE.cls
        have hrt : (n.rows.take i).length = (evs.take i).length := by rw [List.length_take, List.length_take, hlr]
        walk_at "ss"
        refine ⟨a2, _, dx2, fs2, rfl, ha2, hM2, o2, ?_⟩
        walk_at "ss"
        refine ⟨r, _, _, rfl, hE, hgr, rfl, fun l2 G2 hl2 e2 g2 => ?_⟩
        have ntl : l2 ≠ td := (ne_of_none gG hl2).symm
        walk_at "ss"
        refine ⟨⟨_, SqL.of g2⟩, forL (xs := r.tells.map V.str) (fun j σ' G' => (∃ v1, σ' = [some (.ref a), v1, some (.ref a2)]) ∧ ExB td G1 G' ∧ G' l2 = some (.lst (r.tells.map V.str)) ∧ G' td = some (.dK (telK n.ins (n.rows.take i) (evs.take i) ++ (r.tells.take j).map fun s => ((.inr s : Key), V.ref a2)))) ⟨⟨_, rfl⟩, xG.trans (ExB.of e2), g2, by rw [List.take_zero, List.map_nil, List.append_nil]; exact e2 _ _ gG⟩ (fun j σ' G' _ q => SqL.of q.2.2.1) ?_ ?_⟩
        · rintro j x σ' G' hx ⟨⟨v1, rfl⟩, xG', gl', gt'⟩
          rw [List.getElem?_map] at hx
          obtain ⟨s, hs, rfl⟩ := Option.map_eq_some_iff.mp hx
          have hkeys : (telK n.ins (n.rows.take i) (evs.take i) ++ (r.tells.take j).map fun s => ((.inr s : Key), V.ref a2)).map (·.1) = (n.ins ++ (n.rows.take i).flatMap Rw.tells ++ r.tells.take j).map (Sum.inr : Str → Key) := by
            rw [List.map_append, telK_keys hrt, List.map_map, List.map_append (l₁ := n.ins ++ (n.rows.take i).flatMap Rw.tells)]
            rfl
          have hno := valV_nokey hkeys (names_split hg.all hr2 hs)
          have hlen : (telK n.ins (n.rows.take i) (evs.take i) ++ (r.tells.take j).map fun s => ((.inr s : Key), V.ref a2)).length ≤ 1000 := by
            have h1 := congrArg List.length hkeys
            rw [List.length_map, List.length_map] at h1
            rw [h1]
            refine Nat.le_trans ?_ hall
            have e : n.names = (n.ins ++ (n.rows.take i).flatMap Rw.tells ++ r.tells.take j) ++ (r.tells.drop j ++ (n.rows.drop (i + 1)).flatMap Rw.tells) := by
              unfold Nd.names Nd.told
              conv => lhs; rw [split_at hr2]
              rw [List.flatMap_append, List.flatMap_cons]
              conv => lhs; rw [← List.take_append_drop j r.tells]
              simp only [List.append_assoc]
            rw [e, List.length_append (as := n.ins ++ (n.rows.take i).flatMap Rw.tells ++ r.tells.take j)]
            omega
          walk_at "ss"
          refine ⟨a, _, dx, _, _, rfl, ins_dk xG' g1 _ _ _ _ h1, cN, nA _ (by simp), rfl, ?_⟩
          walk_at "ss"
          refine ⟨td, _, rfl, dgetK gt', ?_⟩
          rw [hno]
          walk_at "ss"
          refine if_ff rfl ?_
          walk_at "ss"
          refine ⟨a, _, dx, _, _, rfl, ins_dk xG' g1 _ _ _ _ h1, cN, nA _ (by simp), rfl, ?_⟩
          walk_at "ss"
          refine ⟨td, _, rfl, .inl ⟨_, .inr s, gt', rfl, Evl.sz_lt (by omega), rfl⟩, ?_⟩
          walk_at "ss"
          refine ⟨⟨_, rfl⟩, xG'.trans ExB.upd, by rw [upd_ne ntl]; exact gl', ?_⟩
          rw [upd_same, putK_new _ hno, List.take_add_one, hs, List.map_append, List.append_assoc]
          rfl
        · rintro σ' G' ⟨⟨v1, rfl⟩, xG', gl', gt'⟩
          walk_at "ss"
          refine ⟨⟨_, _, rfl⟩, xG', ?_⟩
          rw [gt', List.length_map, List.take_length, List.take_add_one, hr2, List.take_add_one, hv]
          show _ = some (HO.dK (telK n.ins (n.rows.take i ++ [r]) (evs.take i ++ [V.ref a2])))
          rw [telK_snoc hrt]
      · rintro σ' G ⟨⟨v1, v2, rfl⟩, xG, gG⟩
        rw [List.take_length, ← hlr, List.take_length] at gG
        walk_at "ss"
        exact k _ (x1.trans xG) gG
/-! what is mentioned is told -/
def sp_need_told (Z : Adr) : Sp := fun vs H Q _ => ∃ n a li lo lr td evs us, vs = [.ref a] ∧ NdMk Z H n a li lo lr td evs us ∧ H td = some (.dK (telK n.ins n.rows evs)) ∧ n.good ∧ RetV .non H Q
theorem valV_haskey {kv : List (Key × V)} {s : Str} {l : List Str} (hk : kv.map (·.1) = l.map (Sum.inr : Str → Key)) (hs : s ∈ l) : ∃ v, valV kv (.inr s) = some v := by
  cases hv : valV kv (.inr s) with
  | some v => exact ⟨v, rfl⟩
  | none =>
    have h1 : (Sum.inr s : Key) ∈ kv.map (·.1) := by rw [hk]; exact List.mem_map.mpr ⟨s, hs, rfl⟩
    obtain ⟨p, hp, he⟩ := List.mem_map.mp h1
    exfalso
    clear h1 hk
    induction kv with
    | nil => cases hp
    | cons q r ih =>
      by_cases e : q.1 = (Sum.inr s : Key)
      · rw [valV_pos e] at hv
        cases hv
      · rw [valV_neg e] at hv
        rcases List.mem_cons.mp hp with hp | hp
        · subst hp
          exact e he
        · exact ih hv hp
theorem valV_mem0' {kv : List (Key × V)} {k : Key} {v : V} (h : valV kv k = some v) : (k, v) ∈ kv := by
  induction kv with
  | nil => cases h
  | cons p r ih =>
    by_cases e : p.1 = k
    · rw [valV_pos e] at h
      have : p = (k, v) := by rw [← e, ← Option.some.inj h]
      rw [this]
      exact List.mem_cons_self
    · rw [valV_neg e] at h
      exact List.mem_cons_of_mem _ (ih h)
theorem telR_ref {Z : Adr} {H : Hp} : ∀ {rs : List Rw} {evs us : List V}, Paired (fun r (q : V × V) => EqAt Z H r q.1 q.2) rs (evs.zip us) → evs.length = us.length → ∀ p ∈ telR rs evs, ∃ a, p.2 = .ref a
  | [], [], _, _, _, p, hp => by cases hp
  | r :: rs, v :: evs, u :: us, h, hl, p, hp => by
    rw [List.zip_cons_cons] at h
    cases h with
    | cons h1 h2 =>
      unfold telR at hp
      rw [List.zip_cons_cons, List.flatMap_cons] at hp
      rcases List.mem_append.mp hp with hp | hp
      · obtain ⟨s, _, rfl⟩ := List.mem_map.mp hp
        obtain ⟨a, dx, fs, e, _⟩ := h1.cls
        exact ⟨a, e⟩
      · exact telR_ref h2 (by simpa using hl) p hp
  | [], _ :: _, _ :: _, h, _, _, _ => by cases h
  | [], _ :: _, [], _, hl, _, _ => by cases hl
theorem told_ref {H : Hp} {n : Nd} {evs us : List V} {s : Str} (h : Paired (fun r (q : V × V) => EqAt Z H r q.1 q.2) n.rows (evs.zip us)) (hl : evs.length = us.length) (hn : n.names.Nodup) (hs : s ∈ n.told) : ∃ a, valV (telK n.ins n.rows evs) (.inr s) = some (.ref a) := by
  have hlr : n.rows.length = evs.length := by have := paired_len h; rw [List.length_zip, hl] at this; omega
  obtain ⟨v, hv⟩ := valV_haskey (telK_keys (ins := n.ins) hlr) (List.mem_append_right _ hs)
  have hm := valV_mem0' hv
  unfold telK at hm
  rcases List.mem_append.mp hm with hm | hm
  · obtain ⟨z, hz, he⟩ := List.mem_map.mp hm
    have : z = s := Sum.inr.inj (Prod.mk.inj he).1
    subst this
    exact absurd rfl ((List.nodup_append.mp hn).2.2 z hz z hs)
  · obtain ⟨a, e⟩ := telR_ref h hl _ hm
    have e2 : v = .ref a := e
    rw [hv, e2]
    exact ⟨a, rfl⟩
theorem ok_Node_need_told (T : Txt K mg Z)  : FnOk P w K mg base CX0 (14) Z.f_Node_need_told Z.fd_Node_need_told ["self"] (sp_need_told Z) := by
  refine T.F_Node_need_told.ok sc_Node_need_told (fun vs H Q E h => ?_) (fun cdv AA outer s H vs Q E hr h => ?_)
  · obtain ⟨n, a, li, lo, lr, td, evs, us, rfl, _⟩ := h
    rfl
  · obtain ⟨n, a, li, lo, lr, td, evs, us, rfl, hM, gtd, hg, k⟩ := h
    have GME_names := gmE_names (P := P) (w := w) (base := base) T
    obtain ⟨cN, nA⟩ := tcN T
    obtain ⟨⟨dx, h1⟩, h2, h3, h4, h5, h6⟩ := id hM
    have hlr : n.rows.length = evs.length := by have := paired_len h5; rw [List.length_zip, h6] at this; omega
    have hkeys := telK_keys (ins := n.ins) hlr
    refine ⟨_, (Evl.pss_cut (ps_for PassesOwn.never rfl (pi_list (pe_fld (pv 0) (by rfl))) (pg_name (i := 1) sc_Node_need_told.nd rfl (Or.inl rfl)) (pss_one (ps_for PassesOwn.never rfl (pi_list (pe_methP0 (pv 1) GME_names (hr.mono (by omega)) pass0)) (pg_name (i := 2) sc_Node_need_told.nd rfl (Or.inl rfl)) (pss_one (ps_if (pt_cmpR (op_notInDk (hu_of hr)) (pv 2) (pe_fld (pv 0) (by rfl)) (by rfl)) (pss_one ps_never) pss_nil)))))
      (pss_one (ps_for PassesOwn.never rfl (pi_list (pe_fld (pv 0) (by rfl))) (pg_name (i := 2) sc_Node_need_told.nd rfl (Or.inl rfl)) (pss_one (ps_if (pt_cmpR op_isN (pe_dget1 (hu_of hr) (pe_fld (pv 0) (by rfl)) (pv 2) ⟨rfl, rfl, rfl, rfl⟩) pe_non (nomark _)) (pss_one ps_never) pss_nil))))), ?_⟩
    walk_at "ss"
    refine c_cut (M := fun σ' G => (∃ v1 v2, σ' = [some (.ref a), v1, v2]) ∧ Ex H G) ?_ ?_
    · walk_at "ss"
      refine ⟨a, _, dx, _, _, rfl, h1, cN, nA _ (by simp), rfl, ?_⟩
      walk_at "ss"
      refine ⟨⟨_, SqL.of h4⟩, forL (xs := evs) (fun i σ' G => (∃ v1 v2, σ' = [some (.ref a), v1, v2]) ∧ Ex H G) ⟨⟨_, _, rfl⟩, Ex.refl _⟩ (fun i σ' G _ q => SqL.of (q.2 _ _ h4)) ?_ ?_⟩
      · rintro i v σ' G hv ⟨⟨v1, v2, rfl⟩, eG⟩
        have hil := (List.getElem?_eq_some_iff.mp hv).1
        have hz : (evs.zip us)[i]? = some (v, us[i]'(by omega)) := by
          rw [List.getElem?_zip_eq_some]
          exact ⟨hv, List.getElem?_eq_getElem (by omega)⟩
        obtain ⟨r, hr2, hE1⟩ := paired_ix h5 hz
        have hE : EqAt Z G r v _ := hE1.up eG
        obtain ⟨hgr, _, hmen⟩ := hg.row r (List.mem_of_getElem? hr2)
        obtain ⟨a2, dx2, fs2, rfl, ha2, hM2, o1, o2, o3, o4, o5⟩ := hE.cls
        walk_at "ss"
        refine ⟨a2, _, dx2, fs2, rfl, ha2, hM2, o3, ?_⟩
        walk_at "ss"
        refine ⟨r, _, _, rfl, hE, hgr, rfl, fun l2 G2 hl2 e2 g2 => ?_⟩
        walk_at "ss"
        refine ⟨⟨_, SqL.of g2⟩, forL (xs := r.names.map V.str) (fun j σ' G' => (∃ v1 v2, σ' = [some (.ref a), v1, v2]) ∧ Ex G2 G') ⟨⟨_, _, rfl⟩, Ex.refl _⟩ (fun j σ' G' _ q => SqL.of (q.2 _ _ g2)) ?_ ?_⟩
        · rintro j x σ' G' hx ⟨⟨v1, v2, rfl⟩, eG'⟩
          rw [List.getElem?_map] at hx
          obtain ⟨s, hs, rfl⟩ := Option.map_eq_some_iff.mp hx
          obtain ⟨vt, hvt⟩ := valV_haskey hkeys (hmen s (List.mem_of_getElem? hs))
          have E' := eG.trans (e2.trans eG')
          walk_at "ss"
          refine ⟨a, _, dx, _, _, rfl, E' _ _ h1, cN, nA _ (by simp), rfl, ?_⟩
          walk_at "ss"
          refine ⟨td, _, rfl, dgetK (E' _ _ gtd), ?_⟩
          rw [hvt]
          walk_at "ss"
          refine if_ff rfl ?_
          walk_at "ss"
          exact ⟨⟨_, _, rfl⟩, eG'⟩
        · rintro σ' G' ⟨⟨v1, v2, rfl⟩, eG'⟩
          walk_at "ss"
          exact ⟨⟨_, _, rfl⟩, eG.trans (e2.trans eG')⟩
      · rintro σ' G ⟨⟨v1, v2, rfl⟩, eG⟩
        walk_at "ss"
        exact ⟨⟨_, _, rfl⟩, eG⟩
    · rintro σ' G ⟨⟨v1, v2, rfl⟩, eG⟩
      walk_at "ss"
      refine ⟨a, _, dx, _, _, rfl, eG _ _ h1, cN, nA _ (by simp), rfl, ?_⟩
      walk_at "ss"
      refine ⟨⟨_, SqL.of (eG _ _ h3)⟩, forL (xs := n.outs.map V.str) (fun i σ' G => (∃ v1 v2, σ' = [some (.ref a), v1, v2]) ∧ Ex H G) ⟨⟨_, _, rfl⟩, eG⟩ (fun i σ' G _ q => SqL.of (q.2 _ _ h3)) ?_ ?_⟩
      · rintro i x σ' G hx ⟨⟨v1, v2, rfl⟩, eG⟩
        rw [List.getElem?_map] at hx
        obtain ⟨s, hs, rfl⟩ := Option.map_eq_some_iff.mp hx
        obtain ⟨at_, hat⟩ := told_ref h5 h6 hg.all (hg.outG s (List.mem_of_getElem? hs)).2
        walk_at "ss"
        refine ⟨a, _, dx, _, _, rfl, eG _ _ h1, cN, nA _ (by simp), rfl, ?_⟩
        walk_at "ss"
        refine ⟨isD (eG _ _ gtd), ?_⟩
        walk_at "ss"
        refine ⟨_, dgetK (eG _ _ gtd), ?_⟩
        rw [hat]
        walk_at "ss"
        refine if_ff (by rfl) ?_
        walk_at "ss"
        exact ⟨⟨_, _, rfl⟩, eG⟩
      · rintro σ' G ⟨⟨v1, v2, rfl⟩, eG⟩
        walk_at "ss"
        exact k _ eG

/-! ### nodes made -/
open TL (tl)
def MCN (Z : Adr) (C : Addr) : Prop := C = Z.c_Node
def spmN_take_tellers (Z : Adr) (C : Addr) : Sp := sp_take Z
def spmN_need_told (Z : Adr) (C : Addr) : Sp := sp_need_told Z
theorem gmN_take_tellers (T : Txt K mg Z) : ∀ C, MCN Z C → MOk P w K mg base CX0 12 C "take_tellers" (spmN_take_tellers Z C) := by
  rintro C rfl
  exact ⟨(tcB_ok T.x_Node).cl, _, _, _, ⟨T.h_take_tellers_Node, T.y_Node_take_tellers, T.F_Node_take_tellers.kp⟩, ok_Node_take_tellers (P := P) (w := w) (base := base) T, T.b_Node_take_tellers⟩
theorem gmN_need_told (T : Txt K mg Z) : ∀ C, MCN Z C → MOk P w K mg base CX0 14 C "need_told" (spmN_need_told Z C) := by
  rintro C rfl
  exact ⟨(tcB_ok T.x_Node).cl, _, _, _, ⟨T.h_need_told_Node, T.y_Node_need_told, T.F_Node_need_told.kp⟩, ok_Node_need_told (P := P) (w := w) (base := base) T, T.b_Node_need_told⟩
theorem MCx_ne (T : Txt K mg Z) {C : Addr} (h : MC Z C ∨ MCE Z C) : C ≠ Z.c_Node := by
  rcases h with h | ⟨i, hi, rfl⟩
  · rcases h with rfl | rfl | rfl | rfl | rfl
    · exact (difB_ne (i := 0) (j := 1) T.fact_difN1 rfl rfl (by decide)).symm
    · exact (difB_ne (i := 0) (j := 2) T.fact_difN1 rfl rfl (by decide)).symm
    · exact (difB_ne (i := 0) (j := 3) T.fact_difN1 rfl rfl (by decide)).symm
    · exact (difB_ne (i := 0) (j := 4) T.fact_difN1 rfl rfl (by decide)).symm
    · exact (difB_ne (i := 0) (j := 5) T.fact_difN1 rfl rfl (by decide)).symm
  · have hi' : i = 0 ∨ i = 1 ∨ i = 2 ∨ i = 3 ∨ i = 4 ∨ i = 5 ∨ i = 6 := by omega
    rcases hi' with rfl | rfl | rfl | rfl | rfl | rfl | rfl
    · exact (difB_ne (i := 0) (j := 1) T.fact_difN2 rfl rfl (by decide)).symm
    · exact (difB_ne (i := 0) (j := 2) T.fact_difN2 rfl rfl (by decide)).symm
    · exact (difB_ne (i := 0) (j := 3) T.fact_difN2 rfl rfl (by decide)).symm
    · exact (difB_ne (i := 0) (j := 4) T.fact_difN2 rfl rfl (by decide)).symm
    · exact (difB_ne (i := 0) (j := 5) T.fact_difN2 rfl rfl (by decide)).symm
    · exact (difB_ne (i := 0) (j := 6) T.fact_difN2 rfl rfl (by decide)).symm
    · exact (difB_ne (i := 0) (j := 7) T.fact_difN2 rfl rfl (by decide)).symm
theorem EqAt.keepE {H H2 : Hp} {r : Rw} {v u : V} (h : EqAt Z H r v u) (ei : ∀ a C dx fs, MC Z C ∨ MCE Z C → H a = some (.ins C dx fs) → H2 a = some (.ins C dx fs)) (et : TupK H H2) : EqAt Z H2 r v u := by
  obtain ⟨a, dx, fs, h1, h2, h3, h4, h5, h6⟩ := h
  refine ⟨a, dx, fs, h1, ei _ _ _ _ (.inr ⟨_, r.kind_lt, rfl⟩) h2, h3.tu et, h4, h5, fun n t e => ?_⟩
  obtain ⟨tv, h7, h8⟩ := h6 n t e
  exact ⟨tv, h7, h8.keepM fun a C dx fs hC ha => ei a C dx fs (.inl hC) ha⟩
theorem eqs_node (T : Txt K mg Z) {H : Hp} {x dx : Addr} {fs gs : List (Str × V)} {rs : List Rw} {ps : List (V × V)} (hx : H x = some (.ins Z.c_Node dx fs)) (h : Paired (fun r (q : V × V) => EqAt Z H r q.1 q.2) rs ps) : Paired (fun r (q : V × V) => EqAt Z (upd H x (.ins Z.c_Node dx gs)) r q.1 q.2) rs ps :=
  paired_up (fun r q h => h.keepE (fun a C dx' fs' hC ha => by
    rw [upd_ne]
    · exact ha
    · intro z
      subst z
      rw [hx] at ha
      injection ha with ha
      injection ha with ha
      exact MCx_ne T hC ha.symm) (fun a xs ha => by rw [upd_ne (ne_of ha hx (fun z => by cases z))]; exact ha)) h
/-- the same, its things not yet there in H0 -/
def NdFr (Z : Adr) (H0 H : Hp) (n : Nd) (v : V) : Prop := ∃ a dx li lo lr td evs us, v = .ref a ∧ H a = some (.ins Z.c_Node dx (nfs n.nm li lo lr td)) ∧ H li = some (.lst (n.ins.map V.str)) ∧ H lo = some (.lst (n.outs.map V.str)) ∧ H lr = some (.lst evs) ∧ H td = some (.dK (telK n.ins n.rows evs)) ∧ Paired (fun r (q : V × V) => EqAt Z H r q.1 q.2) n.rows (evs.zip us) ∧ evs.length = us.length ∧ H0 a = none ∧ H0 li = none ∧ H0 lo = none ∧ H0 lr = none ∧ H0 td = none
theorem NdFr.at_ {H0 H : Hp} {n : Nd} {v : V} (h : NdFr Z H0 H n v) : NdAt Z H n v := by
  obtain ⟨a, dx, li, lo, lr, td, evs, us, h1, h2, h3, h4, h5, h6, h7, h8, _⟩ := h
  exact ⟨a, dx, li, lo, lr, td, evs, us, h1, h2, h3, h4, h5, h6, h7, h8⟩
theorem NdFr.back {H00 H0 H : Hp} {n : Nd} {v : V} (h : NdFr Z H0 H n v) (e : Ex H00 H0) : NdFr Z H00 H n v := by
  obtain ⟨a, dx, li, lo, lr, td, evs, us, h1, h2, h3, h4, h5, h6, h7, h8, f1, f2, f3, f4, f5⟩ := h
  exact ⟨a, dx, li, lo, lr, td, evs, us, h1, h2, h3, h4, h5, h6, h7, h8, fresh_back e f1, fresh_back e f2, fresh_back e f3, fresh_back e f4, fresh_back e f5⟩
def sp_Node_init (Z : Adr) : Sp := fun vs H Q _ => ∃ x dx n p q t us H0, vs = [.ref x, .str n.nm, .ref p, .ref q, .ref t] ∧ H x = some (.ins Z.c_Node dx []) ∧ H0 x = none ∧ Ex H0 H ∧ H0 p = some (.tup (n.ins.map V.str)) ∧ H0 q = some (.tup (n.outs.map V.str)) ∧ H0 t = some (.tup us) ∧ Paired (RowAt H0) n.rows us ∧ n.good ∧ ∀ H2, Ex H0 H2 → NdFr Z H0 H2 n (.ref x) → Q .non H2
theorem ok_Node_init (T : Txt K mg Z)  : FnOk P w K mg base CX0 (28) Z.f_Node_init Z.fd_Node_init ["self", "name", "inputs", "outs", "rows"] (sp_Node_init Z) := by
  have G_is_name := ok_is_name (P := P) (w := w) (base := base) T
  have G_need_names := ok_need_names (P := P) (w := w) (base := base) T
  have G_equations_of := ok_equations_of (P := P) (w := w) (base := base) T
  refine T.F_Node_init.ok sc_Node_init (fun vs H Q E h => ?_) (fun cdv AA outer s H vs Q E hr h => ?_)
  · obtain ⟨x, dx, n, p, q, t, us, H0, rfl, _⟩ := h
    rfl
  · obtain ⟨x, dx, n, p, q, t, us, H0, rfl, hx, h0, e0, gp, gq, gt, hrw, hg, k⟩ := h
    have GMN_take_tellers := gmN_take_tellers (P := P) (w := w) (base := base) T
    have GMN_need_told := gmN_need_told (P := P) (w := w) (base := base) T
    obtain ⟨cN, nA⟩ := tcN T
    have hnm := hg.nm
    have h8 := hnm.2.1
    have hin : n.ins.Nodup := (List.nodup_append.mp hg.all).1
    refine ⟨_, (pss_cons (ps_if (pt_not (pt_val (pe_call G_is_name (hr.mono (by omega)) rfl T.g_is_name T.F_is_name.kp T.b_is_name .nil pass0 (pa_cons (pv 1) pa_nil)))) (pss_one ps_never) pss_nil)
      (pss_cons (ps_expr (pe_call G_need_names (hr.mono (by omega)) rfl T.g_need_names T.F_need_names.kp T.b_need_names .nil pass0 (pa_cons (pv 2) pa_nil)))
      (pss_cons (ps_expr (pe_call G_need_names (hr.mono (by omega)) rfl T.g_need_names T.F_need_names.kp T.b_need_names .nil pass0 (pa_cons (pv 3) pa_nil)))
      (pss_cons (ps_fld (pv 0) (pv 1) (by rfl))
      (pss_cons (ps_fld (pv 0) (pe_callTy call_list_of (by rfl) T.n_list (by decide +kernel) (pa_cons (pv 2) pa_nil)) (by rfl))
      (pss_cons (ps_fld (pv 0) (pe_callTy call_list_of (by rfl) T.n_list (by decide +kernel) (pa_cons (pv 3) pa_nil)) (by rfl))
      (pss_cons (ps_fld (pv 0) (pe_call G_equations_of (hr.mono (by omega)) rfl T.g_equations_of T.F_equations_of.kp T.b_equations_of .nil pass0 (pa_cons (pv 4) pa_nil)) (by rfl))
      (pss_cons (ps_fld (pv 0) pe_dnewK (by rfl))
      (pss_cons (ps_expr (pe_methP0 (pv 0) GMN_take_tellers (hr.mono (by omega)) pass0))
      (pss_one (ps_expr (pe_methP0 (pv 0) GMN_need_told (hr.mono (by omega)) pass0)))))))))))), ?_⟩
    walk_at "ss"
    refine ⟨_, rfl, .inl ⟨n.nm, rfl, by omega, fun H1 e1 => ?_⟩⟩
    rw [hnm.1]
    walk_at "ss"
    refine ⟨p, n.ins, rfl, (e0.trans e1) _ _ gp, hg.in0, hg.in1, hg.inG, hin, fun H2 e2 => ?_⟩
    walk_at "ss"
    have e02 := e0.trans (e1.trans e2)
    refine ⟨q, n.outs, rfl, e02 _ _ gq, hg.out0, hg.out1, fun s hs => (hg.outG s hs).1, hg.outN, fun H3 e3 => ?_⟩
    have e03 := e02.trans e3
    walk_at "ss"
    have hx3 := (e1.trans (e2.trans e3)) _ _ hx
    refine ⟨x, _, dx, _, rfl, hx3, cN, nA _ (by simp), by simp, ?_⟩
    have f4 : Ex H0 (upd H3 x (.ins Z.c_Node dx (putF "name" (.str n.nm) []))) := Ex.mut e03 h0
    have hx4 : upd H3 x (.ins Z.c_Node dx (putF "name" (.str n.nm) [])) x = some (.ins Z.c_Node dx [("name", .str n.nm)]) := upd_same
    generalize upd H3 x (.ins Z.c_Node dx (putF "name" (.str n.nm) [])) = H4 at f4 hx4
    walk_at "ss"
    refine ⟨_, _, rfl, .inr (SqT.of (f4 _ _ gp)), fun li hli => ?_⟩
    have f5 : Ex H4 (upd H4 li (.lst (n.ins.map V.str))) := Ex.new hli
    have g5 : upd H4 li (.lst (n.ins.map V.str)) li = some (.lst (n.ins.map V.str)) := upd_same
    generalize upd H4 li (.lst (n.ins.map V.str)) = H5 at f5 g5
    walk_at "ss"
    refine ⟨x, _, dx, _, rfl, f5 _ _ hx4, cN, nA _ (by simp), by simp, ?_⟩
    rw [put_tl (by decide +kernel)]
    have nlx : li ≠ x := (ne_of_none hx4 hli).symm
    have f6 : Ex H0 (upd H5 x (.ins Z.c_Node dx (("name", .str n.nm) :: putF "kept_inputs" (.ref li) []))) := Ex.mut (f4.trans f5) h0
    have hx6 : upd H5 x (.ins Z.c_Node dx (("name", .str n.nm) :: putF "kept_inputs" (.ref li) [])) x = some (.ins Z.c_Node dx [("name", .str n.nm), ("kept_inputs", .ref li)]) := upd_same
    have g6 : upd H5 x (.ins Z.c_Node dx (("name", .str n.nm) :: putF "kept_inputs" (.ref li) [])) li = some (.lst (n.ins.map V.str)) := by rw [upd_ne nlx]; exact g5
    generalize upd H5 x (.ins Z.c_Node dx (("name", .str n.nm) :: putF "kept_inputs" (.ref li) [])) = H6 at f6 hx6 g6
    walk_at "ss"
    refine ⟨_, _, rfl, .inr (SqT.of (f6 _ _ gq)), fun lo hlo => ?_⟩
    have f7 : Ex H6 (upd H6 lo (.lst (n.outs.map V.str))) := Ex.new hlo
    have g7 : upd H6 lo (.lst (n.outs.map V.str)) lo = some (.lst (n.outs.map V.str)) := upd_same
    generalize upd H6 lo (.lst (n.outs.map V.str)) = H7 at f7 g7
    walk_at "ss"
    refine ⟨x, _, dx, _, rfl, f7 _ _ hx6, cN, nA _ (by simp), by simp, ?_⟩
    rw [put_tl (by decide +kernel), put_tl (by decide +kernel)]
    have nox : lo ≠ x := (ne_of_none hx6 hlo).symm
    generalize hF8 : (("name", .str n.nm) :: ("kept_inputs", .ref li) :: putF "kept_outs" (.ref lo) [] : List (Str × V)) = fs8
    have f8 : Ex H0 (upd H7 x (.ins Z.c_Node dx fs8)) := Ex.mut (f6.trans f7) h0
    have hx8 : upd H7 x (.ins Z.c_Node dx fs8) x = some (.ins Z.c_Node dx [("name", .str n.nm), ("kept_inputs", .ref li), ("kept_outs", .ref lo)]) := by rw [upd_same, ← hF8]; rfl
    have gi8 : upd H7 x (.ins Z.c_Node dx fs8) li = some (.lst (n.ins.map V.str)) := by rw [upd_ne nlx]; exact f7 _ _ g6
    have go8 : upd H7 x (.ins Z.c_Node dx fs8) lo = some (.lst (n.outs.map V.str)) := by rw [upd_ne nox]; exact g7
    generalize upd H7 x (.ins Z.c_Node dx fs8) = H8 at f8 hx8 gi8 go8
    walk_at "ss"
    refine ⟨t, n.rows, us, rfl, f8 _ _ gt, paired_up (fun r u h => h.up f8) hrw, hg.row1, fun r hr => ⟨(hg.row r hr).1, (hg.row r hr).2.1⟩, fun lr evs H9 hlr f9 g9 hev hel => ?_⟩
    walk_at "ss"
    refine ⟨x, _, dx, _, rfl, f9 _ _ hx8, cN, nA _ (by simp), by simp, ?_⟩
    rw [put_tl (by decide +kernel), put_tl (by decide +kernel), put_tl (by decide +kernel)]
    have nrx : lr ≠ x := (ne_of_none hx8 hlr).symm
    generalize hF10 : (("name", .str n.nm) :: ("kept_inputs", .ref li) :: ("kept_outs", .ref lo) :: putF "kept_rows" (.ref lr) [] : List (Str × V)) = fs10
    have f10 : Ex H0 (upd H9 x (.ins Z.c_Node dx fs10)) := Ex.mut (f8.trans f9) h0
    have hev10 := eqs_node T (gs := fs10) (f9 _ _ hx8) hev
    have hx10 : upd H9 x (.ins Z.c_Node dx fs10) x = some (.ins Z.c_Node dx [("name", .str n.nm), ("kept_inputs", .ref li), ("kept_outs", .ref lo), ("kept_rows", .ref lr)]) := by rw [upd_same, ← hF10]; rfl
    have gi10 : upd H9 x (.ins Z.c_Node dx fs10) li = some (.lst (n.ins.map V.str)) := by rw [upd_ne nlx]; exact f9 _ _ gi8
    have go10 : upd H9 x (.ins Z.c_Node dx fs10) lo = some (.lst (n.outs.map V.str)) := by rw [upd_ne nox]; exact f9 _ _ go8
    have gr10 : upd H9 x (.ins Z.c_Node dx fs10) lr = some (.lst evs) := by rw [upd_ne nrx]; exact g9
    generalize upd H9 x (.ins Z.c_Node dx fs10) = H10 at f10 hx10 gi10 go10 gr10 hev10
    walk_at "ss"
    intro td htd
    have htd0 : H0 td = none := fresh_back f10 htd
    have f11 : Ex H10 (upd H10 td (.dK [])) := Ex.new htd
    have g11 : upd H10 td (.dK []) td = some (.dK []) := upd_same
    generalize upd H10 td (.dK []) = H11 at f11 g11
    walk_at "ss"
    refine ⟨x, _, dx, _, rfl, f11 _ _ hx10, cN, nA _ (by simp), by simp, ?_⟩
    rw [put_tl (by decide +kernel), put_tl (by decide +kernel), put_tl (by decide +kernel), put_tl (by decide +kernel)]
    have ntx : td ≠ x := (ne_of_none hx10 htd).symm
    generalize hF12 : (("name", .str n.nm) :: ("kept_inputs", .ref li) :: ("kept_outs", .ref lo) :: ("kept_rows", .ref lr) :: putF "tellers" (.ref td) [] : List (Str × V)) = fs12
    have f12 : Ex H0 (upd H11 x (.ins Z.c_Node dx fs12)) := Ex.mut (f10.trans f11) h0
    have hev12 := eqs_node T (gs := fs12) (f11 _ _ hx10) (paired_up (fun r q h => h.up f11) hev10)
    have hx12 : upd H11 x (.ins Z.c_Node dx fs12) x = some (.ins Z.c_Node dx (nfs n.nm li lo lr td)) := by rw [upd_same, ← hF12]; rfl
    have gi12 : upd H11 x (.ins Z.c_Node dx fs12) li = some (.lst (n.ins.map V.str)) := by rw [upd_ne nlx]; exact f11 _ _ gi10
    have go12 : upd H11 x (.ins Z.c_Node dx fs12) lo = some (.lst (n.outs.map V.str)) := by rw [upd_ne nox]; exact f11 _ _ go10
    have gr12 : upd H11 x (.ins Z.c_Node dx fs12) lr = some (.lst evs) := by rw [upd_ne nrx]; exact f11 _ _ gr10
    have gt12 : upd H11 x (.ins Z.c_Node dx fs12) td = some (.dK []) := by rw [upd_ne ntx]; exact g11
    generalize upd H11 x (.ins Z.c_Node dx fs12) = H12 at f12 hx12 gi12 go12 gr12 gt12 hev12
    have hMk : NdMk Z H12 n x li lo lr td evs us := ⟨⟨dx, hx12⟩, gi12, go12, gr12, hev12, hel⟩
    walk_at "ss"
    refine ⟨x, _, dx, _, rfl, hx12, rfl, rfl, ?_⟩
    walk_at "ss"
    refine ⟨n, x, li, lo, lr, td, evs, us, rfl, hMk, gt12, hg, fun H13 x13 g13 => ?_⟩
    have hMk13 := hMk.dk x13 gt12
    have f13 : Ex H0 H13 := fun a o ha => x13 a o (ne_of_none ha htd0) (f12 _ _ ha)
    obtain ⟨⟨dx', hx13⟩, m2, m3, m4, m5, m6⟩ := id hMk13
    walk_at "ss"
    refine ⟨x, _, dx', _, rfl, hx13, rfl, rfl, ?_⟩
    walk_at "ss"
    refine ⟨n, x, li, lo, lr, td, evs, us, rfl, hMk13, g13, hg, fun H14 f14 => ?_⟩
    walk_at "ss"
    obtain ⟨⟨dx2, hx14⟩, w2, w3, w4, w5, w6⟩ := hMk13.up f14
    exact k H14 (f13.trans f14) ⟨x, dx2, li, lo, lr, td, evs, us, rfl, hx14, w2, w3, w4, f14 _ _ g13, w5, w6, h0, fresh_back f4 hli, fresh_back f6 hlo, fresh_back f8 hlr, htd0⟩

/-! ### nodes told -/
open TL (tl)
theorem rows_of {H : Hp} : ∀ {rs : List Rw} {evs us : List V}, Paired (fun r (q : V × V) => EqAt Z H r q.1 q.2) rs (evs.zip us) → evs.length = us.length → Paired (RowAt H) rs us
  | [], [], [], _, _ => .nil
  | r :: rs, v :: evs, u :: us, h, hl => by
    rw [List.zip_cons_cons] at h
    cases h with
    | cons h1 h2 =>
      obtain ⟨_, _, _, _, _, h3, _⟩ := h1
      exact .cons h3 (rows_of h2 (by simpa using hl))
  | [], _ :: _, _ :: _, h, _ => by cases h
  | _ :: _, [], [], h, _ => by cases h
  | _, _ :: _, [], _, hl => by cases hl
  | _, [], _ :: _, _, hl => by cases hl
def spmN_told (Z : Adr) (C : Addr) : Sp := fun vs H Q _ => ∃ n v, vs = [v] ∧ NdAt Z H n v ∧ n.good ∧ ∀ u H2, Ex H H2 → NdT H2 n u → Q u H2
theorem re_told {r : Rw} {v u : V} {H : Hp} {Q : VK} (q : Q u H) : Re_told r v u H Q := q
theorem ok_Node_told (T : Txt K mg Z)  : FnOk P w K mg base CX0 (4) Z.f_Node_told Z.fd_Node_told ["self"] (spmN_told Z Z.c_Node) := by
  refine T.F_Node_told.ok sc_Node_told (fun vs H Q E h => ?_) (fun cdv AA outer s H vs Q E hr h => ?_)
  · obtain ⟨n, v, rfl, _⟩ := h
    rfl
  · obtain ⟨n, v, rfl, ⟨a, dx, li, lo, lr, td, evs, us, rfl, h1, h2, h3, h4, h5, h6, h7⟩, hg, k⟩ := h
    have GME_told := gmE_told (P := P) (w := w) (base := base) T
    obtain ⟨cN, nA⟩ := tcN T
    have hlr : n.rows.length = evs.length := by have := paired_len h6; rw [List.length_zip, h7] at this; omega
    have hrl := hg.row1
    refine ⟨_, (pss_cons (ps_set (i := 1) sc_Node_told.nd rfl (Or.inl rfl) (pe_callTy call_tuple_of (by rfl) T.n_tuple (by decide +kernel) (pa_cons (pe_lc (own := [("row", 2)]) (g := (gName 2)) (tt := tYes) (te := (tMP (MCE Z) "told" (spmE_told Z) E0 (tVar 2) tNil)) rfl sc_Node_told.nd (pi_list (pe_fld (pv 0) (by rfl))) (blkOk_by (own := [("row", 2)]) (N := N_Node_told) (sc := defScope s_Node_told) (by decide +kernel)) (fun _ _ _ _ _ => (pg_name (i := 2) sc_Node_told.nd rfl (Or.inl rfl))) (fun _ _ _ _ _ => pts_nil) (fun _ _ _ _ _ => (pe_methP0 (pv 2) GME_told (hr.mono (by omega)) pass0))) pa_nil)))
      (pss_one (ps_ret (pe_tup (pa_cons (pe_fld (pv 0) (by rfl)) (pa_cons (pe_callTy call_tuple_of (by rfl) T.n_tuple (by decide +kernel) (pa_cons (pe_fld (pv 0) (by rfl)) pa_nil)) (pa_cons (pe_callTy call_tuple_of (by rfl) T.n_tuple (by decide +kernel) (pa_cons (pe_fld (pv 0) (by rfl)) pa_nil)) (pa_cons (pv 1) pa_nil)))))))), ?_⟩
    walk_at "ss"
    refine ⟨a, _, dx, _, _, rfl, h1, cN, nA _ (by simp), rfl, ?_⟩
    walk_at "ss"
    refine ⟨⟨_, SqL.of h4⟩, ?_⟩
    refine lcLP (fun D i y G => us[i]? = some y) (fun _ _ _ _ _ _ h => h) (SqL.of h4) (by omega) (fun D i v hD hv H2 e2 _ R N hR => ?_) (fun ys p H2 hyl hy hp e2 g2 => ?_)
    · have hil := (List.getElem?_eq_some_iff.mp hv).1
      have hu : us[i]? = some (us[i]'(by omega)) := List.getElem?_eq_getElem (by omega)
      have hz : (evs.zip us)[i]? = some (v, us[i]'(by omega)) := by
        rw [List.getElem?_zip_eq_some]
        exact ⟨hv, hu⟩
      obtain ⟨r, hr2, hE1⟩ := paired_ix h6 hz
      have hE : EqAt Z H2 r v _ := hE1.up e2
      have hgr := (hg.row r (List.mem_of_getElem? hr2)).1
      obtain ⟨a2, dx2, fs2, rfl, ha2, hM2, o1, o2, o3, o4, o5⟩ := hE.cls
      walk_at "ss"
      refine ⟨a2, _, dx2, fs2, rfl, ha2, hM2, o1, ?_⟩
      walk_at "ss"
      refine ⟨r, _, _, rfl, hE, hgr, rfl, re_told ?_⟩
      exact hR _ _ (Ex.refl _) hu
    have hys : ys = us := by
      apply List.ext_getElem?
      intro i
      cases hi : ys[i]? with
      | some y => exact (hy i y hi).symm
      | none =>
        rw [List.getElem?_eq_none_iff] at hi
        rw [List.getElem?_eq_none (by omega)]
    subst hys
    walk_at "ss"
    refine ⟨_, _, rfl, .inl ⟨SqL.of g2, fun t3 ht3 => ?_⟩⟩
    have e3 : Ex H2 (upd H2 t3 (.tup ys)) := Ex.new ht3
    have g3 : upd H2 t3 (.tup ys) t3 = some (.tup ys) := upd_same
    generalize upd H2 t3 (.tup ys) = H3 at e3 g3
    have e03 := Ex.trans e2 e3
    walk_at "ss"
    refine ⟨a, _, dx, _, _, rfl, e03 _ _ h1, cN, nA _ (by simp), rfl, ?_⟩
    walk_at "ss"
    refine ⟨a, _, dx, _, _, rfl, e03 _ _ h1, cN, nA _ (by simp), rfl, ?_⟩
    walk_at "ss"
    refine ⟨_, _, rfl, .inl ⟨SqL.of (e03 _ _ h2), fun t4 ht4 => ?_⟩⟩
    have e4 : Ex H3 (upd H3 t4 (.tup (n.ins.map V.str))) := Ex.new ht4
    have g4 : upd H3 t4 (.tup (n.ins.map V.str)) t4 = some (.tup (n.ins.map V.str)) := upd_same
    generalize upd H3 t4 (.tup (n.ins.map V.str)) = H4 at e4 g4
    have e04 := e03.trans e4
    walk_at "ss"
    refine ⟨a, _, dx, _, _, rfl, e04 _ _ h1, cN, nA _ (by simp), rfl, ?_⟩
    walk_at "ss"
    refine ⟨_, _, rfl, .inl ⟨SqL.of (e04 _ _ h3), fun t5 ht5 => ?_⟩⟩
    have e5 : Ex H4 (upd H4 t5 (.tup (n.outs.map V.str))) := Ex.new ht5
    have g5 : upd H4 t5 (.tup (n.outs.map V.str)) t5 = some (.tup (n.outs.map V.str)) := upd_same
    generalize upd H4 t5 (.tup (n.outs.map V.str)) = H5 at e5 g5
    walk_at "ss"
    refine newT fun t6 H6 ht6 e6 g6 => ?_
    walk_at "ss"
    have e06 := e04.trans (e5.trans e6)
    exact k _ H6 e06 ⟨t6, t4, t5, t3, ys, rfl, g6, (e5.trans e6) _ _ g4, e6 _ _ g5, (e4.trans (e5.trans e6)) _ _ g3, paired_up (fun r u h => h.up e06) (rows_of h6 h7)⟩
theorem gmN_told (T : Txt K mg Z) : ∀ C, MCN Z C → MOk P w K mg base CX0 4 C "told" (spmN_told Z C) := by
  rintro C rfl
  exact ⟨(tcB_ok T.x_Node).cl, _, _, _, ⟨T.h_told_Node, T.y_Node_told, T.F_Node_told.kp⟩, ok_Node_told (P := P) (w := w) (base := base) T, T.b_Node_told⟩
theorem c_thru {t u : TS} {D : Ends} {σ : St} {H : Hp} (h : t { D with nx := u D } σ H) : tThru t u D σ H := h
/-! the node that a tuple tells -/
def sp_node_of (Z : Adr) : Sp := fun vs H Q _ => ∃ u n, vs = [u] ∧ NdT H n u ∧ n.good ∧ ∀ v H2, Ex H H2 → NdFr Z H H2 n v → Q v H2
theorem ok_node_of (T : Txt K mg Z)  : FnOk P w K mg base CX0 (31) Z.f_node_of Z.fd_node_of ["told"] (sp_node_of Z) := by
  have G_Node_init := ok_Node_init (P := P) (w := w) (base := base) T
  refine T.F_node_of.ok sc_node_of (fun vs H Q E h => ?_) (fun cdv AA outer s H vs Q E hr h => ?_)
  · obtain ⟨u, n, rfl, _⟩ := h
    rfl
  · obtain ⟨u, n, rfl, ⟨a, p, q, t, us, rfl, ga, gp, gq, gt, hrw⟩, hg, k⟩ := h
    refine ⟨_, (pss_cons (ps_if (PW.pt (pw_or (pt_not (pt_val (pe_callB call_isi (by rfl) T.n_isinstance (by decide +kernel) (pa_cons (pv 0) (pa_cons (pe_bltn (v := .ty "tuple") (by rfl) T.n_tuple (by decide +kernel) rfl) pa_nil))))) (pw_or1 (pt_cmpR op_ne (pe_callB call_len_seq (by rfl) T.n_len (by decide +kernel) (pa_cons (pv 0) pa_nil)) (pe_gcst rfl T.c_TOLD_THINGS) (nomark _))))) (pss_one ps_never) pss_nil)
      (pss_cons (ps_if (pt_not (pt_val (pe_callB (cr_all rfl) (by rfl) T.n_all (by decide +kernel) (pa_cons (pe_lc (own := [("thing", 1)]) (g := (gName 1)) (tt := tYes) (te := (tCB (rIsi K) (tCons (tVar 1) (tCons (tC (.ty "tuple")) tNil)))) rfl sc_node_of.nd (pi_tup (pe_slice sl_tup (pv 0) (po_some pe_int) po_none)) (blkOk_by (own := [("thing", 1)]) (N := N_node_of) (sc := defScope s_node_of) (by decide +kernel)) (fun _ _ _ _ _ => (pg_name (i := 1) sc_node_of.nd rfl (Or.inl rfl))) (fun _ _ _ _ _ => pts_nil) (fun _ _ _ _ _ => (pe_callB call_isi (by rfl) T.n_isinstance (by decide +kernel) (pa_cons (pv 1) (pa_cons (pe_bltn (v := .ty "tuple") (by rfl) T.n_tuple (by decide +kernel) rfl) pa_nil))))) pa_nil)))) (pss_one ps_never) pss_nil)
      (pss_one (ps_try_thru (pss_one (ps_set (i := 2) sc_node_of.nd rfl (Or.inl rfl) (pe_make ⟨(tcB_ok T.x_Node).makes, T.i_Node, T.y_Node_init, (tcB_ok T.x_Node).kp⟩ G_Node_init (hr.mono (by omega)) rfl T.m_Node T.b_Node_init .nil pass0 (pa_cons (pe_ix ix_tup (pv 0) pe_int (fun _ _ => rfl)) (pa_cons (pe_ix ix_tup (pv 0) pe_int (fun _ _ => rfl)) (pa_cons (pe_ix ix_tup (pv 0) pe_int (fun _ _ => rfl)) (pa_cons (pe_ix ix_tup (pv 0) pe_int (fun _ _ => rfl)) pa_nil))))))) (pss_one (ps_ret (pv 2))))))), ?_⟩
    walk_at "ss"
    refine isi (ty_tup ga) kb_tt ?_
    walk_at "ss"
    refine ⟨a, _, rfl, .inr (SqT.of ga), ?_⟩
    walk_at "ss"
    refine if_ff (by rfl) ?_
    walk_at "ss"
    refine ⟨a, _, rfl, SqT.of ga, (by
      intro z
      have h1 := z.1
      rw [show (1 : Int) = ((1 : Nat) : Int) from rfl, HT.sIx_nat] at h1
      simp at h1), fun p2 hp2 => ?_⟩
    rw [show cutV [.str n.nm, .ref p, .ref q, .ref t] (some 1) none = [.ref p, .ref q, .ref t] from rfl]
    have e2 : Ex H (upd H p2 (.tup [.ref p, .ref q, .ref t])) := Ex.new hp2
    have g2 : upd H p2 (.tup [.ref p, .ref q, .ref t]) p2 = some (.tup [.ref p, .ref q, .ref t]) := upd_same
    generalize upd H p2 (.tup [.ref p, .ref q, .ref t]) = H2 at e2 g2
    refine ⟨p2, rfl, ⟨_, SqT.of g2⟩, ?_⟩
    refine lcT (fun _ => some (.bl true)) (SqT.of g2) (by simp) (fun i x hx F2 f2 R hR => ?_) ?_
    · have hty : TyX K F2 x (.type "tuple") := by
        have e := e2.trans f2
        match i, hx with
        | 0, hx => cases hx; exact ty_tup (e _ _ gp)
        | 1, hx => cases hx; exact ty_tup (e _ _ gq)
        | 2, hx => cases hx; exact ty_tup (e _ _ gt)
      walk_at "ss"
      refine isi hty kb_tt ?_
      exact hR _ (Ex.refl _)
    intro l3 H3 hl3 e3 g3
    walk_at "ss"
    refine ⟨l3, [true, true, true], rfl, SqL.of g3, ?_⟩
    walk_at "ss"
    have e03 := e2.trans e3
    refine if_ff (by rfl) ?_
    walk_at "ss"
    refine c_thru ?_
    walk_at "ss"
    refine c_ixT (SqT.of (e03 _ _ ga)) rfl ?_
    walk_at "ss"
    refine c_ixT (SqT.of (e03 _ _ ga)) rfl ?_
    walk_at "ss"
    refine c_ixT (SqT.of (e03 _ _ ga)) rfl ?_
    walk_at "ss"
    refine c_ixT (SqT.of (e03 _ _ ga)) rfl ?_
    walk_at "ss"
    intro x dx hx hdx nxd
    have eM : Ex H3 (upd (upd H3 dx (.own x)) x (.ins Z.c_Node dx [])) := fun b o hb => by rw [upd_ne (ne_of_none hb hx), upd_ne (ne_of_none hb hdx)]; exact hb
    refine ⟨x, dx, n, p, q, t, us, H3, rfl, upd_same, hx, eM, e03 _ _ gp, e03 _ _ gq, e03 _ _ gt, paired_up (fun r u h => h.up e03) hrw, hg, fun H4 e4 h4 => ⟨rfl, ?_⟩⟩
    walk_at "ss"
    exact k _ H4 (e03.trans e4) (h4.back e03)

/-! ### clocks that follow, plain -/
/-- the names from whose clocks that of a row's name follows -/
def Rw.ment : Rw → List Str
  | .pl _ t => t.flat
  | .vd _ _ _ x => [x]
  | .wh _ x y => [x, y]
  | _ => []
/-- the clock that a row hands on -/
def Rw.hand : Rw → List Str → Option (List Str)
  | .wh _ _ y, c => some (c ++ [y])
  | .vd 1 _ _ _, c => if c = [] then none else some c.dropLast
  | _, c => some c
/-- a clock follows for a name -/
inductive Drv (ins : List Str) (rs : List Rw) : Str → List Str → Prop
  | inp {s : Str} : s ∈ ins → Drv ins rs s []
  | row {r : Rw} {n m : Str} {c c' : List Str} : r ∈ rs → r.tells = [n] → m ∈ r.ment → Drv ins rs m c → r.hand c = some c' → Drv ins rs n c'
/-- no clocks fit: two of one name, or a hold of what ticks at each beat -/
def Clash (ins : List Str) (rs : List Rw) : Prop := (∃ s c c', Drv ins rs s c ∧ Drv ins rs s c' ∧ c ≠ c') ∨ ∃ r m c, r ∈ rs ∧ m ∈ r.ment ∧ Drv ins rs m c ∧ r.hand c = none
theorem Rw.ment_tells {r : Rw} {m : Str} (h : m ∈ r.ment) : ∃ n, r.tells = [n] := by
  cases r with
  | pl n t => exact ⟨n, rfl⟩
  | vd k n v x => exact ⟨n, rfl⟩
  | wh n x y => exact ⟨n, rfl⟩
  | sm ns => cases h
  | cl os nd xs => cases h
/-- clocks that keep all rows as far as they are known -/
structure Closed (ins : List Str) (rs : List Rw) (K : Str → Option (List Str)) : Prop where
  inp : ∀ s ∈ ins, K s = some []
  row : ∀ r ∈ rs, ∀ n m c, r.tells = [n] → m ∈ r.ment → K m = some c → ∃ c', r.hand c = some c' ∧ K n = some c'
section
variable {ins : List Str} {rs : List Rw} {K : Str → Option (List Str)}
theorem Closed.drv (h : Closed ins rs K) {s : Str} {c : List Str} (d : Drv ins rs s c) : K s = some c := by
  induction d with
  | inp hs => exact h.inp _ hs
  | row hr ht hm _ hc ih =>
    obtain ⟨c2, h1, h2⟩ := h.row _ hr _ _ _ ht hm ih
    rw [hc] at h1
    cases h1
    exact h2
theorem Closed.no (h : Closed ins rs K) : ¬Clash ins rs := by
  rintro (⟨s, c, c', h1, h2, hne⟩ | ⟨r, m, c, hr, hm, hd, hn⟩)
  · have e1 := h.drv h1
    rw [h.drv h2] at e1
    exact hne (Option.some.inj e1).symm
  · obtain ⟨n, ht⟩ := Rw.ment_tells hm
    obtain ⟨c', h1, _⟩ := h.row r hr n m c ht hm (h.drv hd)
    rw [hn] at h1
    cases h1
end
/-- a step: a name, its clock, the name from which it follows -/
abbrev Stp := Str × List Str × Option Str
/-- a step follows from those ahead -/
def Flw (ins : List Str) (rs : List Rw) (S : List Stp) (x : Stp) : Prop := (x.2.2 = none ∧ x.1 ∈ ins ∧ x.2.1 = []) ∨ ∃ r y, r ∈ rs ∧ y ∈ S ∧ r.tells = [x.1] ∧ x.2.2 = some y.1 ∧ y.1 ∈ r.ment ∧ r.hand y.2.1 = some x.2.1
/-- all steps follow -/
inductive Stps (ins : List Str) (rs : List Rw) : List Stp → Prop
  | nil : Stps ins rs []
  | snoc {S : List Stp} {x : Stp} : Stps ins rs S → Flw ins rs S x → Stps ins rs (S ++ [x])
theorem Stps.drv {ins : List Str} {rs : List Rw} {S : List Stp} (h : Stps ins rs S) : ∀ x ∈ S, Drv ins rs x.1 x.2.1 := by
  induction h with
  | nil => intro x hx; cases hx
  | snoc hS hx ih =>
    intro y hy
    rcases List.mem_append.mp hy with hy | hy
    · exact ih y hy
    · rw [List.mem_singleton.mp hy]
      rcases hx with ⟨_, h1, h2⟩ | ⟨r, z, hr, hz, ht, _, hm, hc⟩
      · rw [h2]; exact .inp h1
      · exact .row hr ht hm (ih z hz) hc
/-- the first clock told of a name -/
def clkOf (S : List Stp) (s : Str) : Option (List Str) := (S.find? fun x => x.1 == s).map fun x => x.2.1
theorem clk_mem {S : List Stp} {s : Str} {c : List Str} (h : clkOf S s = some c) : ∃ p, (s, c, p) ∈ S := by
  obtain ⟨x, hx, e⟩ := Option.map_eq_some_iff.mp h
  have h1 := List.mem_of_find?_eq_some hx
  have h2 : x.1 = s := by simpa using List.find?_some hx
  exact ⟨x.2.2, by rw [← h2, ← e]; exact h1⟩
theorem clk_none {S : List Stp} {s : Str} (h : clkOf S s = none) : s ∉ S.map (·.1) := fun hm => by
  obtain ⟨x, hx, rfl⟩ := List.mem_map.mp hm
  have h1 : S.find? (fun y => y.1 == x.1) = none := Option.map_eq_none_iff.mp h
  have := List.find?_eq_none.mp h1 x hx
  simp at this
theorem clk_at : ∀ {S : List Stp}, (S.map (·.1)).Nodup → ∀ {x : Stp}, x ∈ S → clkOf S x.1 = some x.2.1
  | y :: S, hn, x, hx => by
    rw [List.map_cons] at hn
    obtain ⟨h1, h2⟩ := List.nodup_cons.mp hn
    unfold clkOf
    rw [List.find?_cons]
    rcases List.mem_cons.mp hx with rfl | hx
    · rw [beq_self_eq_true]
      rfl
    · have hne : (y.1 == x.1) = false := beq_eq_false_iff_ne.mpr fun e => h1 (List.mem_map.mpr ⟨x, hx, e.symm⟩)
      rw [hne]
      exact clk_at h2 hx
/-- names told once, all of them closed: the clocks are told -/
theorem clk_closed {ins : List Str} {rs : List Rw} {S : List Stp} (hn : (S.map (·.1)).Nodup) (hi : ∀ s ∈ ins, ∃ p, (s, [], p) ∈ S) (hr : ∀ r ∈ rs, ∀ n m c p, r.tells = [n] → m ∈ r.ment → (m, c, p) ∈ S → ∃ c' p', r.hand c = some c' ∧ (n, c', p') ∈ S) : Closed ins rs (clkOf S) := by
  refine ⟨fun s hs => ?_, fun r hrr n m c ht hm hk => ?_⟩
  · obtain ⟨p, hp⟩ := hi s hs
    exact clk_at hn hp
  · obtain ⟨p, hp⟩ := clk_mem hk
    obtain ⟨c', p', h1, h2⟩ := hr r hrr n m c p ht hm hp
    exact ⟨c', h1, clk_at hn h2⟩
/-- steps that are closed tell each clock that follows -/
theorem clk_iff {ins : List Str} {rs : List Rw} {S : List Stp} (hS : Stps ins rs S) (hc : Closed ins rs (clkOf S)) {s : Str} {c : List Str} : clkOf S s = some c ↔ Drv ins rs s c := by
  refine ⟨fun h => ?_, hc.drv⟩
  obtain ⟨p, hp⟩ := clk_mem h
  exact hS.drv _ hp

/-! ### tuples in the heap, clocks in a dict (as in p_g5, p_g6, p_g9) -/
open TL (tl)
theorem c_slH {H : Hp} {Q : VK} {a : Addr} {xs : List V} {lo hi : Option Int} (h : H a = some (.tup xs)) (k : ∀ p H2, Ex H H2 → H2 p = some (.tup (cutV xs lo hi)) → Q (.ref p) H2) : rSlA K (.ref a) lo hi H Q := by
  refine ⟨a, xs, rfl, SqT.of h, fun ⟨z1, z2⟩ => k a H (Ex.refl _) ?_, fun _ p hp => k p _ (Ex.new hp) upd_same⟩
  unfold cutV
  rw [z1, z2, List.drop_zero, Nat.sub_zero, List.take_length]
  exact h
theorem c_catH {H : Hp} {Q : VK} {a b : Addr} {xs ys : List V} (ha : H a = some (.tup xs)) (hb : H b = some (.tup ys)) (hn : xs.length + ys.length ≤ 50000) (k : ∀ p H2, Ex H H2 → H2 p = some (.tup (xs ++ ys)) → Q (.ref p) H2) : rCatA K (.ref a) (.ref b) H Q := by
  refine ⟨a, b, xs, ys, rfl, rfl, SqT.of ha, SqT.of hb, by rw [sizeLine_eq]; omega, fun z => k b H (Ex.refl _) (by rw [z]; exact hb), fun _ z => k a H (Ex.refl _) (by rw [z, List.append_nil]; exact ha), fun _ _ p hp => k p _ (Ex.new hp) upd_same⟩
theorem eqL_nil (l : List Str) : eqL (l.map V.str) [] = l.isEmpty := by cases l <;> rfl
theorem cut_init (l : List Str) : cutV (l.map V.str) none (some (-1)) = l.dropLast.map V.str := by
  unfold cutV
  rw [HT.sIx_none, List.drop_zero, Nat.sub_zero, List.length_map]
  show List.take (if (-1 : Int) < 0 then ((-1 : Int) + (l.length : Int)).toNat else min (-1 : Int).toNat l.length) _ = _
  rw [if_pos (by decide), show ((-1 : Int) + (l.length : Int)).toNat = l.length - 1 from by omega, ← List.map_take, ← List.dropLast_eq_take]
theorem eqL_dec : ∀ (a b : List Str), eqL (a.map V.str) (b.map V.str) = decide (a = b)
  | [], [] => rfl
  | [], _ :: _ => rfl
  | _ :: _, [] => rfl
  | x :: a, y :: b => by
    show (eqV (.str x) (.str y) && eqL (a.map V.str) (b.map V.str)) = _
    rw [eqL_dec a b]
    have h : eqV (.str x) (.str y) = decide (x = y) := by
      by_cases e : x = y <;> simp [eqV, e]
    rw [h]
    by_cases e : x = y <;> by_cases f : a = b <;> simp [e, f]
/-- the clocks, in a dict with just these names -/
def CksAt (H : Hp) (cd : Addr) (U : List Str) (ck : Str → List Str) : Prop := ∃ kv, H cd = some (.dK kv) ∧ kv.map (·.1) = U.map (Sum.inr : Str → Key) ∧ ∀ s ∈ U, ∃ p, valV kv (.inr s) = some (.ref p) ∧ H p = some (.tup ((ck s).map V.str))

/-! ### l.extend(t), t a tuple -/
section
open PySem.AutoSeq1 in
theorem ext_tup (l b : Addr) (xs ys : Array Value) (n m : Nat) (dd : Option Addr) (sl : Array (Option Value)) (h0 : ¬(!xs.isEmpty && Builtin.List.listTooLong (xs.size + ys.size)) = true) (h1 : xs.size ≤ sizeLine) (h2 : xs.size + ys.size ≤ sizeLine + 1) :
    Meets (Builtin.«list.extend» ⟨[.ref l, .ref b], []⟩) (fun _ R s => s.heap.get? l = some { cls := .type "list", dict := none, data := .seq xs n, slots := #[] } ∧ s.heap.get? b = some { cls := .type "tuple", dict := dd, data := .seq ys m, slots := sl } ∧
      R (.ok (.ret Value.none)) { s with heap := s.heap.update l (Obj.mapSeq fun x => x ++ ys), toks := s.toks }) :=
  .of_wp fun prog w A R s h => by
    obtain ⟨hp, g, d, tk, os⟩ := s
    obtain ⟨gl, gb, r⟩ := h
    have f1 := idx_int
    have f2 := sub_tuple_tuple
    have f3 := sub_list_list
    have f4 := sub_tuple_list
    have f5 := sub_list_tuple
    have z : (xs ++ ys).size ≤ sizeLine + 1 := by rw [Array.size_append]; exact h2
    wp_walk using (wpAny_updateSeq gl rfl (hz := h1) (_hz' := z)), wpAny_loadPart' gl, wpAny_loadPart' gb
    exact ⟨_, rfl, r⟩
def rExtendT (K : PySem.W.Frag) : V → List V → Hp → VK → Prop := fun x vs H Q => ∃ l b xs zs, x = .ref l ∧ vs = [.ref b] ∧ H l = some (.lst xs) ∧ SqT K H b zs ∧ xs.length + zs.length ≤ sizeLine ∧ Q .non (upd H l (.lst (xs ++ zs)))
theorem mt_extendT {X : Cx} : MtM X "list.extend" (rExtendT X.K) := by
  intro pins s σ H x vs v us Q I rx rv h
  obtain ⟨l, b, xs, zs, rfl, rfl, hH, hB, hz, q⟩ := h
  cases rx
  obtain ⟨u, rfl, ru⟩ := rv.one
  cases ru
  obtain ⟨z, its, n, r, hl, e⟩ := I.lstM hH
  obtain ⟨its2, r2, ⟨⟨c2, d2, t2, s2⟩, e2, hc2, m, hd2⟩, hl2⟩ := I.tuple hB
  simp only at hc2 hd2
  subst hc2 hd2
  have hl3 := r2.length
  have big : its.toArray.size + its2.toArray.size ≤ sizeLine := by rw [List.size_toArray, List.size_toArray]; omega
  have lng : ¬ (!its.toArray.isEmpty && Builtin.List.listTooLong (its.toArray.size + its2.toArray.size)) = true := by
    rw [notLongL big, Bool.and_false]
    exact Bool.false_ne_true
  refine call_meets F.slot_list_extend ⟨_, e, rfl⟩ F.entry_list_extend (F.args_list_extend_2 _ _) (ext_tup l b its.toArray its2.toArray n m d2 s2 lng (by rw [List.size_toArray]; omega) (by omega)) ⟨e, e2, ?_⟩
  refine ⟨.non, _, I.lset (its' := its ++ its2) hH e (by simp) (r.append r2) ?_, rfl, q⟩
  rw [List.length_append]
  omega
end

/-! ### the names within a term (clocks.py) -/
open TL (tl)
def sp_nw (n : Nat) : Sp := fun vs H Q _ => ∃ (t : Tm) (u : V), vs = [u] ∧ ToldAt H t u ∧ t.good ∧ t.dep ≤ n ∧ t.dep ≤ 6 ∧ RetL (t.flat.map V.str) H Q
theorem ok_names_within (T : Txt K mg Z) {n : Nat} (G_names_within : FnOk P w K mg base CX0 (n + 1) Z.f_names_within Z.fd_names_within ["term"] (sp_nw n)) : FnOk P w K mg base CX0 (n + 2) Z.f_names_within Z.fd_names_within ["term"] (sp_nw (n + 1)) := by
  refine T.F_names_within.ok sc_names_within (fun vs H Q E h => ?_) (fun cdv AA outer s H vs Q E hr h => ?_)
  · obtain ⟨t, u, rfl, _⟩ := h
    rfl
  · obtain ⟨t, u, rfl, ht, hg, hd, h6, k⟩ := h
    refine ⟨_, (pss_cons (ps_if (pt_cmpR op_eq (pe_ix ix_tup (pv 0) pe_int (fun _ _ => rfl)) pe_str (nomark _)) (pss_one (ps_ret (pe_lst (pa_cons (pe_ix ix_tup (pv 0) pe_int (fun _ _ => rfl)) pa_nil)))) pss_nil)
      (pss_cons (ps_set (i := 1) sc_names_within.nd rfl (Or.inl rfl) (pe_lst pa_nil))
      (pss_cons (ps_for PassesOwn.never rfl (pi_tup (pe_slice sl_tup (pv 0) (po_some pe_int) po_none)) (pg_name (i := 2) sc_names_within.nd rfl (Or.inl rfl)) (pss_one (ps_if (pt_val (pe_callB call_isi (by rfl) T.n_isinstance (by decide +kernel) (pa_cons (pv 2) (pa_cons (pe_bltn (v := .ty "tuple") (by rfl) T.n_tuple (by decide +kernel) rfl) pa_nil)))) (pss_one (ps_expr (pe_bm PySem.F.plainAttrs_list PySem.F.slot_list_extend PySem.F.type_list_extend mt_extend (pv 1) (pa_cons (pe_call G_names_within (hr.mono (by omega)) rfl T.g_names_within T.F_names_within.kp T.b_names_within .nil pass0 (pa_cons (pv 2) pa_nil)) pa_nil)))) pss_nil)))
      (pss_one (ps_ret (pv 1)))))), ?_⟩
    by_cases hn : ∃ s, t = .nm s
    · obtain ⟨s, rfl⟩ := hn
      obtain ⟨a, rfl, ha⟩ := ht
      walk_at "ss"
      refine c_ixT (SqT.of ha) rfl ?_
      walk_at "ss"
      rw [str_eq rfl]
      walk_at "ss"
      refine c_ixT (SqT.of ha) rfl ?_
      walk_at "ss"
      exact newL k
    have hn' : ∀ s, t ≠ .nm s := fun s e => hn ⟨s, e⟩
    obtain ⟨a, w0, xs, rfl, ha, hw, hxl, hcut, hxs, hbeh, hq⟩ := told_beh (K := K) ht hg hn'
    walk_at "ss"
    refine c_ixT (SqT.of ha) at_hd ?_
    walk_at "ss"
    rw [str_ne hw]
    walk_at "ss"
    refine newL fun f H1 hf e1 g1 => ?_
    have ha1 := e1 _ _ ha
    walk_at "ss"
    refine ⟨a, _, rfl, SqT.of ha1, (by
      intro z
      have h1 := z.1
      rw [show (1 : Int) = ((1 : Nat) : Int) from rfl, HT.sIx_nat, List.length_cons] at h1
      omega), fun p2 hp2 => ?_⟩
    rw [hcut]
    have e2 : Ex H1 (upd H1 p2 (.tup xs)) := Ex.new hp2
    have g2 : upd H1 p2 (.tup xs) p2 = some (.tup xs) := upd_same
    generalize upd H1 p2 (.tup xs) = H2 at e2 g2
    have hb3 := beh_len t
    have npf : p2 ≠ f := (ne_of_none g1 hp2).symm
    refine ⟨p2, rfl, ⟨_, SqT.of g2⟩, L2.forT (xs := xs) (fun i σ' G => (∃ v2, σ' = [some (.ref a), some (.ref f), v2]) ∧ G f = some (.lst ((flatO (t.beh.take i)).map V.str)) ∧ Ex H G ∧ G p2 = some (.tup xs)) ⟨⟨_, rfl⟩, e2 _ _ g1, e1.trans e2, g2⟩ (fun i σ' G _ q => SqT.of q.2.2.2) ?_ ?_⟩
    · rintro i x σ' G hx ⟨⟨v2, rfl⟩, gf, eG, gp⟩
      obtain ⟨o, ho, hox⟩ := hbeh i x hx
      have ef : t.beh.take (i + 1) = t.beh.take i ++ [o] := by rw [List.take_add_one, ho]; rfl
      have hlen : (flatO (t.beh.take i)).length ≤ 3 * 729 := by
        have := nat_pow6 (t := t) (t.beh.take i) (fun q hq' => by have := (hq q (List.mem_of_mem_take hq')).2; omega) (by rw [List.length_take]; omega)
        have h3 : (t.beh.take i).length ≤ 3 := by rw [List.length_take]; omega
        have := Nat.mul_le_mul_right 729 h3
        omega
      walk_at "ss"
      cases o with
      | none =>
        have hty : ∃ n : String, TyX K G x (.type n) ∧ kitB n "tuple" = some false := by
          rcases hox with ⟨s, rfl⟩ | h
          · exact ⟨_, ty_str s, kb_st⟩
          · cases x with
            | bl b => exact ⟨_, ty_bl b, kb_bt⟩
            | int i => exact ⟨_, ty_int i, kb_it⟩
            | _ => exact absurd h Bool.false_ne_true
        obtain ⟨nm, ty, kb⟩ := hty
        refine isi ty kb ?_
        walk_at "ss"
        refine ⟨⟨_, rfl⟩, ?_, eG, gp⟩
        rw [ef, flatO_app]
        show G f = some (.lst ((flatO (t.beh.take i) ++ []).map V.str))
        rw [List.append_nil]
        exact gf
      | some q =>
        have hqx : ToldAt G q x := ToldAt.up hox eG
        obtain ⟨a3, xs3, rfl, ha3⟩ := Told_tup hqx
        have hq2 := hq q (List.mem_of_getElem? ho)
        refine isi (ty_tup ha3) kb_tt ?_
        walk_at "ss"
        refine ⟨.inl ⟨rfl, _, SqL.of gf⟩, ?_⟩
        walk_at "ss"
        have hq7 := flat_729 (t := q) (by omega)
        refine ⟨q, _, rfl, hqx, hq2.1, by omega, by omega, fun p5 H5 hp5 e5 g5 => ?_⟩
        walk_at "ss"
        refine ⟨f, p5, _, _, rfl, rfl, e5 _ _ gf, g5, Evl.sz_of (by rw [List.length_map, List.length_map]; omega), ?_⟩
        walk_at "ss"
        refine ⟨⟨_, rfl⟩, ?_, Ex.mut (eG.trans e5) hf, by rw [upd_ne npf]; exact e5 _ _ gp⟩
        rw [upd_same, ef, flatO_app, List.map_append]
    · rintro σ' G ⟨⟨v2, rfl⟩, gf, eG, gp⟩
      walk_at "ss"
      rw [hxl, List.take_length, Tm.flat_beh t hn'] at gf
      exact k f G hf eG gf
theorem okn_nin (T : Txt K mg Z) : ∀ n, FnOk P w K mg base CX0 (n + 1) Z.f_names_within Z.fd_names_within ["term"] (sp_nw n)
  | 0 => ⟨fun vs H Q E ⟨t, u, e, _⟩ => by rw [e]; rfl, fun _ _ _ _ _ _ _ _ _ _ _ _ _ ⟨t, u, _, _, _, h1, _⟩ => by have := t.dep_pos; omega⟩
  | n + 1 => ok_names_within T (okn_nin T n)
theorem vw_no {k : Nat} {y : Str} (h1 : ("before" : Str) ≠ y) (h2 : ("hold" : Str) ≠ y) (h3 : ("like" : Str) ≠ y) : vword k ≠ y := by
  rcases vword_in k with e | e | e <;> (rw [e]; assumption)
/-! what a row tells, and reads now -/
def Rw.nocall : Rw → Prop
  | .cl _ _ _ => False
  | _ => True
theorem RowAt.tuple {H : Hp} {r : Rw} {u : V} (h : RowAt H r u) : ∃ a xs, u = .ref a ∧ H a = some (.tup (.str r.word :: xs)) := h.hd

/-! ### nodes without calls (as in p_reads1, p_reads2) -/
def Nd.nocalls (n : Nd) : Prop := ∀ r ∈ n.rows, r.nocall
theorem NdAt.cls {H : Hp} {n : Nd} {v : V} (h : NdAt Z H n v) : ∃ a dx fs, v = .ref a ∧ H a = some (.ins Z.c_Node dx fs) ∧ fs.lookup ("told" : Str) = none := by
  obtain ⟨a, dx, li, lo, lr, td, evs, us, h1, h2, _⟩ := h
  exact ⟨a, dx, _, h1, h2, rfl⟩
theorem TupK.of {H H1 : Hp} (e : Ex H H1) : TupK H H1 := fun a xs h => e _ _ h

/-! ### what a row mentions; the clock that it hands on (clocks.py) -/
open TL (tl)
def sp_mentioned : Sp := fun vs H Q _ => ∃ (r : Rw) (u : V), vs = [u] ∧ RowAt H r u ∧ r.good ∧ r.nocall ∧ RetL (r.ment.map V.str) H Q
theorem ok_mentioned (T : Txt K mg Z)  : FnOk P w K mg base CX0 (9) Z.f_mentioned Z.fd_mentioned ["row"] sp_mentioned := by
  refine T.F_mentioned.ok sc_mentioned (fun vs H Q E h => ?_) (fun cdv AA outer s H vs Q E hr h => ?_)
  · obtain ⟨r, u, rfl, _⟩ := h
    rfl
  · obtain ⟨r, u, rfl, hR, hg, hc, k⟩ := h
    have G_names_within := okn_nin (P := P) (w := w) (base := base) T 6
    refine ⟨_, (pss_cons (ps_if (pt_cmpR op_eq (pe_ix ix_tup (pv 0) pe_int (fun _ _ => rfl)) pe_str (nomark _)) (pss_one (ps_ret (pe_call G_names_within (hr.mono (by omega)) rfl T.g_names_within T.F_names_within.kp T.b_names_within .nil pass0 (pa_cons (pe_ix ix_tup (pv 0) pe_int (fun _ _ => rfl)) pa_nil)))) pss_nil)
      (pss_cons (ps_if (pt_cmpR op_eq (pe_ix ix_tup (pv 0) pe_int (fun _ _ => rfl)) pe_str (nomark _)) (pss_one (ps_ret (pe_lst (pa_cons (pe_ix ix_tup (pv 0) pe_int (fun _ _ => rfl)) (pa_cons (pe_ix ix_tup (pv 0) pe_int (fun _ _ => rfl)) pa_nil))))) pss_nil)
      (pss_cons (ps_if (pt_cmpR op_eq (pe_ix ix_tup (pv 0) pe_int (fun _ _ => rfl)) pe_str (nomark _)) (pss_one (ps_ret (pe_lst pa_nil))) pss_nil)
      (pss_one (ps_ret (pe_lst (pa_cons (pe_ix ix_tup (pv 0) pe_int (fun _ _ => rfl)) pa_nil))))))), ?_⟩
    cases r with
    | pl n t =>
      obtain ⟨a, w0, rfl, ha, ht⟩ := hR
      walk_at "ss"
      refine c_ixT (SqT.of ha) rfl ?_
      walk_at "ss"
      rw [str_eq rfl]
      walk_at "ss"
      refine c_ixT (SqT.of ha) rfl ?_
      walk_at "ss"
      have := hg.2.2
      exact ⟨t, _, rfl, ht, hg.2.1, by omega, by omega, k⟩
    | vd kk n v x =>
      obtain ⟨a, rfl, ha⟩ := hR
      walk_at "ss"
      refine c_ixT (SqT.of ha) rfl ?_
      walk_at "ss"
      rw [str_ne (x := vword kk) (y := "plain") (vw_no (by decide +kernel) (by decide +kernel) (by decide +kernel))]
      walk_at "ss"
      refine c_ixT (SqT.of ha) rfl ?_
      walk_at "ss"
      rw [str_ne (x := vword kk) (y := "when") (vw_no (by decide +kernel) (by decide +kernel) (by decide +kernel))]
      walk_at "ss"
      refine c_ixT (SqT.of ha) rfl ?_
      walk_at "ss"
      rw [str_ne (x := vword kk) (y := "same") (vw_no (by decide +kernel) (by decide +kernel) (by decide +kernel))]
      walk_at "ss"
      refine c_ixT (SqT.of ha) rfl ?_
      walk_at "ss"
      exact newL k
    | wh n x y =>
      obtain ⟨a, rfl, ha⟩ := hR
      walk_at "ss"
      refine c_ixT (SqT.of ha) rfl ?_
      walk_at "ss"
      rw [str_ne (x := "when") (y := "plain") (by decide +kernel)]
      walk_at "ss"
      refine c_ixT (SqT.of ha) rfl ?_
      walk_at "ss"
      rw [str_eq rfl]
      walk_at "ss"
      refine c_ixT (SqT.of ha) rfl ?_
      walk_at "ss"
      refine c_ixT (SqT.of ha) rfl ?_
      walk_at "ss"
      exact newL k
    | sm ns =>
      obtain ⟨a, p, rfl, ha, hp⟩ := hR
      walk_at "ss"
      refine c_ixT (SqT.of ha) rfl ?_
      walk_at "ss"
      rw [str_ne (x := "same") (y := "plain") (by decide +kernel)]
      walk_at "ss"
      refine c_ixT (SqT.of ha) rfl ?_
      walk_at "ss"
      rw [str_ne (x := "same") (y := "when") (by decide +kernel)]
      walk_at "ss"
      refine c_ixT (SqT.of ha) rfl ?_
      walk_at "ss"
      rw [str_eq rfl]
      walk_at "ss"
      exact newL k
    | cl os nd xs => exact absurd hc id

/-! ### the clock that a row hands on (clocks.py) -/
open TL (tl)
def HandK (r : Rw) (c : List Str) (H : Hp) (Q : VK) : Prop := match r.hand c with
  | none => ∀ H2, Ex H H2 → Q .non H2
  | some c' => ∀ q H2, Ex H H2 → H2 q = some (.tup (c'.map V.str)) → Q (.ref q) H2
def sp_clock_given : Sp := fun vs H Q _ => ∃ (r : Rw) (u : V) (p : Addr) (c : List Str), vs = [u, .ref p] ∧ RowAt H r u ∧ r.nocall ∧ H p = some (.tup (c.map V.str)) ∧ c.length ≤ 2000 ∧ (c.map V.str).all okV = true ∧ HandK r c H Q
theorem ok_clock_given (T : Txt K mg Z) : FnOk P w K mg base CX0 1 Z.f_clock_given Z.fd_clock_given ["row", "clock"] sp_clock_given := by
  refine T.F_clock_given.ok sc_clock_given (fun vs H Q E h => ?_) (fun cdv AA outer s H vs Q E hr h => ?_)
  · obtain ⟨r, u, p, c, rfl, _⟩ := h
    rfl
  · obtain ⟨r, u, p, c, rfl, hR, hc, gp, hcl, hco, k⟩ := h
    refine ⟨_, (pss_cons (ps_if (pt_cmpR op_eq (pe_ix ix_tup (pv 0) pe_int (fun _ _ => rfl)) pe_str (nomark _)) (pss_one (ps_ret (pe_op op_catA (pv 1) (pe_tup (pa_cons (pe_ix ix_tup (pv 0) pe_int (fun _ _ => rfl)) pa_nil))))) pss_nil)
      (pss_cons (ps_if (pt_cmpR op_ne (pe_ix ix_tup (pv 0) pe_int (fun _ _ => rfl)) pe_str (nomark _)) (pss_one (ps_ret (pv 1))) pss_nil)
      (pss_cons (ps_if (pt_cmpR (op_eqD hr.units) (pv 1) (pe_tup pa_nil) (nomark _)) (pss_one (ps_ret pe_non)) pss_nil)
      (pss_one (ps_ret (pe_slice sl_tupA (pv 1) po_none (po_some (pe_un un_neg pe_int)))))))), ?_⟩
    cases r with
    | pl n t =>
      obtain ⟨a, w0, rfl, ha, ht⟩ := hR
      walk_at "ss"
      refine c_ixT (SqT.of ha) rfl ?_
      walk_at "ss"
      rw [str_ne (x := "plain") (y := "when") (by decide +kernel)]
      walk_at "ss"
      refine c_ixT (SqT.of ha) rfl ?_
      walk_at "ss"
      rw [str_ne (x := "plain") (y := "hold") (by decide +kernel)]
      walk_at "ss"
      exact k p _ (Ex.refl _) gp
    | sm ns =>
      obtain ⟨a, q, rfl, ha, hq⟩ := hR
      walk_at "ss"
      refine c_ixT (SqT.of ha) rfl ?_
      walk_at "ss"
      rw [str_ne (x := "same") (y := "when") (by decide +kernel)]
      walk_at "ss"
      refine c_ixT (SqT.of ha) rfl ?_
      walk_at "ss"
      rw [str_ne (x := "same") (y := "hold") (by decide +kernel)]
      walk_at "ss"
      exact k p _ (Ex.refl _) gp
    | wh n x y =>
      obtain ⟨a, rfl, ha⟩ := hR
      walk_at "ss"
      refine c_ixT (SqT.of ha) rfl ?_
      walk_at "ss"
      rw [str_eq rfl]
      walk_at "ss"
      refine c_ixT (SqT.of ha) rfl ?_
      walk_at "ss"
      refine newT fun q H1 hq e1 g1 => ?_
      refine c_catH (e1 _ _ gp) g1 (by rw [List.length_map]; show _ + 1 ≤ _; omega) fun q2 H2 e2 g2 => ?_
      exact k q2 H2 (e1.trans e2) (by rw [g2, List.map_append]; rfl)
    | vd kk n v x =>
      obtain ⟨a, rfl, ha⟩ := hR
      walk_at "ss"
      refine c_ixT (SqT.of ha) rfl ?_
      walk_at "ss"
      rw [str_ne (x := vword kk) (y := "when") (vw_no (by decide +kernel) (by decide +kernel) (by decide +kernel))]
      walk_at "ss"
      refine c_ixT (SqT.of ha) rfl ?_
      walk_at "ss"
      rcases kk with _ | _ | kk
      · rw [str_ne (x := vword 0) (y := "hold") (by decide +kernel)]
        walk_at "ss"
        exact k p _ (Ex.refl _) gp
      · rw [str_eq (x := vword 1) (y := "hold") rfl]
        walk_at "ss"
        refine newT fun q H1 hq e1 g1 => ?_
        refine c_eqT (SqT.of (e1 _ _ gp)) (SqT.of g1) hco rfl ?_
        rw [eqL_nil]
        walk_at "ss"
        cases c with
        | nil =>
          refine if_tt rfl ?_
          walk_at "ss"
          exact k H1 e1
        | cons c0 c =>
          refine if_ff rfl ?_
          walk_at "ss"
          refine c_slH (e1 _ _ gp) fun p2 H2 e2 g2 => ?_
          rw [cut_init] at g2
          exact k p2 H2 (e1.trans e2) g2
      · rw [show vword (kk + 1 + 1) = "like" from rfl, str_ne (x := "like") (y := "hold") (by decide +kernel)]
        walk_at "ss"
        exact k p _ (Ex.refl _) gp
    | cl os nd xs => exact absurd hc id
/-! ### the rows that tell a name; all names (clocks.py) -/
def Rw.named (r : Rw) : Bool := r.kind != 5
def Rw.one : Rw → Str
  | .pl n _ => n
  | .vd _ n _ _ => n
  | .wh n _ _ => n
  | _ => ""
def Nd.nrows (n : Nd) : List Rw := n.rows.filter Rw.named
theorem w_same : ("plain" : Str) ≠ "same" ∧ ("when" : Str) ≠ "same" ∧ ("call" : Str) ≠ "same" := ⟨by decide +kernel, by decide +kernel, by decide +kernel⟩
theorem Rw.word_same {r : Rw} : r.named = true ↔ r.word ≠ "same" := by
  cases r with
  | pl n t => exact ⟨fun _ => w_same.1, fun _ => rfl⟩
  | vd k n v x =>
    refine ⟨fun _ => vw_no (y := "same") (by decide +kernel) (by decide +kernel) (by decide +kernel), fun _ => ?_⟩
    rcases k with _ | _ | k <;> rfl
  | wh n x y => exact ⟨fun _ => w_same.2.1, fun _ => rfl⟩
  | sm ns => exact ⟨fun h => (Bool.false_ne_true h).elim, fun h => absurd rfl h⟩
  | cl os nd xs => exact ⟨fun _ => w_same.2.2, fun _ => rfl⟩
theorem Rw.tells_one {r : Rw} (h : r.named = true) (hc : r.nocall) : r.tells = [r.one] := by
  cases r with
  | sm ns => exact (Bool.false_ne_true h).elim
  | cl os nd xs => exact absurd hc id
  | _ => rfl
theorem Rw.tells_none {r : Rw} (h : r.named = false) : r.tells = [] := by
  cases r with
  | sm ns => rfl
  | vd k n v x => rcases k with _ | _ | k <;> cases h
  | _ => cases h
theorem RowAt.two {H : Hp} {r : Rw} {u : V} (h : RowAt H r u) (hn : r.named = true) (hc : r.nocall) : ∃ a xs, u = .ref a ∧ H a = some (.tup (.str r.word :: .str r.one :: xs)) := by
  cases r with
  | pl n t => obtain ⟨a, w, h1, h2, h3⟩ := h; exact ⟨a, _, h1, h2⟩
  | vd k n v x => obtain ⟨a, h1, h2⟩ := h; exact ⟨a, _, h1, h2⟩
  | wh n x y => obtain ⟨a, h1, h2⟩ := h; exact ⟨a, _, h1, h2⟩
  | sm ns => exact (Bool.false_ne_true hn).elim
  | cl os nd xs => exact absurd hc id
theorem told_ones : ∀ {rs : List Rw}, (∀ r ∈ rs, r.nocall) → rs.flatMap Rw.tells = (rs.filter Rw.named).map Rw.one
  | [], _ => rfl
  | r :: rs, h => by
    have ih := told_ones (rs := rs) fun q hq => h q (List.mem_cons_of_mem _ hq)
    rw [List.flatMap_cons, ih, List.filter_cons]
    cases hr : r.named with
    | true =>
      rw [Rw.tells_one hr (h r List.mem_cons_self), if_pos rfl]
      rfl
    | false =>
      rw [Rw.tells_none hr, if_neg (by decide)]
      rfl
theorem Nd.told_nrows {n : Nd} (h : n.nocalls) : n.told = n.nrows.map Rw.one := told_ones h
theorem at_one {x y : V} {xs : List V} : atI (x :: y :: xs) 1 = some y := atI_nat (j := 1) rfl
/-- a row and the names that it mentions -/
def NrAt (H : Hp) (r : Rw) (w : V) : Prop := ∃ a u ml, w = .ref a ∧ H a = some (.tup [u, .ref ml]) ∧ RowAt H r u ∧ H ml = some (.lst (r.ment.map V.str))
theorem NrAt.up {H H2 : Hp} {r : Rw} {w : V} (h : NrAt H r w) (e : Ex H H2) : NrAt H2 r w := by
  obtain ⟨a, u, ml, h1, h2, h3, h4⟩ := h
  exact ⟨a, u, ml, h1, e _ _ h2, h3.up e, e _ _ h4⟩
def sp_named_rows (Z : Adr) : Sp := fun vs H Q _ => ∃ n v, vs = [v] ∧ NdAt Z H n v ∧ n.good ∧ n.nocalls ∧ ∀ l ws H2, H l = none → Ex H H2 → H2 l = some (.lst ws) → Paired (NrAt H2) n.nrows ws → Q (.ref l) H2
theorem ok_named_rows (T : Txt K mg Z)  : FnOk P w K mg base CX0 (10) Z.f_named_rows Z.fd_named_rows ["node"] (sp_named_rows Z) := by
  have G_mentioned := ok_mentioned (P := P) (w := w) (base := base) T
  refine T.F_named_rows.ok sc_named_rows (fun vs H Q E h => ?_) (fun cdv AA outer s H vs Q E hr h => ?_)
  · obtain ⟨n, v, rfl, _⟩ := h
    rfl
  · obtain ⟨n, v, rfl, hN, hg, hnc, k⟩ := h
    have GMN_told := gmN_told (P := P) (w := w) (base := base) T
    obtain ⟨a, dx, fs, rfl, ha, hlk⟩ := hN.cls
    refine ⟨_, (pss_one (ps_ret (pe_lc (own := [("row", 1)]) (g := (gName 1)) (tt := (tTest (tOp rNe (tOp (rIxT K) (tVar 1) (tC (.int 0))) (tC (.str "same"))))) (te := (tTup (tCons (tVar 1) (tCons (tCall sp_mentioned [] E0 (tCons (tVar 1) tNil)) tNil)))) rfl sc_named_rows.nd (pi_tup (pe_ix ix_tup (pe_methP0 (pv 0) GMN_told (hr.mono (by omega)) pass0) pe_int (fun _ _ => rfl))) (blkOk_by (own := [("row", 1)]) (N := N_named_rows) (sc := defScope s_named_rows) (by decide +kernel)) (fun _ _ _ _ _ => (pg_name (i := 1) sc_named_rows.nd rfl (Or.inl rfl))) (fun _ _ _ _ _ => (pts_one (pt_cmpR op_ne (pe_ix ix_tup (pv 1) pe_int (fun _ _ => rfl)) pe_str (nomark _)))) (fun _ _ _ _ _ => (pe_tup (pa_cons (pv 1) (pa_cons (pe_call G_mentioned (hr.mono (by omega)) rfl T.g_mentioned T.F_mentioned.kp T.b_mentioned .nil pass0 (pa_cons (pv 1) pa_nil)) pa_nil))))))), ?_⟩
    walk_at "ss"
    refine ⟨a, _, dx, _, rfl, ha, rfl, hlk, ?_⟩
    walk_at "ss"
    refine ⟨n, _, rfl, hN, hg, fun u G2 f2 hT => ?_⟩
    obtain ⟨b, p, q, t, us, rfl, gb, gp, gq, gt, hrw⟩ := hT
    walk_at "ss"
    refine c_ixT (SqT.of gb) rfl ?_
    have hl := paired_len hrw
    have hr1 := hg.row1
    refine ⟨t, rfl, ⟨_, SqT.of gt⟩, lcW walk_tup (fun G e => Evl.ex_t e (SqT.of gt)) hl (by omega) Rw.named (fun D r w G => ∃ a u ml, w = .ref a ∧ ml ≠ D ∧ G a = some (.tup [u, .ref ml]) ∧ RowAt G r u ∧ G ml = some (.lst (r.ment.map V.str))) ?_ ?_ ?_⟩
    · rintro D r y G G' eD eN ⟨a, u, ml, rfl, h1, h2, h3, h4⟩
      exact ⟨a, u, ml, rfl, h1, NL.tup eN h2, h3.nl eN, eD _ _ h1 h4⟩
    · rintro D i r x hD hr hx H2 e2 ⟨o, ho⟩ R N hR hNo
      obtain ⟨r', hr', hRow⟩ := paired_ix hrw hx
      rw [hr] at hr'
      cases hr'
      have hrm := List.mem_of_getElem? hr
      obtain ⟨b2, xs2, rfl, gb2⟩ := (hRow.up e2).hd
      walk_at "ss"
      refine c_ixT (SqT.of gb2) at_hd ?_
      walk_at "ss"
      cases hk : r.named with
      | true =>
        rw [str_ne (Rw.word_same.mp hk)]
        walk_at "ss"
        refine ⟨r, _, rfl, hRow.up e2, (hg.row r hrm).1, hnc r hrm, fun ml H3 hml e3 g3 => ?_⟩
        walk_at "ss"
        refine newT fun q H4 hq e4 g4 => ?_
        exact hR hk _ _ (e3.trans e4) ⟨q, _, ml, rfl, (ne_of_none ho hml).symm, g4, hRow.up (e2.trans (e3.trans e4)), e4 _ _ g3⟩
      | false =>
        rw [str_eq (Classical.byContradiction fun z => by rw [Rw.word_same.mpr z] at hk; cases hk)]
        walk_at "ss"
        exact hNo hk _ (Ex.refl _)
    · intro ys l G3 hy hl3 e3 g3
      exact k l ys G3 (fresh_back f2 hl3) (f2.trans e3) g3 (paired_up (fun r y ⟨a, u, ml, h1, _, h2, h3, h4⟩ => ⟨a, u, ml, h1, h2, h3, h4⟩) hy)
theorem ones_fm {rs : List Rw} : ((List.range rs.length).filterMap fun i => (rs[i]?).map fun r => V.str r.one) = (rs.map Rw.one).map V.str := by
  have h : ∀ k, k ≤ rs.length → ((List.range k).filterMap fun i => (rs[i]?).map fun r => V.str r.one) = ((rs.take k).map Rw.one).map V.str := by
    intro k
    induction k with
    | zero => intro _; rfl
    | succ k ih =>
      intro hk
      rw [List.range_succ, List.filterMap_append, ih (by omega), List.take_add_one, List.getElem?_eq_getElem (by omega), List.map_append, List.map_append, List.filterMap_cons, List.getElem?_eq_getElem (by omega)]
      rfl
  have := h rs.length (Nat.le_refl _)
  rwa [List.take_length] at this
def sp_names_told (Z : Adr) : Sp := fun vs H Q _ => ∃ n v, vs = [v] ∧ NdAt Z H n v ∧ n.good ∧ n.nocalls ∧ RetL (n.names.map V.str) H Q
theorem ok_names_told (T : Txt K mg Z)  : FnOk P w K mg base CX0 (11) Z.f_names_told Z.fd_names_told ["node"] (sp_names_told Z) := by
  have G_named_rows := ok_named_rows (P := P) (w := w) (base := base) T
  refine T.F_names_told.ok sc_names_told (fun vs H Q E h => ?_) (fun cdv AA outer s H vs Q E hr h => ?_)
  · obtain ⟨n, v, rfl, _⟩ := h
    rfl
  · obtain ⟨n, v, rfl, hN, hg, hnc, k⟩ := h
    have GMN_told := gmN_told (P := P) (w := w) (base := base) T
    obtain ⟨a, dx, fs, rfl, ha, hlk⟩ := hN.cls
    have ha1 := hg.all1
    have hin1 := hg.in1
    have hr1 := hg.row1
    refine ⟨_, (pss_one (ps_ret (pe_op op_cat (pe_callTy call_list_of (by rfl) T.n_list (by decide +kernel) (pa_cons (pe_ix ix_tup (pe_methP0 (pv 0) GMN_told (hr.mono (by omega)) pass0) pe_int (fun _ _ => rfl)) pa_nil)) (pe_lc (own := [("row", 1), ("names", 2)]) (g := (gTup K 2 (gCons (gName 1) (gCons (gName 2) gNil)))) (tt := tYes) (te := (tOp (rIxT K) (tVar 1) (tC (.int 1)))) rfl sc_names_told.nd (pi_list (pe_call G_named_rows (hr.mono (by omega)) rfl T.g_named_rows T.F_named_rows.kp T.b_named_rows .nil pass0 (pa_cons (pv 0) pa_nil))) (blkOk_by (own := [("row", 1), ("names", 2)]) (N := N_names_told) (sc := defScope s_names_told) (by decide +kernel)) (fun _ _ _ _ _ => (pg_tup (by rfl) (pgs_cons (pg_name (i := 1) sc_names_told.nd rfl (Or.inl rfl)) (pgs_cons (pg_name (i := 2) sc_names_told.nd rfl (Or.inl rfl)) pgs_nil)))) (fun _ _ _ _ _ => pts_nil) (fun _ _ _ _ _ => (pe_ix ix_tup (pv 1) pe_int (fun _ _ => rfl))))))), ?_⟩
    walk_at "ss"
    refine ⟨a, _, dx, _, rfl, ha, rfl, hlk, ?_⟩
    walk_at "ss"
    refine ⟨n, _, rfl, hN, hg, fun u G2 f2 hT => ?_⟩
    obtain ⟨b, p, q, t, us, rfl, gb, gp, gq, gt, hrw⟩ := hT
    walk_at "ss"
    refine c_ixT (SqT.of gb) rfl ?_
    walk_at "ss"
    refine ⟨_, _, rfl, .inr (SqT.of gp), fun il hil => ?_⟩
    have e3 : Ex G2 (upd G2 il (.lst (n.ins.map V.str))) := Ex.new hil
    have g3 : upd G2 il (.lst (n.ins.map V.str)) il = some (.lst (n.ins.map V.str)) := upd_same
    generalize upd G2 il (.lst (n.ins.map V.str)) = G3 at e3 g3
    walk_at "ss"
    refine ⟨n, _, rfl, hN.up (f2.trans e3), hg, hnc, fun l ws G4 hl e4 g4 hP => ?_⟩
    have hwl := paired_len hP
    have hnl : n.nrows.length ≤ 300 := Nat.le_trans (List.length_filter_le _ _) hr1
    refine ⟨l, rfl, ⟨_, SqL.of g4⟩, lcL (fun i => (n.nrows[i]?).map fun r => V.str r.one) (SqL.of g4) (by omega) (fun i x hx G5 e5 R hR => ?_) ?_⟩
    · obtain ⟨r, hr, a2, u2, ml, rfl, h2, h3, h4⟩ := paired_ix hP hx
      obtain ⟨hrm, hrn⟩ := List.mem_filter.mp (List.mem_of_getElem? hr)
      obtain ⟨b2, xs2, rfl, gb2⟩ := (h3.up e5).two hrn (hnc r hrm)
      refine c_gTup (SqT.of (e5 _ _ h2)) rfl ?_
      walk_at "ss"
      refine c_ixT (SqT.of gb2) at_one ?_
      have := hR G5 (Ex.refl _)
      rw [hr] at this
      exact this
    · intro fl G5 hfl e5 g5
      rw [← hwl, ones_fm, ← Nd.told_nrows hnc] at g5
      have hll : n.ins.length + n.told.length = n.names.length := by rw [Nd.names, List.length_append]
      refine c_cat (e5 _ _ (e4 _ _ g3)) g5 (fun z G6 hz e6 g6 => ?_) (by rw [List.length_map, List.length_map]; omega)
      refine k z G6 (fresh_back (f2.trans (e3.trans (e4.trans e5))) hz) (f2.trans (e3.trans (e4.trans (e5.trans e6)))) ?_
      rw [g6, ← List.map_append]
      rfl

/-! ### steps, gone on with: plain -/
open TL (tl)
/-- the row is done for a step of the name m with the clock c -/
def DoneR (S : List Stp) (r : Rw) (m : Str) (c : List Str) : Prop := m ∈ r.ment → ∃ (c' : List Str) (p' : Option Str), r.hand c = some c' ∧ ((r.one, c', p') : Stp) ∈ S
def DoneTo (rs : List Rw) (S : List Stp) (i : Nat) : Prop := ∀ (j : Nat) (x : Stp), j < i → S[j]? = some x → ∀ r ∈ rs, DoneR S r x.1 x.2.1
theorem DoneR.app {S S2 : List Stp} {r : Rw} {m : Str} {c : List Str} (h : DoneR S r m c) : DoneR (S ++ S2) r m c := fun hm =>
  let ⟨c', p', h1, h2⟩ := h hm
  ⟨c', p', h1, List.mem_append_left _ h2⟩
theorem DoneTo.app {rs : List Rw} {S S2 : List Stp} {i : Nat} (h : DoneTo rs S i) (hi : i ≤ S.length) : DoneTo rs (S ++ S2) i := fun j x hj hx r hr => by
  rw [List.getElem?_append_left (by omega)] at hx
  exact (h j x hj hx r hr).app
theorem hand_len {r : Rw} {c c' : List Str} (h : r.hand c = some c') : c'.length ≤ c.length + 1 := by
  cases r with
  | wh n x y => cases h; simp
  | vd k n v x =>
    rcases k with _ | _ | k
    · cases h; omega
    · have h : (if c = [] then none else some c.dropLast) = some c' := h
      by_cases hc : c = []
      · rw [if_pos hc] at h; cases h
      · rw [if_neg hc] at h
        cases h
        rw [List.length_dropLast]
        omega
    · cases h; omega
  | _ => cases h; omega
theorem hand_ok {r : Rw} {c c' : List Str} (hg : r.good) (hc : ∀ s ∈ c, goodN s) (h : r.hand c = some c') : ∀ s ∈ c', goodN s := by
  cases r with
  | wh n x y =>
    cases h
    intro s hs
    rcases List.mem_append.mp hs with h | h
    · exact hc s h
    · rw [List.mem_singleton.mp h]; exact hg.2.2
  | vd k n v x =>
    rcases k with _ | _ | k
    · cases h; exact hc
    · have h : (if c = [] then none else some c.dropLast) = some c' := h
      by_cases hc0 : c = []
      · rw [if_pos hc0] at h; cases h
      · rw [if_neg hc0] at h
        cases h
        exact fun s hs => hc s ((List.dropLast_sublist c).subset hs)
    · cases h; exact hc
  | _ => cases h; exact hc
/-- no clock is handed on: a hold of the clock of all beats -/
theorem hand_none {r : Rw} {c : List Str} (h : r.hand c = none) : c = [] ∧ ∃ n v x, r = .vd 1 n v x := by
  cases r with
  | vd k n v x =>
    rcases k with _ | _ | k
    · cases h
    · have h : (if c = [] then none else some c.dropLast) = none := h
      by_cases hc0 : c = []
      · exact ⟨hc0, n, v, x, rfl⟩
      · rw [if_neg hc0] at h; cases h
    · cases h
  | _ => cases h
structure SOk (n : Nd) (S : List Stp) : Prop where
  stps : Stps n.ins n.rows S
  nodup : (S.map (·.1)).Nodup
  sub : ∀ x ∈ S, x.1 ∈ n.names
  inp : ∀ s ∈ n.ins, ((s, [], none) : Stp) ∈ S
  len : ∀ (j : Nat) (x : Stp), S[j]? = some x → x.2.1.length ≤ j
  okc : ∀ x ∈ S, ∀ s ∈ x.2.1, goodN s
def inS (n : Nd) : List Stp := n.ins.map fun s => (s, [], none)
theorem inS_stps {ins : List Str} {rs : List Rw} : ∀ k, k ≤ ins.length → Stps ins rs ((ins.take k).map fun s => (s, [], none))
  | 0, _ => .nil
  | k + 1, h => by
    rw [List.take_add_one, List.getElem?_eq_getElem (by omega), List.map_append]
    exact .snoc (inS_stps k (by omega)) (.inl ⟨rfl, List.getElem_mem _, rfl⟩)
theorem SOk.start {n : Nd} (hg : n.good) : SOk n (inS n) := by
  refine ⟨?_, ?_, fun x hx => ?_, fun s hs => List.mem_map.mpr ⟨s, hs, rfl⟩, fun j x hx => ?_, fun x hx s hs => ?_⟩
  · have := inS_stps (ins := n.ins) (rs := n.rows) n.ins.length (Nat.le_refl _)
    rwa [List.take_length] at this
  · have e : (inS n).map (·.1) = n.ins := by unfold inS; rw [List.map_map]; exact List.map_id _
    rw [e]
    exact (List.nodup_append.mp hg.all).1
  · obtain ⟨s, hs, rfl⟩ := List.mem_map.mp hx
    exact List.mem_append_left _ hs
  · unfold inS at hx
    rw [List.getElem?_map] at hx
    obtain ⟨s, hs, rfl⟩ := Option.map_eq_some_iff.mp hx
    exact Nat.zero_le _
  · obtain ⟨s, hs, rfl⟩ := List.mem_map.mp hx
    cases ‹_ ∈ ([] : List Str)›
theorem one_told {n : Nd} (hnc : n.nocalls) {r : Rw} (hr : r ∈ n.nrows) : r.one ∈ n.names := by
  refine List.mem_append_right _ ?_
  rw [Nd.told_nrows hnc]
  exact List.mem_map.mpr ⟨r, hr, rfl⟩
theorem nrow {n : Nd} {r : Rw} (hr : r ∈ n.nrows) : r ∈ n.rows ∧ r.named = true := List.mem_filter.mp hr
theorem SOk.more {n : Nd} {S : List Stp} (h : SOk n S) (hg : n.good) (hnc : n.nocalls) {i : Nat} {m : Str} {c c' : List Str} {p : Option Str} {r : Rw} (hi : S[i]? = some (m, c, p)) (hr : r ∈ n.nrows) (hm : m ∈ r.ment) (hc : r.hand c = some c') (hn : r.one ∉ S.map (·.1)) : SOk n (S ++ [(r.one, c', some m)]) := by
  obtain ⟨hr1, hr2⟩ := nrow hr
  have hx := List.mem_of_getElem? hi
  refine ⟨.snoc h.stps (.inr ⟨r, (m, c, p), hr1, hx, Rw.tells_one hr2 (hnc r hr1), rfl, hm, hc⟩), ?_, fun x hx => ?_, fun s hs => List.mem_append_left _ (h.inp s hs), fun j x hj => ?_, fun x hx s hs => ?_⟩
  · rw [List.map_append, List.nodup_append]
    refine ⟨h.nodup, by simp, fun a ha b hb e => hn ?_⟩
    have : b = r.one := by simpa using hb
    rw [← this, ← e]
    exact ha
  · rcases List.mem_append.mp hx with hx | hx
    · exact h.sub x hx
    · rw [List.mem_singleton.mp hx]
      exact one_told hnc hr
  · rcases Nat.lt_or_ge j S.length with hl | hl
    · rw [List.getElem?_append_left hl] at hj
      exact h.len j x hj
    · rw [List.getElem?_append_right hl] at hj
      have h0 : j - S.length = 0 := by
        have := (List.getElem?_eq_some_iff.mp hj).1
        rw [List.length_singleton] at this
        omega
      rw [h0] at hj
      have e : (r.one, c', some m) = x := by simpa using hj
      rw [← e]
      have h1 := h.len i _ hi
      have h2 := hand_len hc
      have h3 := (List.getElem?_eq_some_iff.mp hi).1
      show c'.length ≤ j
      have h1 : c.length ≤ i := h1
      omega
  · rcases List.mem_append.mp hx with hx | hx
    · exact h.okc x hx s hs
    · rw [List.mem_singleton.mp hx] at hs
      exact hand_ok (hg.row r hr1).1 (h.okc _ (List.mem_of_getElem? hi)) hc s hs
theorem nodup_leC : ∀ {l m : List Str}, l.Nodup → (∀ s ∈ l, s ∈ m) → l.length ≤ m.length
  | [], _, _, _ => Nat.zero_le _
  | a :: l, m, h, hs => by
    have ha := hs a List.mem_cons_self
    have hn := List.nodup_cons.mp h
    have ih := nodup_leC (l := l) (m := m.erase a) hn.2 fun s hs' => by
      have hne : s ≠ a := fun e => hn.1 (e ▸ hs')
      exact (List.mem_erase_of_ne hne).mpr (hs s (List.mem_cons_of_mem _ hs'))
    rw [List.length_erase_of_mem ha] at ih
    have := List.length_pos_of_mem ha
    rw [List.length_cons]
    omega
theorem SOk.le {n : Nd} {S : List Stp} (h : SOk n S) : S.length ≤ n.names.length := by
  have := nodup_leC h.nodup fun s hs => by
    obtain ⟨x, hx, rfl⟩ := List.mem_map.mp hs
    exact h.sub x hx
  rwa [List.length_map] at this
theorem SOk.closed {n : Nd} {S : List Stp} (h : SOk n S) (hnc : n.nocalls) (hd : DoneTo n.nrows S S.length) : Closed n.ins n.rows (clkOf S) := by
  refine clk_closed h.nodup (fun s hs => ⟨none, h.inp s hs⟩) (fun r hr s m c p ht hm hp => ?_)
  obtain ⟨j, hj, he⟩ := List.mem_iff_getElem.mp hp
  have hn : r.named = true := by
    cases e : r.named with
    | true => rfl
    | false => rw [Rw.tells_none e] at ht; cases ht
  have hj2 : S[j]? = some (m, c, p) := by rw [List.getElem?_eq_getElem hj, he]
  obtain ⟨c', p', h1, h2⟩ := hd j _ hj hj2 r (List.mem_filter.mpr ⟨hr, hn⟩) hm
  have e1 : r.one = s := by
    have := Rw.tells_one hn (hnc r hr)
    rw [ht] at this
    exact (List.cons.inj this).1.symm
  exact ⟨c', p', h1, by rw [← e1]; exact h2⟩
theorem Stps.prem {ins : List Str} {rs : List Rw} {S : List Stp} (h : Stps ins rs S) : ∀ x ∈ S, ∀ q, x.2.2 = some q → ∃ y ∈ S, y.1 = q := by
  induction h with
  | nil => intro x hx; cases hx
  | snoc hS hx ih =>
    intro y hy q hq
    rcases List.mem_append.mp hy with hy | hy
    · obtain ⟨z, hz, e⟩ := ih y hy q hq
      exact ⟨z, List.mem_append_left _ hz, e⟩
    · rw [List.mem_singleton.mp hy] at hq
      rcases hx with ⟨h1, _⟩ | ⟨r, z, _, hz, _, h1, _⟩
      · rw [h1] at hq; cases hq
      · rw [h1] at hq
        exact ⟨z, List.mem_append_left _ hz, Option.some.inj hq⟩
/-- steps that are of the node -/
def SGd (n : Nd) (S : List Stp) : Prop := S.length ≤ 1001 ∧ ∀ x ∈ S, x.1 ∈ n.names ∧ x.2.1.length ≤ 1001 ∧ (∀ s ∈ x.2.1, goodN s) ∧ ∀ q, x.2.2 = some q → q ∈ n.names
theorem SOk.gd {n : Nd} {S : List Stp} (h : SOk n S) (hg : n.good) : SGd n S := by
  have h1 := h.le
  have h2 := hg.all1
  refine ⟨by omega, fun x hx => ⟨h.sub x hx, ?_, h.okc x hx, fun q hq => ?_⟩⟩
  · obtain ⟨j, hj, he⟩ := List.mem_iff_getElem.mp hx
    have := h.len j x (by rw [List.getElem?_eq_getElem hj, he])
    omega
  · obtain ⟨y, hy, e⟩ := h.stps.prem x hx q hq
    rw [← e]
    exact h.sub y hy
/-- a clash: a word, steps, two names -/
inductive ClashP (n : Nd) : Str → List Stp → Str → Str → Prop
  | two {S : List Stp} {s : Str} {c c' : List Str} {p p' : Option Str} : Stps n.ins n.rows S → (s, c, p) ∈ S → (s, c', p') ∈ S → c ≠ c' → ClashP n "two" S s s
  | hold {S : List Stp} {one m : Str} {v : V} {p : Option Str} : Stps n.ins n.rows S → Rw.vd 1 one v m ∈ n.rows → (m, [], p) ∈ S → ClashP n "hold" S one m
  | same {S : List Stp} {ns : List Str} {a b : Str} {c c' : List Str} {p p' : Option Str} : Stps n.ins n.rows S → Rw.sm ns ∈ n.rows → a ∈ ns → b ∈ ns → a ≠ b → (a, c, p) ∈ S → (b, c', p') ∈ S → c ≠ c' → ClashP n "same" S a b
theorem ClashP.clash {n : Nd} {w a b : Str} {S : List Stp} (h : ClashP n w S a b) (hw : w ≠ "same") : Clash n.ins n.rows := by
  cases h with
  | @two _ _ c c' p p' hS h1 h2 hne => exact .inl ⟨_, c, c', hS.drv (_, c, p) h1, hS.drv (_, c', p') h2, hne⟩
  | hold hS hr h1 => exact .inr ⟨_, _, _, hr, List.mem_singleton_self _, hS.drv _ h1, rfl⟩
  | same => exact absurd rfl hw
/-! ### steps in the heap -/
def premV : Option Str → V
  | none => .non
  | some s => .str s
def StpAt (H : Hp) (x : Stp) (w : V) : Prop := ∃ b q, w = .ref b ∧ H b = some (.tup [.str x.1, .ref q, premV x.2.2]) ∧ H q = some (.tup (x.2.1.map V.str))
theorem StpAt.tk {H G : Hp} {x : Stp} {w : V} (h : StpAt H x w) (e : TupK H G) : StpAt G x w := by
  obtain ⟨b, q, h1, h2, h3⟩ := h
  exact ⟨b, q, h1, e _ _ h2, e _ _ h3⟩
theorem StpAt.up {H G : Hp} {x : Stp} {w : V} (h : StpAt H x w) (e : Ex H G) : StpAt G x w := h.tk fun _ _ q => e _ _ q
def StsAt (H : Hp) (S : List Stp) (l : Addr) : Prop := ∃ ws, H l = some (.lst ws) ∧ Paired (StpAt H) S ws
theorem StsAt.up {H G : Hp} {S : List Stp} {l : Addr} (h : StsAt H S l) (e : Ex H G) : StsAt G S l := by
  obtain ⟨ws, h1, h2⟩ := h
  exact ⟨ws, e _ _ h1, paired_up (fun _ _ h => h.up e) h2⟩
def KnAt (H : Hp) (kd : Addr) (S : List Stp) : Prop := ∃ kv, H kd = some (.dK kv) ∧ kv.map (·.1) = (S.map (·.1)).map (Sum.inr : Str → Key) ∧ ∀ x ∈ S, ∃ p, valV kv (.inr x.1) = some (.ref p) ∧ H p = some (.tup (x.2.1.map V.str))
theorem KnAt.up {H G : Hp} {S : List Stp} {kd : Addr} (h : KnAt H kd S) (e : Ex H G) : KnAt G kd S := by
  obtain ⟨kv, h1, h2, h3⟩ := h
  exact ⟨kv, e _ _ h1, h2, fun x hx => let ⟨p, q1, q2⟩ := h3 x hx; ⟨p, q1, e _ _ q2⟩⟩
theorem KnAt.keys {S : List Stp} {kv : List (Key × V)} (h : kv.map (·.1) = (S.map (·.1)).map (Sum.inr : Str → Key)) (s : Str) : (valV kv (.inr s)).isSome = (S.map (·.1)).contains s := by
  by_cases hs : s ∈ S.map (·.1)
  · obtain ⟨v, hv⟩ := valV_haskey h hs
    rw [hv, List.contains_iff_mem.mpr hs]
    rfl
  · rw [valV_nokey h hs]
    cases hc : (S.map (·.1)).contains s with
    | false => rfl
    | true => exact absurd (List.contains_iff_mem.mp hc) hs
theorem valV_snoc_old {kv : List (Key × V)} {k k' : Key} {v : V} (h : k' ≠ k) : valV (kv ++ [(k', v)]) k = valV kv k := by
  induction kv with
  | nil => exact valV_neg (p := (k', v)) h
  | cons p r ih =>
    by_cases e : p.1 = k
    · rw [List.cons_append, valV_pos e, valV_pos e]
    · rw [List.cons_append, valV_neg e, valV_neg e, ih]
theorem valV_snoc_new {kv : List (Key × V)} {k : Key} {v : V} (h : k ∉ kv.map (·.1)) : valV (kv ++ [(k, v)]) k = some v := by
  induction kv with
  | nil => exact valV_pos (p := (k, v)) rfl
  | cons p r ih =>
    have e : p.1 ≠ k := fun e => h (by rw [List.map_cons, e]; exact List.mem_cons_self)
    rw [List.cons_append, valV_neg e]
    exact ih fun hm => h (by rw [List.map_cons]; exact List.mem_cons_of_mem _ hm)
theorem KnAt.more {H : Hp} {S : List Stp} {kd p : Addr} {kv : List (Key × V)} {s : Str} {c : List Str} {pr : Option Str} (gk : H kd = some (.dK kv)) (hk : kv.map (·.1) = (S.map (·.1)).map (Sum.inr : Str → Key)) (hv : ∀ x ∈ S, ∃ p, valV kv (.inr x.1) = some (.ref p) ∧ H p = some (.tup (x.2.1.map V.str)))
    (hp : H p = some (.tup (c.map V.str))) (hs : s ∉ S.map (·.1)) : KnAt (upd H kd (.dK (kv ++ [((.inr s : Key), V.ref p)]))) kd (S ++ [(s, c, pr)]) := by
  have hkey : (Sum.inr s : Key) ∉ kv.map (·.1) := by
    rw [hk]
    intro hm
    obtain ⟨z, hz, e⟩ := List.mem_map.mp hm
    cases Sum.inr.inj e
    exact hs hz
  refine ⟨_, upd_same, by rw [List.map_append, hk, List.map_append, List.map_append]; rfl, fun x hx => ?_⟩
  rcases List.mem_append.mp hx with hx | hx
  · obtain ⟨q, h1, h2⟩ := hv x hx
    have hne : (Sum.inr s : Key) ≠ Sum.inr x.1 := fun e => hs (by rw [Sum.inr.inj e]; exact List.mem_map.mpr ⟨x, hx, rfl⟩)
    exact ⟨q, by rw [valV_snoc_old hne]; exact h1, by rw [upd_ne (ne_of h2 gk (fun z => by cases z))]; exact h2⟩
  · rw [List.mem_singleton.mp hx]
    exact ⟨p, valV_snoc_new hkey, by rw [upd_ne (ne_of hp gk (fun z => by cases z))]; exact hp⟩
theorem ok_strs {c : List Str} (h : ∀ s ∈ c, goodN s) : (c.map V.str).all okV = true := by
  rw [List.all_eq_true]
  intro v hv
  obtain ⟨s, hs, rfl⟩ := List.mem_map.mp hv
  exact okT_V (h s hs).2.2
theorem paired_mapL {α β γ : Type} {f : α → γ} {F : γ → β → Prop} : ∀ {l : List α} {m : List β}, Paired (fun a b => F (f a) b) l m → Paired F (l.map f) m
  | _, _, .nil => .nil
  | _, _, .cons h t => .cons h (paired_mapL t)
/-- a paper of a clash in the heap -/
def PapAt (H : Hp) (p : Addr) (word : Str) (S : List Stp) (a b : Str) : Prop := ∃ sl, H p = some (.tup [.str word, .ref sl, .str a, .str b]) ∧ StsAt H S sl
theorem PapAt.up {H G : Hp} {p : Addr} {word a b : Str} {S : List Stp} (h : PapAt H p word S a b) (e : Ex H G) : PapAt G p word S a b := by
  obtain ⟨sl, h1, h2⟩ := h
  exact ⟨sl, e _ _ h1, h2.up e⟩

/-! ### the steps of a node (clocks.py) -/
open TL (tl)
def StYes (n : Nd) (H : Hp) (Q : VK) : Prop := ∀ S q H2, SOk n S → Closed n.ins n.rows (clkOf S) → H q = none → Ex H H2 → StsAt H2 S q → Q (.ref q) H2
def StNo (Z : Adr) (n : Nd) (H : Hp) (E : XK) : Prop := ∀ (word : Str) S a b x p H2, word ≠ "same" → ClashP n word S a b → a ∈ n.names → b ∈ n.names → SGd n S → H x = none → Ex H H2 → H2 x = some (.xd [("paper", .ref p)]) → PapAt H2 p word S a b → E (.ref Z.c_NoFit) (some x) H2
def sp_steps_ofX (Z : Adr) : Sp := fun vs H Q E => ∃ n v, vs = [v] ∧ NdAt Z H n v ∧ n.good ∧ n.nocalls ∧ StYes n H Q ∧ StNo Z n H E
theorem okX_steps_of (T : Txt K mg Z) : FnOk P w K mg base (L2N.CX P w) 11 Z.f_steps_of Z.fd_steps_of ["node"] (sp_steps_ofX Z) := by
  have G_named_rows := ok_named_rows (P := P) (w := w) (base := base) T
  have G_clock_given := ok_clock_given (P := P) (w := w) (base := base) T
  have GMN_told := gmN_told (P := P) (w := w) (base := base) T
  have G_NoFit_init := ok_NoFit_init (P := P) (w := w) (base := base) T
  refine T.F_steps_of.okN sc_steps_of (fun vs H Q E h => ?_) (fun cdv AA outer s H vs Q E hr h => ?_)
  · obtain ⟨n, v, rfl, _⟩ := h
    rfl
  · obtain ⟨n, v, rfl, hN, hg, hnc, kY, kN⟩ := h
    obtain ⟨a, dx, fs, rfl, ha, hlk⟩ := hN.cls
    have ha1 := hg.all1
    have hin1 := hg.in1
    have hr1 := hg.row1
    have hnl : n.nrows.length ≤ 300 := Nat.le_trans (List.length_filter_le _ _) hr1
    refine ⟨_, (pss_cons (ps_set (i := 1) sc_steps_of.nd rfl (Or.inl rfl) (pe_call G_named_rows (hr.mono (by omega)) rfl T.g_named_rows T.F_named_rows.kp T.b_named_rows .nil pass0 (pa_cons (pv 0) pa_nil)))
      (pss_cons (ps_setLc (i := 2) (own := [("name", 3)]) (g := (gName 3)) (tt := tYes) (te := (tTup (tCons (tVar 3) (tCons (tTup tNil) (tCons (tC .non) tNil))))) rfl sc_steps_of.nd rfl rfl (sw_true rfl rfl rfl (by decide +kernel)) (pi_tup (pe_ix ix_tup (pe_methP0 (pv 0) GMN_told (hr.mono (by omega)) pass0) pe_int (fun _ _ => rfl))) (blkOk_by (own := [("name", 3)]) (N := N_steps_of) (sc := defScope s_steps_of) (by decide +kernel)) (fun _ _ _ _ _ => (pg_name (i := 3) sc_steps_of.nd rfl (Or.inl rfl))) (fun _ _ _ _ _ => pts_nil) (fun _ _ _ _ _ => (pe_tup (pa_cons (pv 3) (pa_cons (pe_tup pa_nil) (pa_cons pe_non pa_nil))))))
      (pss_cons (ps_set (i := 4) sc_steps_of.nd rfl (Or.inl rfl) pe_dnewK)
      (Evl.pss_cut (ps_for (passes_of rfl) rfl (pi_list (pv 2)) (pg_tup (by rfl) (pgs_cons (pg_name (i := 3) sc_steps_of.nd rfl (Or.inl rfl)) (pgs_cons (pg_name (i := 5) sc_steps_of.nd rfl (Or.inl rfl)) (pgs_cons (pg_name (i := 6) sc_steps_of.nd rfl (Or.inl rfl)) pgs_nil)))) (pss_one (ps_dput (hu_of hr) (pv 4) (pv 3) (pv 5) rfl)))
      (pss_cons (ps_set (i := 7) sc_steps_of.nd rfl (Or.inl rfl) pe_int)
      (pss_cons (ps_while (passes_of rfl) (pt_cmpR op_lt (pv 7) (pe_callB call_len_seq (by rfl) T.n_len (by decide +kernel) (pa_cons (pv 2) pa_nil)) (nomark _)) (pss_cons (ps_set (i := 6) sc_steps_of.nd rfl (Or.inl rfl) (pe_ix ix_tup (pe_ix ix_list (pv 2) (pv 7) (fun _ _ => rfl)) pe_int (fun _ _ => rfl)))
      (pss_cons (ps_aug (i := 7) sc_steps_of.nd rfl (Or.inl rfl) pe_int ip_add)
      (pss_one (ps_for (passes_of rfl) rfl (pi_list (pv 1)) (pg_tup (by rfl) (pgs_cons (pg_name (i := 8) sc_steps_of.nd rfl (Or.inl rfl)) (pgs_cons (pg_name (i := 9) sc_steps_of.nd rfl (Or.inl rfl)) pgs_nil))) (pss_one (ps_if (pt_cmpR op_in_seq (pv 6) (pv 9) (by rfl)) (pss_cons (ps_set (i := 5) sc_steps_of.nd rfl (Or.inl rfl) (pe_call G_clock_given (hr.mono (by omega)) rfl T.g_clock_given T.F_clock_given.kp T.b_clock_given .nil pass0 (pa_cons (pv 8) (pa_cons (pe_dget (hu_of hr) (pv 4) (pv 6) (fun _ _ => rfl)) pa_nil))))
      (pss_cons (ps_if (pt_cmpR op_isN (pv 5) pe_non (nomark _)) (pss_one (L2N.ps_raise rfl (L2N.takes_of rfl rfl rfl rfl) (pmkN_oex (exB_ok T.x_NoFit).ox T.i_NoFit T.y_NoFit G_NoFit_init (hr.mono (by omega)) T.b_NoFit_init .nil pass0 rfl T.m_NoFit (pa_cons (pe_tup (pa_cons pe_str (pa_cons (pv 2) (pa_cons (pe_ix ix_tup (pv 8) pe_int (fun _ _ => rfl)) (pa_cons (pv 6) pa_nil))))) pa_nil)))) pss_nil)
      (pss_one (ps_if (pt_cmpR (op_notInDk (hu_of hr)) (pe_ix ix_tup (pv 8) pe_int (fun _ _ => rfl)) (pv 4) (by rfl)) (pss_cons (ps_dput (hu_of hr) (pv 4) (pe_ix ix_tup (pv 8) pe_int (fun _ _ => rfl)) (pv 5) rfl)
      (pss_one (ps_expr (pe_bm PySem.F.plainAttrs_list PySem.F.slot_list_append PySem.F.type_list_append mt_append (pv 2) (pa_cons (pe_tup (pa_cons (pe_ix ix_tup (pv 8) pe_int (fun _ _ => rfl)) (pa_cons (pv 5) (pa_cons (pv 6) pa_nil)))) pa_nil))))) (pss_one (ps_if (pt_cmpR (op_neD hr.units) (pe_dget (hu_of hr) (pv 4) (pe_ix ix_tup (pv 8) pe_int (fun _ _ => rfl)) (fun _ _ => rfl)) (pv 5) (nomark _)) (pss_one (L2N.ps_raise rfl (L2N.takes_of rfl rfl rfl rfl) (pmkN_oex (exB_ok T.x_NoFit).ox T.i_NoFit T.y_NoFit G_NoFit_init (hr.mono (by omega)) T.b_NoFit_init .nil pass0 rfl T.m_NoFit (pa_cons (pe_tup (pa_cons pe_str (pa_cons (pe_op op_cat (pv 2) (pe_lst (pa_cons (pe_tup (pa_cons (pe_ix ix_tup (pv 8) pe_int (fun _ _ => rfl)) (pa_cons (pv 5) (pa_cons (pv 6) pa_nil)))) pa_nil))) (pa_cons (pe_ix ix_tup (pv 8) pe_int (fun _ _ => rfl)) (pa_cons (pe_ix ix_tup (pv 8) pe_int (fun _ _ => rfl)) pa_nil))))) pa_nil)))) pss_nil)))))) pss_nil)))))))
      (pss_one (ps_ret (pv 2))))))))), ?_⟩
    walk_at "ss"
    refine ⟨n, _, rfl, hN, hg, hnc, fun rl rws H1 hrl e1 grl hP1 => ?_⟩
    have hrwl := paired_len hP1
    walk_at "ss"
    refine ⟨a, _, dx, _, rfl, e1 _ _ ha, rfl, hlk, ?_⟩
    walk_at "ss"
    refine ⟨n, _, rfl, hN.up e1, hg, fun u G2 f2 hT => ?_⟩
    obtain ⟨b, p, q, t, us, rfl, gb, gp, gq, gt, hrw⟩ := hT
    walk_at "ss"
    refine c_ixT (SqT.of gb) rfl ?_
    refine ⟨p, rfl, ⟨_, SqT.of gp⟩, lcW walk_tup (fun G e => Evl.ex_t e (SqT.of gp)) (as := n.ins) (by rw [List.length_map]) (by rw [List.length_map]; omega) (fun _ => true) (fun D s w G => StpAt G (s, [], none) w) ?_ ?_ ?_⟩
    · rintro D r y G G' eD eN h
      exact h.tk fun _ _ q => NL.tup eN q
    · rintro D i s x hD hs hx G3 e3 ⟨o, ho⟩ R N hR hNo
      rw [List.getElem?_map, hs] at hx
      cases hx
      walk_at "ss"
      refine newT fun q3 G4 hq3 e4 g4 => ?_
      walk_at "ss"
      refine newT fun q5 G5 hq5 e5 g5 => ?_
      exact hR rfl _ _ (e4.trans e5) ⟨q5, q3, rfl, g5, e5 _ _ g4⟩
    intro sws sl G3 hS0 hsl f3 g3
    rw [List.filter_eq_self.mpr (fun _ _ => rfl)] at hS0
    have hS0 : Paired (StpAt G3) (inS n) sws := paired_mapL hS0
    have f2' := e1.trans f2
    have hslH : H sl = none := fresh_back f2' hsl
    walk_at "ss"
    intro kd hkd
    have f4 : Ex G3 (upd G3 kd (.dK [])) := Ex.new hkd
    have g4 : upd G3 kd (.dK []) kd = some (.dK []) := upd_same
    generalize upd G3 kd (.dK []) = G4 at f4 g4
    have hkd2 : G2 kd = none := fresh_back f3 hkd
    have nks : sl ≠ kd := ne_of_none g3 hkd
    have hSl : (inS n).length = n.ins.length := by unfold inS; rw [List.length_map]
    have hSn : ((inS n).map (·.1)).Nodup := (SOk.start hg).nodup
    walk_at "ss"
    refine c_cut (M := fun σ' G => (∃ v3 v5 v6 v7 v8 v9, σ' = [some (.ref a), some (.ref rl), some (.ref sl), v3, some (.ref kd), v5, v6, v7, v8, v9]) ∧ Ex G2 G ∧ StsAt G (inS n) sl ∧ KnAt G kd (inS n)) ?_ ?_
    · walk_at "ss"
      refine ⟨⟨_, SqL.of (f4 _ _ g3)⟩, forLg (xs := sws) (fun i σ' G => (∃ v3 v5 v6 v7 v8 v9, σ' = [some (.ref a), some (.ref rl), some (.ref sl), v3, some (.ref kd), v5, v6, v7, v8, v9]) ∧ Ex G2 G ∧ G sl = some (.lst sws) ∧ TupK G3 G ∧ KnAt G kd ((inS n).take i)) ⟨⟨_, _, _, _, _, _, rfl⟩, f3.trans f4, f4 _ _ g3, TupK.of f4, [], g4, by simp, fun x hx => by simp at hx⟩ (fun i σ' G _ q => SqL.of q.2.2.1) ?_ ?_⟩
      · rintro i x σ' G hx ⟨⟨v3, v5, v6, v7, v8, v9, rfl⟩, eG, gsl, tG, kv, gk, hk, hv⟩
        obtain ⟨st, hst, b2, q2, rfl, h1, h2⟩ := paired_ix hS0 hx
        have htk : (inS n).take (i + 1) = (inS n).take i ++ [st] := by rw [List.take_add_one, hst]; rfl
        have hnot : st.1 ∉ ((inS n).take i).map (·.1) := by
          rw [List.map_take]
          have hst2 : ((inS n).map (·.1))[i]? = some st.1 := by rw [List.getElem?_map, hst]; rfl
          exact fun hm => nodup_at hSn hst2 hm (Nat.le_refl _) rfl
        have hkey : (Sum.inr st.1 : Key) ∉ kv.map (·.1) := by
          rw [hk]
          intro hm
          obtain ⟨z, hz, e⟩ := List.mem_map.mp hm
          cases Sum.inr.inj e
          exact hnot hz
        have hkl : kv.length ≤ 1000 := by
          have := congrArg List.length hk
          rw [List.length_map, List.length_map, List.length_map, List.length_take] at this
          omega
        refine c_gTup (SqT.of (tG _ _ h1)) rfl ?_
        walk_at "ss"
        refine ⟨kd, _, rfl, .inl ⟨_, .inr st.1, gk, rfl, Evl.sz_lt (by omega), rfl⟩, ?_⟩
        rw [putK_fresh hkey]
        walk_at "ss"
        rw [htk]
        refine ⟨⟨_, _, _, _, _, _, rfl⟩, Ex.mut eG hkd2, by rw [upd_ne nks]; exact gsl, fun z ys hz => ?_, ?_⟩
        · have := tG z ys hz
          rw [upd_ne (ne_of this gk (fun z => by cases z))]
          exact this
        · exact KnAt.more (pr := st.2.2) gk hk hv (tG _ _ h2) hnot
      · rintro σ' G ⟨⟨v3, v5, v6, v7, v8, v9, rfl⟩, eG, gsl, tG, hK⟩
        walk_at "ss"
        rw [← paired_len hS0, List.take_length] at hK
        exact ⟨⟨_, _, _, _, _, _, rfl⟩, eG, ⟨sws, gsl, paired_up (fun _ _ h => h.tk tG) hS0⟩, hK⟩
    rintro σ' G5 ⟨⟨v3, v5, v6, v7, v8, v9, rfl⟩, e5, hS5, hK5⟩
    walk_at "ss"
    refine while_do (fun σ' G => ∃ (i : Nat) (S : List Stp) (v3 v5 v6 v8 v9 : Option V), σ' = [some (.ref a), some (.ref rl), some (.ref sl), v3, some (.ref kd), v5, v6, some (.int ((i : Nat) : Int)), v8, v9] ∧ Ex G2 G ∧ StsAt G S sl ∧ KnAt G kd S ∧ SOk n S ∧ i ≤ S.length ∧ DoneTo n.nrows S i)
      (fun (σ' : L2.St) (_ : Hp) => match (σ'[7]? : Option (Option V)) with | some (some (V.int j)) => (2000 - j).toNat | _ => 0) ⟨0, inS n, _, _, _, _, _, rfl, e5, hS5, hK5, SOk.start hg, Nat.zero_le _, fun j x hj => absurd hj (Nat.not_lt_zero j)⟩ ?_
    rintro σ' G ⟨i, S, w3, w5, w6, w8, w9, rfl, eG, ⟨ws, gsl, hSt⟩, hK, hok, hi, hdone⟩
    have hwl := paired_len hSt
    have hSle := hok.le
    walk_at "ss"
    refine ⟨sl, _, rfl, .inl (SqL.of gsl), ?_⟩
    walk_at "ss"
    rw [← hwl]
    refine if_cs (fun hb => c_turn ?_) (fun hb => ?_)
    · have hlt : i < S.length := by have := of_decide_eq_true hb; omega
      obtain ⟨st, hst⟩ : ∃ st, S[i]? = some st := ⟨_, List.getElem?_eq_getElem hlt⟩
      obtain ⟨wv, hwv⟩ : ∃ wv, ws[i]? = some wv := ⟨_, List.getElem?_eq_getElem (by omega)⟩
      obtain ⟨st', hst', b2, q2, rfl, h1, h2⟩ := paired_ix hSt hwv
      rw [hst] at hst'
      cases hst'
      obtain ⟨m, c, pr⟩ := st
      walk_at "ss"
      refine c_ixL (SqL.of gsl) (atI_nat hwv) ?_
      walk_at "ss"
      refine c_ixT (SqT.of h1) rfl ?_
      walk_at "ss"
      refine ⟨_, rfl, ?_⟩
      walk_at "ss"
      refine ⟨_, _, rfl, rfl, ?_⟩
      walk_at "ss"
      have grl2 : ∀ {G' : Hp}, Ex G2 G' → G' rl = some (.lst rws) := fun e => e _ _ (f2 _ _ grl)
      refine ⟨⟨_, SqL.of (grl2 eG)⟩, forLg (xs := rws) (fun k σ' G' => ∃ (S' : List Stp) (v5 v8 v9 : Option V), σ' = [some (.ref a), some (.ref rl), some (.ref sl), w3, some (.ref kd), v5, some (.str m), some (.int ((i : Int) + 1)), v8, v9] ∧ Ex G2 G' ∧ StsAt G' S' sl ∧ KnAt G' kd S' ∧ SOk n S' ∧ S'[i]? = some (m, c, pr) ∧ DoneTo n.nrows S' i ∧ ∀ j r, j < k → n.nrows[j]? = some r → DoneR S' r m c) ⟨S, _, _, _, rfl, eG, ⟨ws, gsl, hSt⟩, hK, hok, hst, hdone, fun j r hj => absurd hj (Nat.not_lt_zero j)⟩ (fun k σ' G' _ q => ?_) ?_ ?_⟩
      · obtain ⟨S', v5, v8, v9, _, e, _⟩ := q
        exact SqL.of (grl2 e)
      · rintro k x σ' G' hx ⟨S', v5, v8, v9, rfl, eG', ⟨ws', gsl', hSt'⟩, ⟨kv, gk, hk, hv⟩, hok', hst', hdone', hrows⟩
        obtain ⟨r, hrk, hNr⟩ := paired_ix hP1 hx
        have hrm := List.mem_of_getElem? hrk
        obtain ⟨hrm1, hrn⟩ := nrow hrm
        obtain ⟨b3, u3, ml, rfl, h3, h4, h5⟩ := hNr.up (f2.trans eG')
        obtain ⟨b4, xs4, rfl, h6⟩ := h4.two hrn (hnc r hrm1)
        have hlS := hok'.le
        have hwl' := paired_len hSt'
        have hkl : kv.length = S'.length := by
          have := congrArg List.length hk
          rwa [List.length_map, List.length_map, List.length_map] at this
        have hrows' : ∀ S2 : List Stp, DoneR (S' ++ S2) r m c → ∀ j r', j < k + 1 → n.nrows[j]? = some r' → DoneR (S' ++ S2) r' m c := fun S2 hd j r' hj hr' => by
          rcases Nat.lt_or_ge j k with h | h
          · exact (hrows j r' h hr').app
          · have : j = k := by omega
            rw [this, hrk] at hr'
            cases hr'
            exact hd
        refine c_gTup (SqT.of h3) rfl ?_
        walk_at "ss"
        refine c_in (.inl (SqL.of h5)) rfl flat_strs ?_
        rw [inV_str]
        walk_at "ss"
        refine if_cs (fun hc => ?_) (fun hc => ?_)
        · have hm : m ∈ r.ment := List.contains_iff_mem.mp hc
          obtain ⟨pc, hpc, gpc⟩ := hv _ (List.mem_of_getElem? hst')
          have hcl := hok'.len i _ hst'
          have hil := (List.getElem?_eq_some_iff.mp hst').1
          have hcg := hok'.okc _ (List.mem_of_getElem? hst')
          have hclen : c.length ≤ i := hcl
          walk_at "ss"
          refine ⟨kd, _, rfl, by rw [← hpc]; exact dgetK gk, ?_⟩
          refine ⟨r, _, pc, c, rfl, h4, hnc r hrm1, gpc, by omega, ok_strs hcg, ?_⟩
          unfold HandK
          cases hh : r.hand c with
          | none =>
            obtain ⟨rfl, n1, v1, x1, rfl⟩ := hand_none hh
            intro G6 e6
            walk_at "ss"
            refine if_tt (by rfl) ?_
            walk_at "ss"
            refine c_ixT (SqT.of (e6 _ _ h6)) at_one ?_
            walk_at "ss"
            refine newT fun pp G7 hpp e7 g7 => ?_
            walk_at "ss"
            have eb := e6.trans e7
            have em : m = x1 := List.mem_singleton.mp hm
            subst em
            refine raise1 fun x G8 hx e8 g8 => ?_
            have eH := (e1.trans f2).trans (eG'.trans (e6.trans e7))
            refine kN "hold" S' n1 m x pp G8 (by decide +kernel) (.hold hok'.stps hrm1 (List.mem_of_getElem? hst')) (one_told hnc hrm) (hok'.sub _ (List.mem_of_getElem? hst')) (hok'.gd hg) (fresh_back eH hx) (eH.trans e8) g8 ⟨sl, e8 _ _ g7, ?_⟩
            exact StsAt.up ⟨ws', gsl', hSt'⟩ (eb.trans e8)
          | some c' =>
            intro qc G6 e6 g6
            have hcl' := hand_len hh
            have hcg' := hand_ok (hg.row r hrm1).1 hcg hh
            walk_at "ss"
            refine if_ff (by rfl) ?_
            walk_at "ss"
            refine c_ixT (SqT.of (e6 _ _ h6)) at_one ?_
            walk_at "ss"
            refine ⟨kd, _, rfl, dgetK (e6 _ _ gk), ?_⟩
            rw [KnAt.keys hk]
            walk_at "ss"
            refine if_cs (fun hc2 => ?_) (fun hc2 => ?_)
            · have hno : r.one ∉ S'.map (·.1) := fun z => by rw [List.contains_iff_mem.mpr z] at hc2; cases hc2
              have hkey : (Sum.inr r.one : Key) ∉ kv.map (·.1) := by
                rw [hk]
                intro hm
                obtain ⟨z, hz, e⟩ := List.mem_map.mp hm
                cases Sum.inr.inj e
                exact hno hz
              walk_at "ss"
              refine c_ixT (SqT.of (e6 _ _ h6)) at_one ?_
              walk_at "ss"
              refine ⟨kd, _, rfl, .inl ⟨_, .inr r.one, e6 _ _ gk, rfl, Evl.sz_lt (by omega), rfl⟩, ?_⟩
              rw [putK_fresh hkey]
              have hK6 : ∀ x ∈ S', ∃ p, valV kv (.inr x.1) = some (.ref p) ∧ G6 p = some (.tup (x.2.1.map V.str)) := fun x hx => let ⟨p, q1, q2⟩ := hv x hx; ⟨p, q1, e6 _ _ q2⟩
              have hKm := KnAt.more (pr := some m) (e6 _ _ gk) hk hK6 g6 hno
              have e7 : Ex G2 (upd G6 kd (.dK (kv ++ [((.inr r.one : Key), V.ref qc)]))) := Ex.mut (eG'.trans e6) hkd2
              have gs7 : upd G6 kd (.dK (kv ++ [((.inr r.one : Key), V.ref qc)])) sl = some (.lst ws') := by rw [upd_ne nks]; exact e6 _ _ gsl'
              have t7 : TupK G6 (upd G6 kd (.dK (kv ++ [((.inr r.one : Key), V.ref qc)]))) := tup_dk ExB.upd (e6 _ _ gk)
              generalize upd G6 kd (.dK (kv ++ [((.inr r.one : Key), V.ref qc)])) = G7 at hKm e7 gs7 t7
              walk_at "ss"
              refine ⟨.inl ⟨rfl, _, SqL.of gs7⟩, ?_⟩
              walk_at "ss"
              refine c_ixT (SqT.of (t7 _ _ (e6 _ _ h6))) at_one ?_
              walk_at "ss"
              refine newT fun qt G8 hqt e8 g8 => ?_
              walk_at "ss"
              have gs8 := e8 _ _ gs7
              refine ⟨sl, _, _, rfl, rfl, gs8, Evl.sz_lt (by omega), ?_⟩
              walk_at "ss"
              have t9 : TupK G8 (upd G8 sl (.lst (ws' ++ [.ref qt]))) := fun z ys hz => by
                rw [upd_ne (ne_of hz gs8 (fun z => by cases z))]
                exact hz
              have tA : TupK G' (upd G8 sl (.lst (ws' ++ [.ref qt]))) := fun z ys hz => t9 _ _ (e8 _ _ (t7 _ _ (e6 _ _ hz)))
              refine ⟨S' ++ [(r.one, c', some m)], _, _, _, rfl, Ex.mut (e7.trans e8) hsl, ⟨_, upd_same, ?_⟩, ?_, hok'.more hg hnc hst' hrm hm hh hno, ?_, hdone'.app (by omega), ?_⟩
              · refine paired_snoc (F := StpAt (upd G8 sl (.lst (ws' ++ [.ref qt])))) (a := ((r.one, c', some m) : Stp)) (b := V.ref qt) ⟨qt, qc, rfl, t9 _ _ g8, t9 _ _ (e8 _ _ (t7 _ _ g6))⟩ (paired_up (fun _ _ h => h.tk tA) hSt')
              · obtain ⟨kv2, gk2, hk2, hv2⟩ := hKm.up e8
                refine ⟨kv2, by rw [upd_ne (ne_of gk2 gs8 (fun z => by cases z))]; exact gk2, hk2, fun x hx => ?_⟩
                obtain ⟨p5, q5, q6⟩ := hv2 x hx
                exact ⟨p5, q5, t9 _ _ q6⟩
              · rw [List.getElem?_append_left hil]; exact hst'
              · exact hrows' _ fun _ => ⟨c', some m, hh, List.mem_append_right _ (List.mem_singleton_self _)⟩
            · have hyes : r.one ∈ S'.map (·.1) := by
                cases hcc : (S'.map (·.1)).contains r.one with
                | true => exact List.contains_iff_mem.mp hcc
                | false => rw [hcc] at hc2; cases hc2
              obtain ⟨st2, hst2, est2⟩ := List.mem_map.mp hyes
              obtain ⟨s2, c2, p2⟩ := st2
              have est2 : s2 = r.one := est2
              subst est2
              obtain ⟨pk, hpk, gpk⟩ := hv _ hst2
              walk_at "ss"
              refine c_ixT (SqT.of (e6 _ _ h6)) at_one ?_
              walk_at "ss"
              refine ⟨kd, _, rfl, by rw [← hpk]; exact dgetK (e6 _ _ gk), ?_⟩
              walk_at "ss"
              refine c_neT (SqT.of (e6 _ _ gpk)) (SqT.of g6) (ok_strs (hok'.okc _ hst2)) (ok_strs hcg') ?_
              rw [eqL_dec]
              walk_at "ss"
              by_cases hcc : c2 = c'
              · subst hcc
                refine if_ff (by rw [decide_eq_true rfl]; rfl) ?_
                walk_at "ss"
                have := hrows' [] fun _ => ⟨c2, p2, hh, by rw [List.append_nil]; exact hst2⟩
                rw [List.append_nil] at this
                exact ⟨S', _, _, _, rfl, eG'.trans e6, StsAt.up ⟨ws', gsl', hSt'⟩ e6, KnAt.up ⟨kv, gk, hk, hv⟩ e6, hok', hst', hdone', this⟩
              · refine if_tt (by rw [decide_eq_false hcc]; rfl) ?_
                walk_at "ss"
                refine c_ixT (SqT.of (e6 _ _ h6)) at_one ?_
                walk_at "ss"
                refine newT fun qt G7 hqt e7 g7 => ?_
                walk_at "ss"
                refine newL fun ql G8 hql e8 g8 => ?_
                have e68 := e6.trans (e7.trans e8)
                refine c_cat (e68 _ _ gsl') g8 (fun qs G9 hqs e9 g9 => ?_) (by show ws'.length + 1 ≤ _; omega)
                have e69 := e68.trans e9
                walk_at "ss"
                refine c_ixT (SqT.of (e69 _ _ h6)) at_one ?_
                walk_at "ss"
                refine c_ixT (SqT.of (e69 _ _ h6)) at_one ?_
                walk_at "ss"
                refine newT fun pp G10 hpp e10 g10 => ?_
                walk_at "ss"
                have eH := (e1.trans f2).trans (eG'.trans (e69.trans e10))
                refine raise1 fun x G11 hx e11 g11 => ?_
                have hstep : Flw n.ins n.rows S' (r.one, c', some m) := .inr ⟨r, (m, c, pr), hrm1, List.mem_of_getElem? hst', Rw.tells_one hrn (hnc r hrm1), rfl, hm, hh⟩
                have hgd := hok'.gd hg
                refine kN "two" (S' ++ [(r.one, c', some m)]) r.one r.one x pp G11 (by decide +kernel) (.two (.snoc hok'.stps hstep) (List.mem_append_left _ hst2) (List.mem_append_right _ (List.mem_singleton_self _)) hcc) (one_told hnc hrm) (one_told hnc hrm) ?_ (fresh_back eH hx) (eH.trans e11) g11 ⟨qs, e11 _ _ g10, _, e11 _ _ (e10 _ _ g9), ?_⟩
                · refine ⟨by rw [List.length_append, List.length_singleton]; omega, fun y hy => ?_⟩
                  rcases List.mem_append.mp hy with hy | hy
                  · exact hgd.2 y hy
                  · rw [List.mem_singleton.mp hy]
                    refine ⟨one_told hnc hrm, ?_, hcg', fun q hq => ?_⟩
                    · show c'.length ≤ 1001
                      omega
                    · cases Option.some.inj hq
                      exact hok'.sub _ (List.mem_of_getElem? hst')
                · refine paired_snoc (F := StpAt G11) (a := ((r.one, c', some m) : Stp)) (b := V.ref qt) ⟨qt, qc, rfl, e11 _ _ (e10 _ _ (e9 _ _ (e8 _ _ g7))), e11 _ _ (e10 _ _ (e9 _ _ (e8 _ _ (e7 _ _ g6))))⟩ (paired_up (fun _ _ h => h.up (e69.trans (e10.trans e11))) hSt')
        · walk_at "ss"
          have := hrows' [] fun hm => absurd (List.contains_iff_mem.mpr hm) (by rw [hc]; decide)
          rw [List.append_nil] at this
          exact ⟨S', _, _, _, rfl, eG', ⟨ws', gsl', hSt'⟩, ⟨kv, gk, hk, hv⟩, hok', hst', hdone', this⟩
      · rintro σ' G' ⟨S', v5, v8, v9, rfl, eG', hSt', hK', hok', hst', hdone', hrows⟩
        walk_at "ss"
        have hil := (List.getElem?_eq_some_iff.mp hst').1
        have hlS := hok'.le
        refine ⟨⟨i + 1, S', _, _, _, _, _, rfl, eG', hSt', hK', hok', hil, fun j x hj hx r hr => ?_⟩, ?_⟩
        · rcases Nat.lt_or_ge j i with h | h
          · exact hdone' j x h hx r hr
          · have : j = i := by omega
            rw [this, hst'] at hx
            cases hx
            obtain ⟨k, hk, he⟩ := List.mem_iff_getElem.mp hr
            exact hrows k r (by rw [← hrwl]; exact hk) (by rw [List.getElem?_eq_getElem hk, he])
        · show (2000 - ((i : Int) + 1)).toNat < (2000 - (i : Int)).toNat
          omega
    · have hge : i = S.length := by have := of_decide_eq_false hb; omega
      subst hge
      walk_at "ss"
      exact kY S sl G hok (hok.closed hnc hdone) hslH ((e1.trans f2).trans eG) ⟨ws, gsl, hSt⟩

/-! ### the clocks of a node (clocks.py) -/
open TL (tl)
theorem stp_pairs {G : Hp} : ∀ {S : List Stp} {ys : List V}, Paired (fun (x : Stp) (w : V) => ∃ b q, w = .ref b ∧ G b = some (.tup [.str x.1, .ref q]) ∧ G q = some (.tup (x.2.1.map V.str))) S ys →
    ∃ (ps : List Addr) (kvs : List (Key × V)), ys = ps.map V.ref ∧ Paired (fun p (kv : Key × V) => SqT K G p [kV kv.1, kv.2]) ps kvs ∧ kvs.map (·.1) = (S.map (·.1)).map (Sum.inr : Str → Key) ∧ ∀ x ∈ S, ∃ q, ((.inr x.1 : Key), V.ref q) ∈ kvs ∧ G q = some (.tup (x.2.1.map V.str))
  | _, _, .nil => ⟨[], [], rfl, .nil, rfl, fun x hx => by cases hx⟩
  | x :: S, _, .cons h t => by
    obtain ⟨b, q, rfl, h1, h2⟩ := h
    obtain ⟨ps, kvs, rfl, h3, h4, h5⟩ := stp_pairs t
    refine ⟨b :: ps, (.inr x.1, .ref q) :: kvs, rfl, .cons (SqT.of h1) h3, by rw [List.map_cons, h4]; rfl, fun y hy => ?_⟩
    rcases List.mem_cons.mp hy with e | hy
    · rw [e]
      exact ⟨q, List.mem_cons_self, h2⟩
    · obtain ⟨z, z1, z2⟩ := h5 y hy
      exact ⟨z, List.mem_cons_of_mem _ z1, z2⟩
theorem nd_keys {U : List Str} (h : U.Nodup) : (U.map (Sum.inr : Str → Key)).Nodup := by
  rw [List.Nodup, List.pairwise_map]
  exact h.imp fun hne e => hne (Sum.inr.inj e)
theorem CksAt.upC {H G : Hp} {cd : Addr} {U : List Str} {ck : Str → List Str} (h : CksAt H cd U ck) (e : Ex H G) : CksAt G cd U ck := by
  obtain ⟨kv, h1, h2, h3⟩ := h
  refine ⟨kv, e _ _ h1, h2, fun s hs => ?_⟩
  obtain ⟨p, q1, q2⟩ := h3 s hs
  exact ⟨p, q1, e _ _ q2⟩
/-- the clock told of a name -/
def ckOf (S : List Stp) (s : Str) : List Str := (clkOf S s).getD []
theorem ck_in {S : List Stp} {s : Str} (h : s ∈ S.map (·.1)) : clkOf S s = some (ckOf S s) ∧ ∃ p, (s, ckOf S s, p) ∈ S := by
  cases hc : clkOf S s with
  | none => exact absurd h (clk_none hc)
  | some c =>
    have e : ckOf S s = c := by unfold ckOf; rw [hc]; rfl
    rw [e]
    exact ⟨rfl, clk_mem hc⟩
theorem sm_names {n : Nd} (hg : n.good) {ns : List Str} (h : Rw.sm ns ∈ n.rows) {s : Str} (hs : s ∈ ns) : s ∈ n.names := (hg.row _ h).2.2 s (once_sub hs)
/-- what comes of it -/
def FtYes (n : Nd) (H : Hp) (Q : VK) : Prop := ∀ S q sl cd H2, SOk n S → Closed n.ins n.rows (clkOf S) → (∀ s ∈ n.names, s ∈ S.map (·.1)) → (∀ ns, Rw.sm ns ∈ n.rows → ∀ a ∈ ns, ∀ b ∈ ns, ckOf S a = ckOf S b) → H q = none → H sl = none → H cd = none → Ex H H2 → H2 q = some (.tup [.ref sl, .ref cd]) → StsAt H2 S sl → CksAt H2 cd n.names (ckOf S) → Q (.ref q) H2
def FtNoC (Z : Adr) (n : Nd) (H : Hp) (E : XK) : Prop := ∀ S i s x H2, SOk n S → Closed n.ins n.rows (clkOf S) → n.names[i]? = some s → s ∉ S.map (·.1) → (∀ z ∈ n.names.take i, z ∈ S.map (·.1)) → H x = none → Ex H H2 → H2 x = some (.xd [("name", .str s)]) → E (.ref Z.c_NoClock) (some x) H2
def FtNoS (Z : Adr) (n : Nd) (H : Hp) (E : XK) : Prop := ∀ S a b x p H2, SOk n S → Closed n.ins n.rows (clkOf S) → (∀ s ∈ n.names, s ∈ S.map (·.1)) → ClashP n "same" S a b → a ∈ n.names → b ∈ n.names → H x = none → Ex H H2 → H2 x = some (.xd [("paper", .ref p)]) → PapAt H2 p "same" S a b → E (.ref Z.c_NoFit) (some x) H2
def sp_fittedX (Z : Adr) : Sp := fun vs H Q E => ∃ n v, vs = [v] ∧ NdAt Z H n v ∧ n.good ∧ n.nocalls ∧ FtYes n H Q ∧ StNo Z n H E ∧ FtNoC Z n H E ∧ FtNoS Z n H E
theorem okX_fitted (T : Txt K mg Z) : FnOk P w K mg base (L2N.CX P w) 12 Z.f_fitted Z.fd_fitted ["node"] (sp_fittedX Z) := by
  have G_names_told := ok_names_told (P := P) (w := w) (base := base) T
  have GX_steps_of := okX_steps_of (P := P) (w := w) (base := base) T
  have GMN_told := gmN_told (P := P) (w := w) (base := base) T
  have G_NoFit_init := ok_NoFit_init (P := P) (w := w) (base := base) T
  have G_NoClock_init := ok_NoClock_init (P := P) (w := w) (base := base) T
  refine T.F_fitted.okN sc_fitted (fun vs H Q E h => ?_) (fun cdv AA outer s H vs Q E hr h => ?_)
  · obtain ⟨n, v, rfl, _⟩ := h
    rfl
  · obtain ⟨n, v, rfl, hN, hg, hnc, kY, kN, kC, kS⟩ := h
    obtain ⟨a, dx, fs, rfl, ha, hlk⟩ := hN.cls
    have ha1 := hg.all1
    have hnd := hg.all
    have hr1 := hg.row1
    refine ⟨_, (pss_cons (ps_set (i := 1) sc_fitted.nd rfl (Or.inl rfl) (pe_call GX_steps_of (hr.mono (by omega)) rfl T.g_steps_of T.F_steps_of.kp T.b_steps_of .nil (passH (L2N.takes_of rfl rfl rfl rfl) (fun _ _ _ _ h => h)) (pa_cons (pv 0) pa_nil)))
      (pss_cons (ps_set (i := 2) sc_fitted.nd rfl (Or.inl rfl) (pe_callTy (call_dictP rfl) (by rfl) T.n_dict (by decide +kernel) (pa_cons (pe_lc (own := [("name", 3), ("clock", 4), ("premise", 5)]) (g := (gTup K 3 (gCons (gName 3) (gCons (gName 4) (gCons (gName 5) gNil))))) (tt := tYes) (te := (tTup (tCons (tVar 3) (tCons (tVar 4) tNil)))) rfl sc_fitted.nd (pi_list (pv 1)) (blkOk_by (own := [("name", 3), ("clock", 4), ("premise", 5)]) (N := N_fitted) (sc := defScope s_fitted) (by decide +kernel)) (fun _ _ _ _ _ => (pg_tup (by rfl) (pgs_cons (pg_name (i := 3) sc_fitted.nd rfl (Or.inl rfl)) (pgs_cons (pg_name (i := 4) sc_fitted.nd rfl (Or.inl rfl)) (pgs_cons (pg_name (i := 5) sc_fitted.nd rfl (Or.inl rfl)) pgs_nil))))) (fun _ _ _ _ _ => pts_nil) (fun _ _ _ _ _ => (pe_tup (pa_cons (pv 3) (pa_cons (pv 4) pa_nil))))) pa_nil)))
      (pss_cons (ps_set (i := 6) sc_fitted.nd rfl (Or.inl rfl) pe_dnewK)
      (Evl.pss_cut (ps_for (passes_of rfl) rfl (pi_list (pe_call G_names_told (hr.mono (by omega)) rfl T.g_names_told T.F_names_told.kp T.b_names_told .nil pass0 (pa_cons (pv 0) pa_nil))) (pg_name (i := 3) sc_fitted.nd rfl (Or.inl rfl)) (pss_cons (ps_if (pt_cmpR (op_notInDk (hu_of hr)) (pv 3) (pv 2) (by rfl)) (pss_one (L2N.ps_raise rfl (L2N.takes_of rfl rfl rfl rfl) (pmkN_oex (exB_ok T.x_NoClock).ox T.i_NoClock T.y_NoClock G_NoClock_init (hr.mono (by omega)) T.b_NoClock_init .nil pass0 rfl T.m_NoClock (pa_cons (pv 3) pa_nil)))) pss_nil)
      (pss_one (ps_dput (hu_of hr) (pv 6) (pv 3) (pe_dget (hu_of hr) (pv 2) (pv 3) (fun _ _ => rfl)) rfl))))
      (Evl.pss_cut (ps_for (passes_of rfl) rfl (pi_tup (pe_ix ix_tup (pe_methP0 (pv 0) GMN_told (hr.mono (by omega)) pass0) pe_int (fun _ _ => rfl))) (pg_name (i := 7) sc_fitted.nd rfl (Or.inl rfl)) (pss_one (ps_if (pt_cmpR op_eq (pe_ix ix_tup (pv 7) pe_int (fun _ _ => rfl)) pe_str (nomark _)) (pss_one (ps_for (passes_of rfl) rfl (pi_tup (pe_ix ix_tup (pv 7) pe_int (fun _ _ => rfl))) (pg_name (i := 8) sc_fitted.nd rfl (Or.inl rfl)) (pss_one (ps_if (pt_cmpR (op_neD hr.units) (pe_dget (hu_of hr) (pv 6) (pv 8) (fun _ _ => rfl)) (pe_dget (hu_of hr) (pv 6) (pe_ix ix_tup (pe_ix ix_tup (pv 7) pe_int (fun _ _ => rfl)) pe_int (fun _ _ => rfl)) (fun _ _ => rfl)) (nomark _)) (pss_one (L2N.ps_raise rfl (L2N.takes_of rfl rfl rfl rfl) (pmkN_oex (exB_ok T.x_NoFit).ox T.i_NoFit T.y_NoFit G_NoFit_init (hr.mono (by omega)) T.b_NoFit_init .nil pass0 rfl T.m_NoFit (pa_cons (pe_tup (pa_cons pe_str (pa_cons (pv 1) (pa_cons (pe_ix ix_tup (pe_ix ix_tup (pv 7) pe_int (fun _ _ => rfl)) pe_int (fun _ _ => rfl)) (pa_cons (pv 8) pa_nil))))) pa_nil)))) pss_nil)))) pss_nil)))
      (pss_one (ps_ret (pe_tup (pa_cons (pv 1) (pa_cons (pv 6) pa_nil)))))))))), ?_⟩
    walk_at "ss"
    refine ⟨n, _, rfl, hN, hg, hnc, ?_, kN⟩
    rintro S sl H1 hok hcl hsl e1 hSt
    obtain ⟨ws, gsl, hP⟩ := id hSt
    have hSle := hok.le
    have hwl := paired_len hP
    walk_at "ss"
    refine ⟨⟨_, SqL.of gsl⟩, lcW walk_list (fun G e => Evl.ex_l e (SqL.of gsl)) hwl (by omega) (fun _ => true) (fun D (x : Stp) w G => ∃ b q, w = .ref b ∧ G b = some (.tup [.str x.1, .ref q]) ∧ G q = some (.tup (x.2.1.map V.str))) ?_ ?_ ?_⟩
    · rintro D r y G G' eD eN ⟨b2, q2, h0, h1, h2⟩
      exact ⟨b2, q2, h0, NL.tup eN h1, NL.tup eN h2⟩
    · rintro D i st x hD hst hx G3 e3 ⟨o, ho⟩ R N hR hNo
      obtain ⟨st', hst', b2, q2, rfl, h1, h2⟩ := paired_ix hP hx
      rw [hst] at hst'
      cases hst'
      refine c_gTup (SqT.of (e3 _ _ h1)) rfl ?_
      walk_at "ss"
      refine newT fun q5 G5 hq5 e5 g5 => ?_
      exact hR rfl _ _ e5 ⟨q5, q2, rfl, g5, e5 _ _ (e3 _ _ h2)⟩
    intro ys pl H2 hys hpl e2 g2
    rw [List.filter_eq_self.mpr (fun _ _ => rfl)] at hys
    obtain ⟨ps, kvs, rfl, hps, hkeys, hmem⟩ := stp_pairs (K := K) hys
    have hknd : (kvs.map (·.1)).Nodup := by rw [hkeys]; exact nd_keys hok.nodup
    walk_at "ss"
    refine ⟨pl, ps, kvs, rfl, SqL.of g2, hps, fun kd hkd => ?_⟩
    rw [mergeK_nodup _ [] (by rw [List.nil_append]; exact hknd), List.nil_append]
    have e3 : Ex H2 (upd H2 kd (.dK kvs)) := Ex.new hkd
    have g3 : upd H2 kd (.dK kvs) kd = some (.dK kvs) := upd_same
    generalize upd H2 kd (.dK kvs) = H3 at e3 g3
    have hv3 : ∀ x ∈ S, ∃ p, valV kvs (.inr x.1) = some (.ref p) ∧ H3 p = some (.tup (x.2.1.map V.str)) := fun x hx => by
      obtain ⟨q, q1, q2⟩ := hmem x hx
      exact ⟨q, valV_mem hknd q1, e3 _ _ q2⟩
    walk_at "ss"
    intro cd hcd
    have e4 : Ex H3 (upd H3 cd (.dK [])) := Ex.new hcd
    have g4 : upd H3 cd (.dK []) cd = some (.dK []) := upd_same
    generalize upd H3 cd (.dK []) = H4 at e4 g4
    have e13 := e1.trans (e2.trans e3)
    have hcdH : H cd = none := fresh_back e13 hcd
    walk_at "ss"
    refine c_cut (M := fun σ' G => (∃ v3 v4 v5 v7 v8, σ' = [some (.ref a), some (.ref sl), some (.ref kd), v3, v4, v5, some (.ref cd), v7, v8]) ∧ Ex H3 G ∧ CksAt G cd n.names (ckOf S) ∧ ∀ s ∈ n.names, s ∈ S.map (·.1)) ?_ ?_
    · walk_at "ss"
      refine ⟨n, _, rfl, hN.up (e13.trans e4), hg, hnc, fun nl H5 hnl e5 g5 => ?_⟩
      refine ⟨nl, rfl, ⟨_, SqL.of g5⟩, forLg (xs := n.names.map V.str) (fun i σ' G => (∃ v3 v4 v5 v7 v8, σ' = [some (.ref a), some (.ref sl), some (.ref kd), v3, v4, v5, some (.ref cd), v7, v8]) ∧ Ex H3 G ∧ G nl = some (.lst (n.names.map V.str)) ∧ CksAt G cd (n.names.take i) (ckOf S) ∧ ∀ s ∈ n.names.take i, s ∈ S.map (·.1)) ⟨⟨_, _, _, _, _, rfl⟩, e4.trans e5, g5, ⟨[], e5 _ _ g4, rfl, fun s hs => by cases hs⟩, fun s hs => by cases hs⟩ (fun i σ' G _ q => SqL.of q.2.2.1) ?_ ?_⟩
      · rintro i x σ' G hx ⟨⟨v3, v4, v5, v7, v8, rfl⟩, eG, gnl, ⟨kv, gcd, hk, hv⟩, hall⟩
        rw [List.getElem?_map] at hx
        obtain ⟨s, hs, rfl⟩ := Option.map_eq_some_iff.mp hx
        have hil := (List.getElem?_eq_some_iff.mp hs).1
        have htk : n.names.take (i + 1) = n.names.take i ++ [s] := by rw [List.take_add_one, hs]; rfl
        walk_at "ss"
        refine ⟨kd, _, rfl, dgetK (eG _ _ g3), ?_⟩
        rw [KnAt.keys hkeys]
        walk_at "ss"
        refine if_cs (fun hc => ?_) (fun hc => ?_)
        · have hno : s ∉ S.map (·.1) := fun z => by rw [List.contains_iff_mem.mpr z] at hc; cases hc
          walk_at "ss"
          exact raise1 fun x G2 hx2 e6 g6 => kC S i s x G2 hok hcl hs hno hall (fresh_back (e13.trans eG) hx2) ((e13.trans eG).trans e6) g6
        · have hyes : s ∈ S.map (·.1) := by
            cases hcc : (S.map (·.1)).contains s with
            | true => exact List.contains_iff_mem.mp hcc
            | false => rw [hcc] at hc; cases hc
          obtain ⟨hck, pr, hSm⟩ := ck_in hyes
          obtain ⟨pk, hpk, gpk⟩ := hv3 _ hSm
          have hnot : s ∉ n.names.take i := fun hm => nodup_at hnd hs hm (Nat.le_refl _) rfl
          have hkey : (Sum.inr s : Key) ∉ kv.map (·.1) := by
            rw [hk]
            intro hm
            obtain ⟨z, hz, e⟩ := List.mem_map.mp hm
            cases Sum.inr.inj e
            exact hnot hz
          have hkl : kv.length ≤ 1000 := by
            have := congrArg List.length hk
            rw [List.length_map, List.length_map, List.length_take] at this
            omega
          walk_at "ss"
          refine ⟨kd, _, rfl, by rw [← hpk]; exact dgetK (eG _ _ g3), ?_⟩
          walk_at "ss"
          refine ⟨cd, _, rfl, .inl ⟨_, .inr s, gcd, rfl, Evl.sz_lt (by omega), rfl⟩, ?_⟩
          rw [putK_fresh hkey]
          walk_at "ss"
          rw [htk]
          have tG : TupK G (upd G cd (.dK (kv ++ [((.inr s : Key), V.ref pk)]))) := tup_dk ExB.upd gcd
          refine ⟨⟨_, _, _, _, _, rfl⟩, Ex.mut eG hcd, by rw [upd_ne (ne_of gnl gcd (fun z => by cases z))]; exact gnl, ⟨_, upd_same, by rw [List.map_append, hk, List.map_append]; rfl, fun z hz => ?_⟩, fun z hz => ?_⟩
          · rcases List.mem_append.mp hz with hz | hz
            · obtain ⟨p5, q5, q6⟩ := hv z hz
              exact ⟨p5, by rw [valV_snoc_old (fun e => hnot (by rw [Sum.inr.inj e]; exact hz))]; exact q5, tG _ _ q6⟩
            · rw [List.mem_singleton.mp hz]
              exact ⟨pk, valV_snoc_new hkey, tG _ _ (eG _ _ gpk)⟩
          · rcases List.mem_append.mp hz with hz | hz
            · exact hall z hz
            · rw [List.mem_singleton.mp hz]
              exact hyes
      · rintro σ' G ⟨⟨v3, v4, v5, v7, v8, rfl⟩, eG, gnl, hC, hall⟩
        walk_at "ss"
        rw [List.length_map, List.take_length] at hC hall
        exact ⟨⟨_, _, _, _, _, rfl⟩, eG, hC, hall⟩
    rintro σ' H5 ⟨⟨v3, v4, v5, v7, v8, rfl⟩, e5, hC5, hall⟩
    have e15 := e13.trans e5
    walk_at "ss"
    refine c_cut (M := fun σ' G => (∃ v3 v4 v5 v7 v8, σ' = [some (.ref a), some (.ref sl), some (.ref kd), v3, v4, v5, some (.ref cd), v7, v8]) ∧ Ex H5 G ∧ ∀ ns, Rw.sm ns ∈ n.rows → ∀ x ∈ ns, ∀ y ∈ ns, ckOf S x = ckOf S y) ?_ ?_
    · walk_at "ss"
      refine ⟨a, _, dx, _, rfl, e15 _ _ ha, rfl, hlk, ?_⟩
      walk_at "ss"
      refine ⟨n, _, rfl, hN.up e15, hg, fun u H6 e6 hT => ?_⟩
      obtain ⟨b, p, q, t, us, rfl, gb, gp, gq, gt, hrw⟩ := hT
      have husl := paired_len hrw
      walk_at "ss"
      refine c_ixT (SqT.of gb) rfl ?_
      refine ⟨t, rfl, ⟨_, SqT.of gt⟩, L2.forT (xs := us) (fun i σ' G => (∃ v3 v4 v5 v7 v8, σ' = [some (.ref a), some (.ref sl), some (.ref kd), v3, v4, v5, some (.ref cd), v7, v8]) ∧ Ex H6 G ∧ ∀ ns, Rw.sm ns ∈ n.rows.take i → ∀ x ∈ ns, ∀ y ∈ ns, ckOf S x = ckOf S y) ⟨⟨_, _, _, _, _, rfl⟩, Ex.refl _, fun ns h => by cases h⟩ (fun i σ' G _ q => SqT.of (q.2.1 _ _ gt)) ?_ ?_⟩
      · rintro i x σ' G hx ⟨⟨v3, v4, v5, v7, v8, rfl⟩, eG, hsm⟩
        obtain ⟨r, hr2, hR⟩ := paired_ix hrw hx
        have hrm := List.mem_of_getElem? hr2
        have htk : n.rows.take (i + 1) = n.rows.take i ++ [r] := by rw [List.take_add_one, hr2]; rfl
        have hnext : (∀ ns, r = .sm ns → ∀ x ∈ ns, ∀ y ∈ ns, ckOf S x = ckOf S y) → ∀ ns, Rw.sm ns ∈ n.rows.take (i + 1) → ∀ x ∈ ns, ∀ y ∈ ns, ckOf S x = ckOf S y := fun h ns hns => by
          rw [htk] at hns
          rcases List.mem_append.mp hns with h1 | h1
          · exact hsm ns h1
          · exact h ns (List.mem_singleton.mp h1).symm
        by_cases hk : r.named = true
        · obtain ⟨b2, xs2, rfl, gb2⟩ := (hR.up eG).hd
          walk_at "ss"
          refine c_ixT (SqT.of gb2) at_hd ?_
          walk_at "ss"
          rw [str_ne (Rw.word_same.mp hk)]
          walk_at "ss"
          exact ⟨⟨_, _, _, _, _, rfl⟩, eG, hnext fun ns e => by rw [e] at hk; cases hk⟩
        · obtain ⟨ns, rfl⟩ : ∃ ns, r = .sm ns := by
            cases r with
            | sm ns => exact ⟨ns, rfl⟩
            | vd k n v x => exact absurd (by rcases k with _ | _ | k <;> rfl) hk
            | _ => exact absurd rfl hk
          obtain ⟨b2, p2, rfl, gb2, gp2⟩ := hR.up eG
          have hgr := (hg.row _ hrm).1
          have hn0 : 0 < ns.length := by have := hgr.1; omega
          have hs0 : ns[0] ∈ ns := List.getElem_mem hn0
          walk_at "ss"
          refine c_ixT (SqT.of gb2) rfl ?_
          walk_at "ss"
          rw [str_eq rfl]
          walk_at "ss"
          refine c_ixT (SqT.of gb2) rfl ?_
          have e16 := e6.trans eG
          have cks : ∀ z ∈ ns, ∃ kv p, H5 cd = some (.dK kv) ∧ valV kv (.inr z) = some (.ref p) ∧ H5 p = some (.tup ((ckOf S z).map V.str)) := fun z hz => by
            obtain ⟨kv, h1, _, h3⟩ := id hC5
            obtain ⟨p, q1, q2⟩ := h3 z (sm_names hg hrm hz)
            exact ⟨kv, p, h1, q1, q2⟩
          have okc : ∀ z ∈ ns, ((ckOf S z).map V.str).all okV = true := fun z hz => by
            obtain ⟨_, pr, hm⟩ := ck_in (hall z (sm_names hg hrm hz))
            exact ok_strs (hok.okc _ hm)
          refine ⟨p2, rfl, ⟨_, SqT.of gp2⟩, L2.forT (xs := ns.map V.str) (fun j σ' G' => (∃ v8, σ' = [some (.ref a), some (.ref sl), some (.ref kd), v3, v4, v5, some (.ref cd), some (.ref b2), v8]) ∧ Ex G G' ∧ ∀ x ∈ ns.take j, ckOf S x = ckOf S ns[0]) ⟨⟨_, rfl⟩, Ex.refl _, fun x h => by cases h⟩ (fun j σ' G' _ q => SqT.of (q.2.1 _ _ gp2)) ?_ ?_⟩
          · rintro j x σ' G' hx ⟨⟨w8, rfl⟩, eG', hj⟩
            rw [List.getElem?_map] at hx
            obtain ⟨z, hz, rfl⟩ := Option.map_eq_some_iff.mp hx
            have hzm := List.mem_of_getElem? hz
            have htj : ns.take (j + 1) = ns.take j ++ [z] := by rw [List.take_add_one, hz]; rfl
            obtain ⟨kv, pz, g7, q7, g8⟩ := cks z hzm
            obtain ⟨kv', p0, g7', q0, g9⟩ := cks _ hs0
            rw [g7] at g7'
            cases g7'
            have e17 := e16.trans eG'
            walk_at "ss"
            refine ⟨cd, _, rfl, by rw [← q7]; exact dgetK (e17 _ _ g7), ?_⟩
            walk_at "ss"
            refine c_ixT (SqT.of (eG' _ _ gb2)) rfl ?_
            walk_at "ss"
            refine c_ixT (SqT.of (eG' _ _ gp2)) (atI_nat (j := 0) (v := V.str ns[0]) (by rw [List.getElem?_map, List.getElem?_eq_getElem hn0]; rfl)) ?_
            refine ⟨cd, _, rfl, by rw [← q0]; exact dgetK (e17 _ _ g7), ?_⟩
            refine c_neT (SqT.of (e17 _ _ g8)) (SqT.of (e17 _ _ g9)) (okc z hzm) (okc _ hs0) ?_
            rw [eqL_dec]
            walk_at "ss"
            by_cases hcc : ckOf S z = ckOf S ns[0]
            · refine if_ff (by rw [decide_eq_true hcc]; rfl) ?_
              walk_at "ss"
              refine ⟨⟨_, rfl⟩, eG', fun x hx => ?_⟩
              rw [htj] at hx
              rcases List.mem_append.mp hx with h | h
              · exact hj x h
              · rw [List.mem_singleton.mp h]; exact hcc
            · refine if_tt (by rw [decide_eq_false hcc]; rfl) ?_
              walk_at "ss"
              refine c_ixT (SqT.of (eG' _ _ gb2)) rfl ?_
              walk_at "ss"
              refine c_ixT (SqT.of (eG' _ _ gp2)) (atI_nat (j := 0) (v := V.str ns[0]) (by rw [List.getElem?_map, List.getElem?_eq_getElem hn0]; rfl)) ?_
              walk_at "ss"
              refine newT fun pp G7 hpp e7 g10 => ?_
              walk_at "ss"
              obtain ⟨_, pa, hma⟩ := ck_in (hall z (sm_names hg hrm hzm))
              obtain ⟨_, pb, hmb⟩ := ck_in (hall _ (sm_names hg hrm hs0))
              have eH := (e15.trans e17).trans e7
              refine raise1 fun x G8 hx2 e8 g11 => ?_
              refine kS S ns[0] z x pp G8 hok hcl hall (.same hok.stps hrm hs0 hzm (fun e => hcc (by rw [e])) hmb hma (fun e => hcc e.symm)) (sm_names hg hrm hs0) (sm_names hg hrm hzm) (fresh_back eH hx2) (eH.trans e8) g11 ⟨sl, e8 _ _ g10, ?_⟩
              exact hSt.up ((e2.trans (e3.trans e5)).trans (e17.trans (e7.trans e8)))
          · rintro σ' G' ⟨⟨w8, rfl⟩, eG', hj⟩
            walk_at "ss"
            rw [List.length_map, List.take_length] at hj
            exact ⟨⟨_, _, _, _, _, rfl⟩, eG.trans eG', hnext fun ns' e x hx y hy => by
              cases e
              rw [hj x hx, hj y hy]⟩
      · rintro σ' G ⟨⟨v3, v4, v5, v7, v8, rfl⟩, eG, hsm⟩
        walk_at "ss"
        rw [← husl, List.take_length] at hsm
        exact ⟨⟨_, _, _, _, _, rfl⟩, e6.trans eG, hsm⟩
    rintro σ' H6 ⟨⟨v3, v4, v5, v7, v8, rfl⟩, e6, hsm⟩
    walk_at "ss"
    refine newT fun q H7 hq e7 g7 => ?_
    have e16 := (e15.trans e6).trans e7
    exact kY S q sl cd H7 hok hcl hall hsm (fresh_back (e15.trans e6) hq) hsl hcdH e16 g7 (hSt.up ((e2.trans (e3.trans e5)).trans (e6.trans e7))) (hC5.upC (e6.trans e7))
def CoYes (n : Nd) (H : Hp) (Q : VK) : Prop := ∀ S cd H2, SOk n S → Closed n.ins n.rows (clkOf S) → (∀ s ∈ n.names, s ∈ S.map (·.1)) → (∀ ns, Rw.sm ns ∈ n.rows → ∀ a ∈ ns, ∀ b ∈ ns, ckOf S a = ckOf S b) → H cd = none → Ex H H2 → CksAt H2 cd n.names (ckOf S) → Q (.ref cd) H2
def sp_clocks_ofX (Z : Adr) : Sp := fun vs H Q E => ∃ n v, vs = [v] ∧ NdAt Z H n v ∧ n.good ∧ n.nocalls ∧ CoYes n H Q ∧ StNo Z n H E ∧ FtNoC Z n H E ∧ FtNoS Z n H E
theorem okX_clocks_of (T : Txt K mg Z) : FnOk P w K mg base (L2N.CX P w) 13 Z.f_clocks_of Z.fd_clocks_of ["node"] (sp_clocks_ofX Z) := by
  have GX_fitted := okX_fitted (P := P) (w := w) (base := base) T
  refine T.F_clocks_of.okN sc_clocks_of (fun vs H Q E h => ?_) (fun cdv AA outer s H vs Q E hr h => ?_)
  · obtain ⟨n, v, rfl, _⟩ := h
    rfl
  · obtain ⟨n, v, rfl, hN, hg, hnc, kY, kN, kC, kS⟩ := h
    refine ⟨_, (pss_one (ps_ret (pe_ix ix_tup (pe_call GX_fitted (hr.mono (by omega)) rfl T.g_fitted T.F_fitted.kp T.b_fitted .nil (passH (L2N.takes_of rfl rfl rfl rfl) (fun _ _ _ _ h => h)) (pa_cons (pv 0) pa_nil)) pe_int (fun _ _ => rfl)))), ?_⟩
    walk_at "ss"
    refine ⟨n, _, rfl, hN, hg, hnc, ?_, kN, kC, kS⟩
    rintro S q sl cd H2 hok hcl hall hsm hq hsl hcd e2 g2 hSt hC
    walk_at "ss"
    exact c_ixT (SqT.of g2) rfl (kY S cd H2 hok hcl hall hsm hcd e2 hC)

/-! ### names that are drawn: good ones, all unlike -/
open TL (tl)
def nm4 (l z s d : Nat) : List Nat := (97 + l) :: (List.replicate z 122 ++ ((match s with | 0 => [] | 1 => [120] | _ => [120, 121]) ++ (match d with | 0 => [] | _ => [46, 98])))
def dec4 (xs : List Nat) : Nat × Nat := (xs.headD 0 - 97, ((xs.drop 1).takeWhile (· == 122)).length)
def nm4_ok (l z s d : Nat) : Bool := isPointed ⟨(nm4 l z s d).toArray⟩ && decide ((nm4 l z s d).length ≤ 80) && (nm4 l z s d).all (fun c => decide (c < 1114112)) && decide (dec4 (nm4 l z s d) = (l, z))
theorem nm4_all : ((List.range 26).all fun l => (List.range 3).all fun z => (List.range 3).all fun s => (List.range 2).all fun d => nm4_ok l z s d) = true := by decide +kernel
theorem nm4_at {l z s d : Nat} (hl : l < 26) (hz : z < 3) (hs : s < 3) (hd : d < 2) : nm4_ok l z s d = true :=
  List.all_eq_true.mp (List.all_eq_true.mp (List.all_eq_true.mp (List.all_eq_true.mp nm4_all l (List.mem_range.mpr hl)) z (List.mem_range.mpr hz)) s (List.mem_range.mpr hs)) d (List.mem_range.mpr hd)
def nmd (w k : Nat) : Nat := if w = 2 ∧ k % 5 = 4 then 1 else 0
def nmK (f w k : Nat) : List Nat := nm4 ((f + 7 * k) % 26) (k / 26) (k * w % 3) (nmd w k)
theorem nmK_ok {f w k : Nat} (hk : k < 61) : nm4_ok ((f + 7 * k) % 26) (k / 26) (k * w % 3) (nmd w k) = true := nm4_at (by omega) (by omega) (by omega) (by unfold nmd; split <;> omega)
theorem nmK_inj {f w k j : Nat} (hk : k < 61) (hj : j < 61) (h : nmK f w k = nmK f w j) : k = j := by
  have h1 := nmK_ok (f := f) (w := w) hk
  have h2 := nmK_ok (f := f) (w := w) hj
  unfold nm4_ok at h1 h2
  rw [Bool.and_eq_true, decide_eq_true_eq] at h1 h2
  have e1 := h1.2
  have e2 := h2.2
  unfold nmK at h
  rw [h] at e1
  rw [e1] at e2
  have a1 := congrArg Prod.fst e2
  have a2 := congrArg Prod.snd e2
  have a1 : (f + 7 * k) % 26 = (f + 7 * j) % 26 := a1
  have a2 : k / 26 = j / 26 := a2
  omega
def nm4_okQ (l z s d : Nat) : Bool := isPointed ⟨(nm4 l z s d ++ [113]).toArray⟩ && decide ((nm4 l z s d ++ [113]).length ≤ 80) && (nm4 l z s d ++ [113]).all (fun c => decide (c < 1114112)) && decide (nm4 l z s d ≠ [113, 113])
theorem nm4_allQ : ((List.range 26).all fun l => (List.range 3).all fun z => (List.range 3).all fun s => (List.range 2).all fun d => nm4_okQ l z s d) = true := by decide +kernel
theorem nm4_atQ {l z s d : Nat} (hl : l < 26) (hz : z < 3) (hs : s < 3) (hd : d < 2) : nm4_okQ l z s d = true :=
  List.all_eq_true.mp (List.all_eq_true.mp (List.all_eq_true.mp (List.all_eq_true.mp nm4_allQ l (List.mem_range.mpr hl)) z (List.mem_range.mpr hz)) s (List.mem_range.mpr hs)) d (List.mem_range.mpr hd)
theorem str_tl {s : Str} {xs : List Nat} (h : tl s = xs) : s = ⟨xs.toArray⟩ := by
  cases s with
  | mk a => rw [← h]
theorem nmK_good {f w k : Nat} (hk : k < 61) {s : Str} (h : tl s = nmK f w k) : goodN s := by
  have h1 := nmK_ok (f := f) (w := w) hk
  unfold nm4_ok at h1
  rw [Bool.and_eq_true, Bool.and_eq_true, Bool.and_eq_true, decide_eq_true_eq] at h1
  refine ⟨?_, ?_, fun c hc => ?_⟩
  · rw [str_tl h]; exact h1.1.1.1
  · rw [← tl_len, h]; exact h1.1.1.2
  · rw [h] at hc
    exact of_decide_eq_true (List.all_eq_true.mp h1.1.2 c hc)
/-- a name that may have a q behind it, and isn't qq -/
def nmQ (s : Str) : Prop := goodN (s ++ "q") ∧ s ≠ "qq"
theorem nmK_goodQ {f w k : Nat} (hk : k < 61) {s : Str} (h : tl s = nmK f w k) : nmQ s := by
  have h1 := nm4_atQ (l := (f + 7 * k) % 26) (z := k / 26) (s := k * w % 3) (d := nmd w k) (by omega) (by omega) (by omega) (by unfold nmd; split <;> omega)
  unfold nm4_okQ at h1
  rw [Bool.and_eq_true, Bool.and_eq_true, Bool.and_eq_true, decide_eq_true_eq] at h1
  have e : tl (s ++ "q") = nmK f w k ++ [113] := by
    rw [TL.tl_append, h]
    rfl
  refine ⟨⟨?_, ?_, fun c hc => ?_⟩, fun z => ?_⟩
  · rw [str_tl e]; exact h1.1.1.1
  · rw [← tl_len, e]; exact h1.1.1.2
  · rw [e] at hc
    exact of_decide_eq_true (List.all_eq_true.mp h1.1.2 c hc)
  · refine of_decide_eq_true h1.2 ?_
    show nmK f w k = _
    rw [← h, z]
    rfl
theorem names_of_tl {f w n : Nat} (hn : n ≤ 61) {ns : List Str} (h : ns.map tl = (List.range n).map (nmK f w)) : ns.length = n ∧ ns.Nodup ∧ ∀ s ∈ ns, goodN s ∧ nmQ s := by
  have hl : ns.length = n := by
    have := congrArg List.length h
    rwa [List.length_map, List.length_map, List.length_range] at this
  have hat : ∀ (i : Nat) (hi : i < ns.length), tl ns[i] = nmK f w i := fun i hi => by
    have := congrArg (fun l => l[i]?) h
    simp only [List.getElem?_map] at this
    rw [List.getElem?_eq_getElem hi, List.getElem?_range (by omega)] at this
    exact Option.some.inj this
  refine ⟨hl, ?_, fun s hs => ?_⟩
  · rw [List.Nodup, List.pairwise_iff_getElem]
    intro i j hi hj hij e
    have := nmK_inj (f := f) (w := w) (k := i) (j := j) (by omega) (by omega) (by rw [← hat i hi, ← hat j hj, e])
    omega
  · obtain ⟨i, hi, rfl⟩ := List.mem_iff_getElem.mp hs
    exact ⟨nmK_good (by omega) (hat i hi), nmK_goodQ (by omega) (hat i hi)⟩
theorem let_all : ((List.range 26).all fun j => decide (atI (tl "abcdefghijklmnopqrstuvwxyz") (j : Int) = some (97 + j))) = true := by decide +kernel
theorem let_atJ {j : Nat} (h : j < 26) : atI (tl "abcdefghijklmnopqrstuvwxyz") (j : Int) = some (97 + j) := of_decide_eq_true (List.all_eq_true.mp let_all j (List.mem_range.mpr h))
theorem rep_z {z : Nat} (h : z < 3) : tl (repS "z" z) = List.replicate z 122 := by
  have : z = 0 ∨ z = 1 ∨ z = 2 := by omega
  rcases this with rfl | rfl | rfl <;> decide +kernel
def sp_named_all_l : Sp := fun vs H Q _ => ∃ (b : Addr) (n : Nat), vs = [.ref b, .int (n : Nat)] ∧ BoxAt H b ∧ n ≤ 61 ∧ ∀ (ns : List Str) p H2, ns.length = n → ns.Nodup → (∀ s ∈ ns, goodN s ∧ nmQ s) → H p = none → ExB b H H2 → BoxAt H2 b → H2 p = some (.lst (ns.map V.str)) → Q (.ref p) H2
theorem at3s {d : Int} (h0 : 0 ≤ d) (h1 : d < 3) : ∃ t : Str, atI [V.str "", .str "x", .str "xy"] d = some (.str t) ∧ t.length ≤ 2 ∧ tl t = (match d.toNat with | 0 => [] | 1 => [120] | _ => [120, 121]) := by
  have : d = 0 ∨ d = 1 ∨ d = 2 := by omega
  rcases this with rfl | rfl | rfl
  · exact ⟨_, rfl, by decide +kernel, by decide +kernel⟩
  · exact ⟨_, rfl, by decide +kernel, by decide +kernel⟩
  · exact ⟨_, rfl, by decide +kernel, by decide +kernel⟩
theorem fresh_xb {H G : Hp} {b p : Addr} (e : ExB b H G) (hp : G p = none) (hB : BoxAt G b) : H p = none := by
  cases h : H p with
  | none => rfl
  | some o =>
    have npb : p ≠ b := by
      obtain ⟨ob, hob⟩ := hB.some
      exact (ne_of_none hob hp).symm
    have := e p o npb h
    rw [hp] at this
    cases this
theorem nms_snoc {ns : List Str} {f w i : Nat} (hns : ns.map tl = (List.range i).map (nmK f w)) {t3 t5 : Str} (hz : tl (repS "z" (i / 26)) = List.replicate (i / 26) 122) (h3 : tl t3 = (match i * w % 3 with | 0 => [] | 1 => [120] | _ => [120, 121])) (h5 : tl t5 = (match nmd w i with | 0 => [] | _ => [46, 98])) :
    (ns ++ [((⟨#[97 + (f + 7 * i) % 26]⟩ ++ repS "z" (i / 26)) ++ t3) ++ t5]).map tl = (List.range (i + 1)).map (nmK f w) := by
  rw [List.map_append, hns, List.range_succ, List.map_append]
  congr 1
  show [tl (((⟨#[97 + (f + 7 * i) % 26]⟩ ++ repS "z" (i / 26)) ++ t3) ++ t5)] = [nmK f w i]
  rw [TL.tl_append, TL.tl_append, TL.tl_append, hz, h3, h5]
  unfold nmK nm4
  rw [List.append_assoc, List.append_assoc]
  rfl
theorem ok_named_all_l (T : Txt K mg Z) : FnOk P w K mg base CX0 2 Z.f_named_all_l Z.fd_named_all_l ["_law_well", "_law_many"] sp_named_all_l := by
  have G_draw_l := ok_draw_l (P := P) (w := w) (base := base) T
  refine T.F_named_all_l.ok sc_named_all_l (fun vs H Q E h => ?_) (fun cdv AA outer s H vs Q E hr h => ?_)
  · obtain ⟨b, n, rfl, _⟩ := h
    rfl
  · obtain ⟨b, n, rfl, hB, hn, k⟩ := h
    refine ⟨_, (pss_cons (ps_set (i := 2) sc_named_all_l.nd rfl (Or.inl rfl) pe_str)
      (pss_cons (ps_set (i := 3) sc_named_all_l.nd rfl (Or.inl rfl) (pe_call G_draw_l (hr.mono (by omega)) rfl T.g_draw_l T.F_draw_l.kp T.b_draw_l .nil pass0 (pa_cons (pv 0) (pa_cons pe_int pa_nil))))
      (pss_cons (ps_set (i := 4) sc_named_all_l.nd rfl (Or.inl rfl) (pe_call G_draw_l (hr.mono (by omega)) rfl T.g_draw_l T.F_draw_l.kp T.b_draw_l .nil pass0 (pa_cons (pv 0) (pa_cons pe_int pa_nil))))
      (pss_cons (ps_set (i := 5) sc_named_all_l.nd rfl (Or.inl rfl) (pe_lst pa_nil))
      (pss_cons (ps_for PassesOwn.never rfl (pi_range1 (by rfl) T.n_range (pa_cons (pv 1) pa_nil)) (pg_name (i := 6) sc_named_all_l.nd rfl (Or.inl rfl)) (pss_cons (ps_set (i := 7) sc_named_all_l.nd rfl (Or.inl rfl) (pe_op op_add_str (pe_op op_add_str (pe_ix ix_str (pv 2) (pe_op op_mod (pe_op op_add (pv 3) (pe_op op_mul pe_int (pv 6))) pe_int) (fun _ _ => rfl)) (pe_op op_rep_strA pe_str (pe_op op_fdiv (pv 6) pe_int))) (pe_ix ix_list (pe_lst (pa_cons pe_str (pa_cons pe_str (pa_cons pe_str pa_nil)))) (pe_op op_mod (pe_op op_mul (pv 6) (pv 4)) pe_int) (fun _ _ => rfl))))
      (pss_one (ps_expr (pe_bm PySem.F.plainAttrs_list PySem.F.slot_list_append PySem.F.type_list_append mt_append (pv 5) (pa_cons (pe_op op_add_str (pv 7) (pe_op op_rep_str01 pe_str (pe_callTy call_int1 (by rfl) T.n_int (by decide +kernel) (pa_cons (pe_and (pe_cmpR op_eq (pv 4) pe_int (nomark _)) (pe_one (pe_cmpR op_eq (pe_op op_mod (pv 6) pe_int) pe_int (nomark _)))) pa_nil)))) pa_nil))))))
      (pss_one (ps_ret (pv 5)))))))), ?_⟩
    walk_at "ss"
    refine ⟨b, 26, rfl, hB, by decide, by decide, fun f0 H1 f1 f2 x1 b1 => ?_⟩
    obtain ⟨f, rfl⟩ := Int.eq_ofNat_of_zero_le f1
    walk_at "ss"
    refine ⟨b, 3, rfl, b1, by decide, by decide, fun w0 H2 w1 w2 x2 b2 => ?_⟩
    obtain ⟨wy, rfl⟩ := Int.eq_ofNat_of_zero_le w1
    walk_at "ss"
    refine newL fun fd H3 hfd e3 g3 => ?_
    have X3 : ExB b H H3 := x1.trans (x2.trans (ExB.of e3))
    have B3 := b2.up e3
    have hfdH : H fd = none := fresh_xb (x1.trans x2) hfd b2
    walk_at "ss"
    refine ⟨by omega, by omega, ?_⟩
    refine forR (fun i σ' G => (∃ v6 v7, σ' = [some (.ref b), some (.int (n : Nat)), some (.str "abcdefghijklmnopqrstuvwxyz"), some (.int (f : Nat)), some (.int (wy : Nat)), some (.ref fd), v6, v7]) ∧ ExB b H G ∧ BoxAt G b ∧ ∃ ns : List Str, ns.map tl = (List.range i).map (nmK f wy) ∧ G fd = some (.lst (ns.map V.str))) ⟨⟨_, _, rfl⟩, X3, B3, [], rfl, g3⟩ ?_ ?_
    · rintro i σ' G hi ⟨⟨v6, v7, rfl⟩, xG, bG, ns, hns, gf⟩
      have hi : i < n := by omega
      have hnl : ns.length = i := by
        have := congrArg List.length hns
        rwa [List.length_map, List.length_map, List.length_range] at this
      walk_at "ss"
      refine c_I (.inl ⟨by decide, by decide⟩) ?_
      walk_at "ss"
      refine c_I (by decide) ?_
      have hat := let_atJ (j := (f + 7 * i) % 26) (by omega)
      rw [show (((f + 7 * i) % 26 : Nat) : Int) = ((f : Int) + 7 * (i : Int)) % 26 by omega] at hat
      refine c_ixS (by decide +kernel) hat ?_
      walk_at "ss"
      refine c_I ⟨by decide, by decide⟩ ?_
      walk_at "ss"
      refine ⟨"z", (i : Int) / 26, rfl, rfl, by omega, by omega, by decide +kernel, by decide +kernel, ?_⟩
      rw [show ((i : Int) / 26).toNat = i / 26 by omega]
      have hrz := rep_z (z := i / 26) (by omega)
      have hrl : (repS "z" (i / 26)).length ≤ 2 := by rw [← tl_len, hrz, List.length_replicate]; omega
      refine ⟨_, _, rfl, rfl, Evl.sz_of (by show 1 + _ ≤ _; omega), ?_⟩
      walk_at "ss"
      refine newL fun q1 G1 hq1 f1' g1 => ?_
      walk_at "ss"
      refine c_I (.inl ⟨by omega, by omega⟩) ?_
      walk_at "ss"
      refine c_I (by decide) ?_
      obtain ⟨t3, ht3, hl3, htl3⟩ := at3s (d := (i : Int) * (wy : Int) % 3) (Int.emod_nonneg _ (by decide)) (Int.emod_lt_of_pos _ (by decide))
      have e3w : ((i : Int) * (wy : Int) % 3).toNat = i * wy % 3 := by
        rw [← Int.natCast_mul, show ((i * wy : Nat) : Int) % 3 = ((i * wy % 3 : Nat) : Int) by omega]
        rfl
      rw [e3w] at htl3
      refine c_ixL (SqL.of g1) ht3 ?_
      refine ⟨_, _, rfl, rfl, Evl.sz_of (by rw [Str.length_append, show (Str.mk #[97 + (f + 7 * i) % 26]).length = 1 from rfl]; omega), ?_⟩
      walk_at "ss"
      have gf1 := f1' _ _ gf
      have hlen : (({ cps := #[97 + (f + 7 * i) % 26] } ++ repS "z" (i / 26) ++ t3 : Str)).length ≤ 5 := by
        rw [Str.length_append, Str.length_append, show (Str.mk #[97 + (f + 7 * i) % 26]).length = 1 from rfl]
        omega
      have fin : ∀ (t5 : Str) (σ2 : L2.St), tl t5 = (match nmd wy i with | 0 => [] | _ => [46, 98]) → (∃ v6 v7, σ2 = [some (.ref b), some (.int (n : Nat)), some (.str "abcdefghijklmnopqrstuvwxyz"), some (.int (f : Nat)), some (.int (wy : Nat)), some (.ref fd), v6, v7]) →
          (∃ v6 v7, σ2 = [some (.ref b), some (.int (n : Nat)), some (.str "abcdefghijklmnopqrstuvwxyz"), some (.int (f : Nat)), some (.int (wy : Nat)), some (.ref fd), v6, v7]) ∧ ExB b H (upd G1 fd (.lst (ns.map V.str ++ [V.str (({ cps := #[97 + (f + 7 * i) % 26] } ++ repS "z" (i / 26) ++ t3) ++ t5)]))) ∧ BoxAt (upd G1 fd (.lst (ns.map V.str ++ [V.str (({ cps := #[97 + (f + 7 * i) % 26] } ++ repS "z" (i / 26) ++ t3) ++ t5)]))) b ∧ ∃ ns2 : List Str, ns2.map tl = (List.range (i + 1)).map (nmK f wy) ∧ upd G1 fd (.lst (ns.map V.str ++ [V.str (({ cps := #[97 + (f + 7 * i) % 26] } ++ repS "z" (i / 26) ++ t3) ++ t5)])) fd = some (.lst (ns2.map V.str)) := fun t5 σ2 h5 hσ => by
        have nbf : b ≠ fd := by
          obtain ⟨ob, hob⟩ := b2.some
          exact ne_of_none hob hfd
        exact ⟨hσ, exB_put (xG.trans (ExB.of f1')) hfdH, box_put (bG.up f1') nbf, _, nms_snoc hns hrz htl3 h5, by rw [upd_same, List.map_append]; rfl⟩
      refine ⟨.inl ⟨rfl, _, SqL.of gf1⟩, ?_⟩
      walk_at "ss"
      refine if_cs (fun c1 => ?_) (fun c1 => ?_)
      · have hw2 : wy = 2 := by
          have := V.int.inj (of_decide_eq_true c1)
          omega
        walk_at "ss"
        refine c_I (by decide) ?_
        walk_at "ss"
        refine .inr ⟨_, rfl, ?_⟩
        by_cases h5 : i % 5 = 4
        · rw [decide_eq_true (show V.int ((i : Int) % 5) = V.int 4 by rw [show (i : Int) % 5 = 4 by omega])]
          refine ⟨".b", 1, rfl, rfl, .inr ⟨rfl, ?_⟩⟩
          refine ⟨_, _, rfl, rfl, Evl.sz_of (by rw [show (Str.ofString ".b").length = 2 from by decide +kernel]; omega), ?_⟩
          walk_at "ss"
          refine ⟨fd, _, _, rfl, rfl, gf1, Evl.sz_lt (by rw [List.length_map]; omega), ?_⟩
          walk_at "ss"
          exact fin ".b" _ (by unfold nmd; rw [if_pos ⟨hw2, h5⟩]; decide +kernel) ⟨_, _, rfl⟩
        · rw [decide_eq_false (show ¬V.int ((i : Int) % 5) = V.int 4 by intro z; have := V.int.inj z; omega)]
          refine ⟨".b", 0, rfl, rfl, .inl ⟨rfl, ?_⟩⟩
          refine ⟨_, _, rfl, rfl, Evl.sz_of (by rw [show Str.empty.length = 0 from by decide +kernel]; omega), ?_⟩
          walk_at "ss"
          refine ⟨fd, _, _, rfl, rfl, gf1, Evl.sz_lt (by rw [List.length_map]; omega), ?_⟩
          walk_at "ss"
          exact fin Str.empty _ (by unfold nmd; rw [if_neg (fun z => h5 z.2)]; decide +kernel) ⟨_, _, rfl⟩
      · have hw2 : wy ≠ 2 := fun z => by
          subst z
          exact absurd rfl (of_decide_eq_false c1)
        walk_at "ss"
        refine .inr ⟨_, rfl, ?_⟩
        refine ⟨".b", 0, rfl, rfl, .inl ⟨rfl, ?_⟩⟩
        refine ⟨_, _, rfl, rfl, Evl.sz_of (by rw [show Str.empty.length = 0 from by decide +kernel]; omega), ?_⟩
        walk_at "ss"
        refine ⟨fd, _, _, rfl, rfl, gf1, Evl.sz_lt (by rw [List.length_map]; omega), ?_⟩
        walk_at "ss"
        exact fin Str.empty _ (by unfold nmd; rw [if_neg (fun z => hw2 z.1)]; decide +kernel) ⟨_, _, rfl⟩
    · rintro σ' G ⟨⟨v6, v7, rfl⟩, xG, bG, ns, hns, gf⟩
      obtain ⟨h1, h2, h3⟩ := names_of_tl hn hns
      walk_at "ss"
      exact k ns fd G h1 h2 h3 hfdH xG bG gf

/-! ### values and terms that are drawn -/
open TL (tl)
def sp_some_value_l : Sp := fun vs H Q _ => ∃ (b : Addr), vs = [.ref b] ∧ BoxAt H b ∧ ∀ v H2, isVal v = true → ExB b H H2 → BoxAt H2 b → Q v H2
theorem val_int {i : Int} (a : -1000000000 ≤ i) (b : i ≤ 1000000000) : isVal (.int i) = true := by
  show (decide (-1000000000 ≤ i) && decide (i ≤ 1000000000)) = true
  rw [decide_eq_true a, decide_eq_true b]
  rfl
theorem val6k {d1 d : Int} (h10 : 0 ≤ d1) (h11 : d1 < 20) (h0 : 0 ≤ d) (h1 : d < 6) : ∃ v, atI [.int 0, .bl true, .bl false, .int (-7), .int (10 ^ Int.toNat 9), .int d1] d = some v ∧ isVal v = true := by
  have : d = 0 ∨ d = 1 ∨ d = 2 ∨ d = 3 ∨ d = 4 ∨ d = 5 := by omega
  rcases this with rfl | rfl | rfl | rfl | rfl | rfl
  · exact ⟨_, rfl, rfl⟩
  · exact ⟨_, rfl, rfl⟩
  · exact ⟨_, rfl, rfl⟩
  · exact ⟨_, rfl, rfl⟩
  · exact ⟨_, rfl, rfl⟩
  · exact ⟨_, rfl, val_int (by omega) (by omega)⟩
theorem fresh_nb {b p : Addr} {H : Hp} (hB : BoxAt H b) (h : H p = none) : p ≠ b := by
  obtain ⟨o, ho⟩ := hB.some
  exact (ne_of_none ho h).symm
theorem ok_some_value_l (T : Txt K mg Z) : FnOk P w K mg base CX0 2 Z.f_some_value_l Z.fd_some_value_l ["_law_well"] sp_some_value_l := by
  have G_draw_l := ok_draw_l (P := P) (w := w) (base := base) T
  refine T.F_some_value_l.ok sc_some_value_l (fun vs H Q E h => ?_) (fun cdv AA outer s H vs Q E hr h => ?_)
  · obtain ⟨b, rfl, _⟩ := h
    rfl
  · obtain ⟨b, rfl, hB, k⟩ := h
    refine ⟨_, (pss_one (ps_ret (pe_ix ix_list (pe_lst (pa_cons pe_int (pa_cons pe_bl (pa_cons pe_bl (pa_cons (pe_un un_neg pe_int) (pa_cons (pe_op op_pow pe_int pe_int) (pa_cons (pe_call G_draw_l (hr.mono (by omega)) rfl T.g_draw_l T.F_draw_l.kp T.b_draw_l .nil pass0 (pa_cons (pv 0) (pa_cons pe_int pa_nil))) pa_nil))))))) (pe_call G_draw_l (hr.mono (by omega)) rfl T.g_draw_l T.F_draw_l.kp T.b_draw_l .nil pass0 (pa_cons (pv 0) (pa_cons pe_int pa_nil))) (fun _ _ => rfl)))), ?_⟩
    walk_at "ss"
    refine c_I ⟨by decide, by decide, by decide⟩ ?_
    walk_at "ss"
    refine ⟨b, 20, rfl, hB, by decide, by decide, fun d1 H1 h10 h11 x1 b1 => ?_⟩
    walk_at "ss"
    refine newL fun vl H3 hvl e3 g3 => ?_
    walk_at "ss"
    refine ⟨b, 6, rfl, b1.up e3, by decide, by decide, fun d H4 h0 h1 x4 b4 => ?_⟩
    obtain ⟨v, hv, hval⟩ := val6k h10 h11 h0 h1
    refine c_ixL (SqL.of (x4 _ _ (fresh_nb b1 hvl) g3)) hv ?_
    exact k v H4 hval (x1.trans ((ExB.of e3).trans x4)) b4
/-! terms -/
/-- a term over some names -/
def TmX (ns : List Str) (d : Nat) (t : Tm) : Prop := t.good ∧ t.dep ≤ d ∧ ∀ s ∈ t.flat, s ∈ ns
/-- .. in which some name stands -/
def TmIn (ns : List Str) (d : Nat) (t : Tm) : Prop := TmX ns d t ∧ t.flat ≠ []
section
variable {ns : List Str} {d e : Nat} {t a b c : Tm}
theorem TmX.mono (h : TmX ns d t) (hd : d ≤ e) : TmX ns e t := ⟨h.1, Nat.le_trans h.2.1 hd, h.2.2⟩
theorem TmIn.mono (h : TmIn ns d t) (hd : d ≤ e) : TmIn ns e t := ⟨h.1.mono hd, h.2⟩
theorem tm_vl {v : V} (h : isVal v = true) (hd : 1 ≤ d) : TmX ns d (.vl v) := ⟨h, hd, fun s hs => by cases hs⟩
theorem tm_nm {s : Str} (h : goodN s) (hs : s ∈ ns) : TmIn ns 1 (.nm s) := ⟨⟨h, Nat.le_refl _, fun z hz => by rw [List.mem_singleton.mp hz]; exact hs⟩, fun z => by cases z⟩
theorem tm_nt (h : TmIn ns d t) : TmIn ns (d + 1) (.nt t) := ⟨⟨h.1.1, by have := h.1.2.1; simp only [Tm.dep]; omega, h.1.2.2⟩, h.2⟩
theorem tm_two {op : Str} (ho : op ∈ opsW) (ha : TmX ns d a) (hb : TmX ns d b) (hne : a.flat ++ b.flat ≠ []) : TmIn ns (d + 1) (.two op a b) :=
  ⟨⟨⟨ho, ha.1, hb.1⟩, by have := ha.2.1; have := hb.2.1; simp only [Tm.dep]; omega, fun s hs => (List.mem_append.mp hs).elim (ha.2.2 s) (hb.2.2 s)⟩, hne⟩
theorem tm_pk (hc : TmX ns d c) (ha : TmX ns d a) (hb : TmX ns d b) (hne : c.flat ++ a.flat ++ b.flat ≠ []) : TmIn ns (d + 1) (.pk c a b) :=
  ⟨⟨⟨hc.1, ha.1, hb.1⟩, by have := hc.2.1; have := ha.2.1; have := hb.2.1; simp only [Tm.dep]; omega, fun s hs => (List.mem_append.mp hs).elim (fun h => (List.mem_append.mp h).elim (hc.2.2 s) (ha.2.2 s)) (hb.2.2 s)⟩, hne⟩
theorem app_ne1 {l m : List Str} (h : l ≠ []) : l ++ m ≠ [] := fun z => h (List.append_eq_nil_iff.mp z).1
theorem app_ne2 {l m : List Str} (h : m ≠ []) : l ++ m ≠ [] := fun z => h (List.append_eq_nil_iff.mp z).2
end
theorem cutv_drop {l : List V} {i : Nat} : cutV l (some (i : Int)) none = l.drop i := by
  unfold cutV
  rw [HT.sIx_none, HT.sIx_nat]
  rcases Nat.le_total i l.length with h | h
  · rw [Nat.min_eq_left h, List.take_of_length_le (by rw [List.length_drop]; omega)]
  · rw [Nat.min_eq_right h, List.drop_of_length_le (Nat.le_refl _), List.drop_of_length_le h]
    simp
theorem op9 {d : Int} (h0 : 0 ≤ d) (h1 : d < 9) : ∃ op : Str, atI [V.str "+", .str "-", .str "*", .str "/", .str "mod", .str "<", .str "=", .str "&", .str "|"] d = some (.str op) ∧ op ∈ opsW := by
  have : d = 0 ∨ d = 1 ∨ d = 2 ∨ d = 3 ∨ d = 4 ∨ d = 5 ∨ d = 6 ∨ d = 7 ∨ d = 8 := by omega
  rcases this with rfl | rfl | rfl | rfl | rfl | rfl | rfl | rfl | rfl
  all_goals exact ⟨_, rfl, by decide +kernel⟩
theorem wrap6 {G : Hp} {ns : List Str} {e : Nat} {t : Tm} {u uv w0 w1 w2 w3 w4 w5 : V} {v : V} {a0 a1 a2 a3 a4 a5 : Addr} (ht : TmIn ns e t) (he : 1 ≤ e) (hv : isVal v = true) (hT : ToldAt G t u) (hV : ToldAt G (.vl v) uv)
    (g0 : w0 = .ref a0 ∧ G a0 = some (.tup [.str "not", u])) (g1 : w1 = .ref a1 ∧ G a1 = some (.tup [.str "pick", u, uv, uv])) (g2 : w2 = .ref a2 ∧ G a2 = some (.tup [.str "pick", uv, u, uv])) (g3 : w3 = .ref a3 ∧ G a3 = some (.tup [.str "pick", uv, uv, u])) (g4 : w4 = .ref a4 ∧ G a4 = some (.tup [.str "two", .str "+", uv, u])) (g5 : w5 = .ref a5 ∧ G a5 = some (.tup [.str "two", .str "-", u, uv])) {d : Int} (h0 : 0 ≤ d) (h1 : d < 6) :
    ∃ t' u', atI [w0, w1, w2, w3, w4, w5] d = some u' ∧ TmIn ns (e + 1) t' ∧ ToldAt G t' u' := by
  have X := ht.1
  have Y : TmX ns e (.vl v) := tm_vl hv he
  have : d = 0 ∨ d = 1 ∨ d = 2 ∨ d = 3 ∨ d = 4 ∨ d = 5 := by omega
  rcases this with rfl | rfl | rfl | rfl | rfl | rfl
  · exact ⟨.nt t, _, rfl, tm_nt ht, a0, u, g0.1, g0.2, hT⟩
  · exact ⟨.pk t (.vl v) (.vl v), _, rfl, tm_pk X Y Y (app_ne1 (app_ne1 ht.2)), a1, u, uv, uv, g1.1, g1.2, hT, hV, hV⟩
  · exact ⟨.pk (.vl v) t (.vl v), _, rfl, tm_pk Y X Y (app_ne1 (app_ne2 ht.2)), a2, uv, u, uv, g2.1, g2.2, hV, hT, hV⟩
  · exact ⟨.pk (.vl v) (.vl v) t, _, rfl, tm_pk Y Y X (app_ne2 ht.2), a3, uv, uv, u, g3.1, g3.2, hV, hV, hT⟩
  · exact ⟨.two "+" (.vl v) t, _, rfl, tm_two (by decide +kernel) Y X (app_ne2 ht.2), a4, uv, u, g4.1, g4.2, hV, hT⟩
  · exact ⟨.two "-" t (.vl v), _, rfl, tm_two (by decide +kernel) X Y (app_ne1 ht.2), a5, u, uv, g5.1, g5.2, hT, hV⟩
/-- the terms that are left while they are put together -/
def FmJ (b : Addr) (ns : List Str) (H G : Hp) (sl : Addr) : Prop := ExB b H G ∧ BoxAt G b ∧ sl ≠ b ∧ ∃ ts us, G sl = some (.lst us) ∧ Paired (ToldAt G) ts us ∧ ts ≠ [] ∧ ts.length ≤ 3 ∧ ∀ t ∈ ts, TmIn ns (4 - ts.length) t
def sp_formed_l : Sp := fun vs H Q _ => ∃ (b l : Addr) (ns : List Str), vs = [.ref b, .ref l] ∧ BoxAt H b ∧ H l = some (.lst (ns.map V.str)) ∧ ns ≠ [] ∧ ns.length ≤ 3 ∧ (∀ s ∈ ns, goodN s) ∧ ∀ t u H2, TmIn ns 5 t → ToldAt H2 t u → ExB b H H2 → BoxAt H2 b → Q u H2
theorem ok_formed_l (T : Txt K mg Z) : FnOk P w K mg base CX0 2 Z.f_formed_l Z.fd_formed_l ["_law_well", "_law_names"] sp_formed_l := by
  have G_draw_l := ok_draw_l (P := P) (w := w) (base := base) T
  refine T.F_formed_l.ok sc_formed_l (fun vs H Q E h => ?_) (fun cdv AA outer s H vs Q E hr h => ?_)
  · obtain ⟨b, l, ns, rfl, _⟩ := h
    rfl
  · obtain ⟨b, l, ns, rfl, hB, gl, hne, hn3, hgood, k⟩ := h
    refine ⟨_, (pss_cons (ps_setLc (i := 2) (own := [("_law_name", 3)]) (g := (gName 3)) (tt := tYes) (te := (tTup (tCons (tC (.str "name")) (tCons (tVar 3) tNil)))) rfl sc_formed_l.nd rfl rfl (sw_true rfl rfl rfl (by decide +kernel)) (pi_list (pv 1)) (blkOk_by (own := [("_law_name", 3)]) (N := N_formed_l) (sc := defScope s_formed_l) (by decide +kernel)) (fun _ _ _ _ _ => (pg_name (i := 3) sc_formed_l.nd rfl (Or.inl rfl))) (fun _ _ _ _ _ => pts_nil) (fun _ _ _ _ _ => (pe_tup (pa_cons pe_str (pa_cons (pv 3) pa_nil)))))
      (pss_cons (ps_while PassesOwn.never (pt_cmpR op_gt (pe_callB call_len_seq (by rfl) T.n_len (by decide +kernel) (pa_cons (pv 2) pa_nil)) pe_int (nomark _)) (pss_cons (ps_set (i := 4) sc_formed_l.nd rfl (Or.inl rfl) (pe_call G_draw_l (hr.mono (by omega)) rfl T.g_draw_l T.F_draw_l.kp T.b_draw_l .nil pass0 (pa_cons (pv 0) (pa_cons pe_int pa_nil))))
      (pss_one (ps_if (pt_cmpR op_eq (pv 4) pe_int (nomark _)) (pss_one (ps_set (i := 2) sc_formed_l.nd rfl (Or.inl rfl) (pe_op op_cat (pe_lst (pa_cons (pe_tup (pa_cons pe_str (pa_cons (pe_ix ix_list (pv 2) pe_int (fun _ _ => rfl)) (pa_cons (pe_ix ix_list (pv 2) pe_int (fun _ _ => rfl)) (pa_cons (pe_ix ix_list (pe_op op_cat (pv 2) (pe_lst (pa_cons (pe_tup (pa_cons pe_str (pa_cons pe_int pa_nil))) pa_nil))) pe_int (fun _ _ => rfl)) pa_nil))))) pa_nil)) (pe_slice sl_list (pv 2) (po_some pe_int) po_none)))) (pss_one (ps_if (pt_cmpR op_eq (pv 4) pe_int (nomark _)) (pss_one (ps_set (i := 2) sc_formed_l.nd rfl (Or.inl rfl) (pe_op op_cat (pe_lst (pa_cons (pe_tup (pa_cons pe_str (pa_cons (pe_tup (pa_cons pe_str (pa_cons pe_bl pa_nil))) (pa_cons (pe_ix ix_list (pv 2) pe_int (fun _ _ => rfl)) (pa_cons (pe_ix ix_list (pv 2) pe_int (fun _ _ => rfl)) pa_nil))))) pa_nil)) (pe_slice sl_list (pv 2) (po_some pe_int) po_none)))) (pss_cons (ps_set (i := 5) sc_formed_l.nd rfl (Or.inl rfl) (pe_ix ix_list (pe_lst (pa_cons pe_str (pa_cons pe_str (pa_cons pe_str (pa_cons pe_str (pa_cons pe_str (pa_cons pe_str (pa_cons pe_str (pa_cons pe_str (pa_cons pe_str pa_nil)))))))))) (pe_call G_draw_l (hr.mono (by omega)) rfl T.g_draw_l T.F_draw_l.kp T.b_draw_l .nil pass0 (pa_cons (pv 0) (pa_cons pe_int pa_nil))) (fun _ _ => rfl)))
      (pss_one (ps_set (i := 2) sc_formed_l.nd rfl (Or.inl rfl) (pe_op op_cat (pe_lst (pa_cons (pe_tup (pa_cons pe_str (pa_cons (pv 5) (pa_cons (pe_ix ix_list (pv 2) pe_int (fun _ _ => rfl)) (pa_cons (pe_ix ix_list (pv 2) pe_int (fun _ _ => rfl)) pa_nil))))) pa_nil)) (pe_slice sl_list (pv 2) (po_some pe_int) po_none)))))))))))
      (pss_cons (ps_set (i := 6) sc_formed_l.nd rfl (Or.inl rfl) (pe_ix ix_list (pv 2) pe_int (fun _ _ => rfl)))
      (pss_cons (ps_for PassesOwn.never rfl (pi_range1 (by rfl) T.n_range (pa_cons (pe_call G_draw_l (hr.mono (by omega)) rfl T.g_draw_l T.F_draw_l.kp T.b_draw_l .nil pass0 (pa_cons (pv 0) (pa_cons pe_int pa_nil))) pa_nil)) (pg_name (i := 7) sc_formed_l.nd rfl (Or.inl rfl)) (pss_cons (ps_set (i := 8) sc_formed_l.nd rfl (Or.inl rfl) (pe_tup (pa_cons pe_str (pa_cons (pe_op op_sub (pe_call G_draw_l (hr.mono (by omega)) rfl T.g_draw_l T.F_draw_l.kp T.b_draw_l .nil pass0 (pa_cons (pv 0) (pa_cons pe_int pa_nil))) pe_int) pa_nil))))
      (pss_cons (ps_set (i := 9) sc_formed_l.nd rfl (Or.inl rfl) (pe_lst (pa_cons (pe_tup (pa_cons pe_str (pa_cons (pv 6) pa_nil))) (pa_cons (pe_tup (pa_cons pe_str (pa_cons (pv 6) (pa_cons (pv 8) (pa_cons (pv 8) pa_nil))))) (pa_cons (pe_tup (pa_cons pe_str (pa_cons (pv 8) (pa_cons (pv 6) (pa_cons (pv 8) pa_nil))))) pa_nil)))))
      (pss_cons (ps_set (i := 9) sc_formed_l.nd rfl (Or.inl rfl) (pe_op op_cat (pv 9) (pe_lst (pa_cons (pe_tup (pa_cons pe_str (pa_cons (pv 8) (pa_cons (pv 8) (pa_cons (pv 6) pa_nil))))) (pa_cons (pe_tup (pa_cons pe_str (pa_cons pe_str (pa_cons (pv 8) (pa_cons (pv 6) pa_nil))))) (pa_cons (pe_tup (pa_cons pe_str (pa_cons pe_str (pa_cons (pv 6) (pa_cons (pv 8) pa_nil))))) pa_nil))))))
      (pss_one (ps_set (i := 6) sc_formed_l.nd rfl (Or.inl rfl) (pe_ix ix_list (pv 9) (pe_call G_draw_l (hr.mono (by omega)) rfl T.g_draw_l T.F_draw_l.kp T.b_draw_l .nil pass0 (pa_cons (pv 0) (pa_cons pe_int pa_nil))) (fun _ _ => rfl))))))))
      (pss_one (ps_ret (pv 6))))))), ?_⟩
    walk_at "ss"
    refine ⟨⟨_, SqL.of gl⟩, lcW walk_list (fun G e => Evl.ex_l e (SqL.of gl)) (as := ns) (by rw [List.length_map]) (by rw [List.length_map]; omega) (fun _ => true) (fun D s w G => ToldAt G (.nm s) w) ?_ ?_ ?_⟩
    · exact fun D r y G G' eD eN h => h.keep fun a xs q => NL.tup eN q
    · rintro D i s x hD hs hx G3 e3 ⟨o, ho⟩ R N hR hNo
      rw [List.getElem?_map, hs] at hx
      cases hx
      walk_at "ss"
      refine newT fun q3 G4 hq3 e4 g4 => ?_
      exact hR rfl _ _ e4 ⟨q3, rfl, g4⟩
    intro us0 sl0 H1 hP0 hsl0 e1 g1
    rw [List.filter_eq_self.mpr (fun _ _ => rfl)] at hP0
    have hP0 : Paired (ToldAt H1) (ns.map Tm.nm) us0 := paired_mapL hP0
    walk_at "ss"
    refine while_do (fun σ' G => ∃ sl v3 v4 v5 v6 v7 v8 v9, σ' = [some (.ref b), some (.ref l), some (.ref sl), v3, v4, v5, v6, v7, v8, v9] ∧ FmJ b ns H G sl)
      (fun (σ' : L2.St) (G : Hp) => match (σ'[2]? : Option (Option V)) with | some (some (V.ref p)) => (match G p with | some (HO.lst xs) => xs.length | _ => 0) | _ => 0) ⟨sl0, _, _, _, _, _, _, _, rfl, ExB.of e1, hB.up e1, fresh_nb hB hsl0, _, us0, g1, hP0, by simpa using hne, by rw [List.length_map]; exact hn3, fun t ht => ?_⟩ ?_
    · obtain ⟨s, hs, rfl⟩ := List.mem_map.mp ht
      exact (tm_nm (hgood s hs) hs).mono (by rw [List.length_map]; omega)
    rintro σ' G ⟨sl, v3, v4, v5, v6, v7, v8, v9, rfl, xG, bG, nsb, ts, us, gs, hP, hts, ht3, htm⟩
    have hul := paired_len hP
    walk_at "ss"
    refine ⟨sl, _, rfl, .inl (SqL.of gs), ?_⟩
    walk_at "ss"
    refine if_cs (fun hb => c_turn ?_) (fun hb => ?_)
    · have hlt : 1 < us.length := by have := of_decide_eq_true hb; omega
      obtain ⟨t0, t1, tr, u0, u1, ur, rfl, rfl, h0, h1, hr'⟩ : ∃ t0 t1 tr u0 u1 ur, ts = t0 :: t1 :: tr ∧ us = u0 :: u1 :: ur ∧ ToldAt G t0 u0 ∧ ToldAt G t1 u1 ∧ Paired (ToldAt G) tr ur := by
        cases hP with
        | nil => simp at hlt
        | cons h0 hP =>
          cases hP with
          | nil => simp at hlt
          | cons h1 hP => exact ⟨_, _, _, _, _, _, rfl, rfl, h0, h1, hP⟩
      have htl : (t0 :: t1 :: tr).length = tr.length + 2 := rfl
      have hurl := paired_len hr'
      have q0 := htm t0 (by simp)
      have q1 := htm t1 (by simp)
      rw [htl] at ht3 q0 q1
      have at0 : atI (u0 :: u1 :: ur) 0 = some u0 := atI_nat (j := 0) rfl
      have at1 : atI (u0 :: u1 :: ur) 1 = some u1 := atI_nat (j := 1) rfl
      walk_at "ss"
      refine ⟨b, 3, rfl, bG, by decide, by decide, fun way H2 w0 w1 x2 b2 => ?_⟩
      have gs2 := x2 _ _ nsb gs
      have up2 : ∀ {t : Tm} {u : V}, ToldAt G t u → ToldAt H2 t u := fun h => h.upB x2 bG
      have X2 := xG.trans x2
      walk_at "ss"
      refine if_cs (fun c0 => ?_) (fun c0 => ?_)
      · walk_at "ss"
        refine c_ixL (SqL.of gs2) at0 ?_
        walk_at "ss"
        refine c_ixL (SqL.of gs2) at1 ?_
        walk_at "ss"
        refine newT fun q3 H3 hq3 e3 g3 => ?_
        walk_at "ss"
        refine newL fun q4 H4 hq4 e4 g4 => ?_
        refine c_cat (e4 _ _ (e3 _ _ gs2)) g4 (fun q5 H5 hq5 e5 g5 => ?_) (by rw [List.length_cons, List.length_cons]; show _ + 1 ≤ _; omega)
        have e25 := e3.trans (e4.trans e5)
        have T3 : ToldAt H5 (.vl (.int 3)) (.ref q3) := ⟨q3, rfl, (e4.trans e5) _ _ g3⟩
        obtain ⟨t2, u2, hat2, hT2, hX2⟩ : ∃ t2 u2, atI ((u0 :: u1 :: ur) ++ [V.ref q3]) 2 = some u2 ∧ ToldAt H5 t2 u2 ∧ TmX ns (4 - (tr.length + 2)) t2 := by
          cases hr' with
          | nil => exact ⟨_, _, atI_nat (j := 2) rfl, T3, tm_vl (val_int (by decide) (by decide)) (by simp)⟩
          | cons h2 hP2 => exact ⟨_, _, atI_nat (j := 2) rfl, (up2 h2).up e25, (htm _ (by simp)).1⟩
        walk_at "ss"
        refine c_ixL (SqL.of g5) hat2 ?_
        walk_at "ss"
        refine newT fun q6 H6 hq6 e6 g6 => ?_
        walk_at "ss"
        refine newL fun q7 H7 hq7 e7 g7 => ?_
        have e27 := e25.trans (e6.trans e7)
        walk_at "ss"
        refine ⟨sl, _, rfl, SqL.of (e27 _ _ gs2), fun q8 hq8 => ?_⟩
        rw [show (3 : Int) = ((3 : Nat) : Int) from rfl, cutv_drop]
        have e8 : Ex H7 (upd H7 q8 (.lst ((u0 :: u1 :: ur).drop 3))) := Ex.new hq8
        have g8 : upd H7 q8 (.lst ((u0 :: u1 :: ur).drop 3)) q8 = some (.lst ((u0 :: u1 :: ur).drop 3)) := upd_same
        generalize upd H7 q8 (.lst ((u0 :: u1 :: ur).drop 3)) = H8 at e8 g8
        have hd3 : ((u0 :: u1 :: ur).drop 3).length ≤ ur.length - 1 := by rw [List.length_drop, List.length_cons, List.length_cons]; omega
        have hd3' : (u0 :: u1 :: ur).drop 3 = [] := List.drop_of_length_le (by rw [List.length_cons, List.length_cons]; omega)
        refine c_cat (e8 _ _ g7) g8 (fun q9 H9 hq9 e9 g9 => ?_) (by show 1 + _ ≤ _; omega)
        rw [hd3'] at g9
        have e29 := e27.trans (e8.trans e9)
        have tn := tm_pk q0.1 q1.1 hX2 (app_ne1 (app_ne1 q0.2))
        walk_at "ss"
        refine ⟨⟨q9, _, _, _, _, _, _, _, rfl, X2.trans (ExB.of e29), b2.up e29, fresh_nb (b2.up (e27.trans e8)) hq9, [.pk t0 t1 t2], _, g9, .cons ⟨q6, _, _, _, rfl, (e7.trans (e8.trans e9)) _ _ g6, (up2 h0).up e29, (up2 h1).up e29, hT2.up ((e6.trans e7).trans (e8.trans e9))⟩ .nil, by simp, by simp, fun t ht => ?_⟩, ?_⟩
        · rw [List.mem_singleton.mp ht]
          exact tn.mono (by simp)
        · show (match H9 q9 with | some (HO.lst xs) => xs.length | _ => 0) < (match G sl with | some (HO.lst xs) => xs.length | _ => 0)
          rw [g9, gs]
          simp
      walk_at "ss"
      refine if_cs (fun c1 => ?_) (fun c1 => ?_)
      · walk_at "ss"
        refine newT fun q3 H3 hq3 e3 g3 => ?_
        walk_at "ss"
        refine c_ixL (SqL.of (e3 _ _ gs2)) at0 ?_
        walk_at "ss"
        refine c_ixL (SqL.of (e3 _ _ gs2)) at1 ?_
        walk_at "ss"
        refine newT fun q6 H6 hq6 e6 g6 => ?_
        walk_at "ss"
        refine newL fun q7 H7 hq7 e7 g7 => ?_
        have e27 := e3.trans (e6.trans e7)
        walk_at "ss"
        refine ⟨sl, _, rfl, SqL.of (e27 _ _ gs2), fun q8 hq8 => ?_⟩
        rw [show (2 : Int) = ((2 : Nat) : Int) from rfl, cutv_drop, show (u0 :: u1 :: ur).drop 2 = ur from rfl]
        have e8 : Ex H7 (upd H7 q8 (.lst ur)) := Ex.new hq8
        have g8 : upd H7 q8 (.lst ur) q8 = some (.lst ur) := upd_same
        generalize upd H7 q8 (.lst ur) = H8 at e8 g8
        refine c_cat (e8 _ _ g7) g8 (fun q9 H9 hq9 e9 g9 => ?_) (by show 1 + _ ≤ _; omega)
        have e29 := e27.trans (e8.trans e9)
        have T3 : ToldAt H9 (.vl (.bl true)) (.ref q3) := ⟨q3, rfl, (e6.trans (e7.trans (e8.trans e9))) _ _ g3⟩
        have tn : TmIn ns (4 - (tr.length + 2) + 1) (.pk (.vl (.bl true)) t0 t1) := tm_pk (tm_vl rfl (by omega)) q0.1 q1.1 (app_ne1 (app_ne2 q0.2))
        walk_at "ss"
        refine ⟨⟨q9, _, _, _, _, _, _, _, rfl, X2.trans (ExB.of e29), b2.up e29, fresh_nb (b2.up (e27.trans e8)) hq9, .pk (.vl (.bl true)) t0 t1 :: tr, _, g9, .cons ⟨q6, _, _, _, rfl, (e7.trans (e8.trans e9)) _ _ g6, T3, (up2 h0).up e29, (up2 h1).up e29⟩ (paired_up (fun _ _ h => (up2 h).up e29) hr'), by simp, by rw [List.length_cons]; omega, fun t ht => ?_⟩, ?_⟩
        · rw [List.length_cons]
          rcases List.mem_cons.mp ht with e | ht
          · rw [e]; exact tn.mono (by omega)
          · exact (htm t (by simp [ht])).mono (by rw [htl]; omega)
        · show (match H9 q9 with | some (HO.lst xs) => xs.length | _ => 0) < (match G sl with | some (HO.lst xs) => xs.length | _ => 0)
          rw [g9, gs]
          simp
      · walk_at "ss"
        refine newL fun q3 H3 hq3 e3 g3 => ?_
        walk_at "ss"
        refine ⟨b, 9, rfl, b2.up e3, by decide, by decide, fun od H4 o0 o1 x4 b4 => ?_⟩
        obtain ⟨op, hop, hopm⟩ := op9 o0 o1
        have nq3 := fresh_nb b2 hq3
        refine c_ixL (SqL.of (x4 _ _ nq3 g3)) hop ?_
        have gs4 := x4 _ _ nsb (e3 _ _ gs2)
        have up4 : ∀ {t : Tm} {u : V}, ToldAt G t u → ToldAt H4 t u := fun h => ((up2 h).up e3).upB x4 (b2.up e3)
        have X4 := X2.trans ((ExB.of e3).trans x4)
        walk_at "ss"
        refine c_ixL (SqL.of gs4) at0 ?_
        walk_at "ss"
        refine c_ixL (SqL.of gs4) at1 ?_
        walk_at "ss"
        refine newT fun q6 H6 hq6 e6 g6 => ?_
        walk_at "ss"
        refine newL fun q7 H7 hq7 e7 g7 => ?_
        have e27 := e6.trans e7
        walk_at "ss"
        refine ⟨sl, _, rfl, SqL.of (e27 _ _ gs4), fun q8 hq8 => ?_⟩
        rw [show (2 : Int) = ((2 : Nat) : Int) from rfl, cutv_drop, show (u0 :: u1 :: ur).drop 2 = ur from rfl]
        have e8 : Ex H7 (upd H7 q8 (.lst ur)) := Ex.new hq8
        have g8 : upd H7 q8 (.lst ur) q8 = some (.lst ur) := upd_same
        generalize upd H7 q8 (.lst ur) = H8 at e8 g8
        refine c_cat (e8 _ _ g7) g8 (fun q9 H9 hq9 e9 g9 => ?_) (by show 1 + _ ≤ _; omega)
        have e29 := e27.trans (e8.trans e9)
        have tn : TmIn ns (4 - (tr.length + 2) + 1) (.two op t0 t1) := tm_two hopm q0.1 q1.1 (app_ne1 q0.2)
        walk_at "ss"
        refine ⟨⟨q9, _, _, _, _, _, _, _, rfl, X4.trans (ExB.of e29), b4.up e29, fresh_nb (b4.up (e27.trans e8)) hq9, .two op t0 t1 :: tr, _, g9, .cons ⟨q6, _, _, rfl, (e7.trans (e8.trans e9)) _ _ g6, (up4 h0).up e29, (up4 h1).up e29⟩ (paired_up (fun _ _ h => (up4 h).up e29) hr'), by simp, by rw [List.length_cons]; omega, fun t ht => ?_⟩, ?_⟩
        · rw [List.length_cons]
          rcases List.mem_cons.mp ht with e | ht
          · rw [e]; exact tn.mono (by omega)
          · exact (htm t (by simp [ht])).mono (by rw [htl]; omega)
        · show (match H9 q9 with | some (HO.lst xs) => xs.length | _ => 0) < (match G sl with | some (HO.lst xs) => xs.length | _ => 0)
          rw [g9, gs]
          simp
    · obtain ⟨t0, u0, rfl, rfl, h0⟩ : ∃ t0 u0, ts = [t0] ∧ us = [u0] ∧ ToldAt G t0 u0 := by
        have hge := of_decide_eq_false hb
        cases hP with
        | nil => exact absurd rfl hts
        | cons h0 hP =>
          cases hP with
          | nil => exact ⟨_, _, rfl, rfl, h0⟩
          | cons h1 hP => exact absurd (by simp [List.length_cons]; omega) hge
      have q0 : TmIn ns 3 t0 := (htm t0 (by simp)).mono (by simp)
      walk_at "ss"
      refine c_ixL (SqL.of gs) rfl ?_
      walk_at "ss"
      refine ⟨b, 3, rfl, bG, by decide, by decide, fun m0 H2 m1 m2 x2 b2 => ?_⟩
      obtain ⟨m, rfl⟩ := Int.eq_ofNat_of_zero_le m1
      refine ⟨_, rfl, by omega, by omega, ?_⟩
      refine forR (fun i σ' G' => ∃ t u v7 v8 v9, σ' = [some (.ref b), some (.ref l), some (.ref sl), v3, v4, v5, some u, v7, v8, v9] ∧ ExB b H G' ∧ BoxAt G' b ∧ TmIn ns (3 + i) t ∧ ToldAt G' t u) ⟨t0, u0, _, _, _, rfl, xG.trans x2, b2, q0, h0.upB x2 bG⟩ ?_ ?_
      · rintro i σ' G' hi ⟨t, u, v7, v8, v9, rfl, xG', bG', ht, hT⟩
        walk_at "ss"
        refine ⟨b, 9, rfl, bG', by decide, by decide, fun d H3 d0 d1 x3 b3 => ?_⟩
        walk_at "ss"
        refine newT fun qv H4 hqv e4 g4 => ?_
        have hv : isVal (V.int (d - 4)) = true := val_int (by omega) (by omega)
        walk_at "ss"
        refine newT fun a0 H5 ha0 e5 g5 => ?_
        walk_at "ss"
        refine newT fun a1 H6 ha1 e6 g6 => ?_
        walk_at "ss"
        refine newT fun a2 H7 ha2 e7 g7 => ?_
        walk_at "ss"
        refine newL fun w1 H8 hw1 e8 g8 => ?_
        walk_at "ss"
        refine newT fun a3 H9 ha3 e9 g9 => ?_
        walk_at "ss"
        refine newT fun a4 H10 ha4 e10 g10 => ?_
        walk_at "ss"
        refine newT fun a5 H11 ha5 e11 g11 => ?_
        walk_at "ss"
        refine newL fun w2 H12 hw2 e12 g12 => ?_
        refine c_cat ((e9.trans (e10.trans (e11.trans e12))) _ _ g8) g12 (fun w3 H13 hw3 e13 g13 => ?_)
        have f11 := e12.trans e13
        have f10 := e11.trans f11
        have f9 := e10.trans f10
        have f8 := e9.trans f9
        have f7 := e8.trans f8
        have f6 := e7.trans f7
        have f5 := e6.trans f6
        have f4 := e5.trans f5
        have f3 := e4.trans f4
        walk_at "ss"
        refine ⟨b, 6, rfl, b3.up f3, by decide, by decide, fun d6 H14 s0 s1 x14 b14 => ?_⟩
        have nw3 : w3 ≠ b := fresh_nb (b3.up (e4.trans (e5.trans (e6.trans (e7.trans (e8.trans (e9.trans (e10.trans (e11.trans e12))))))))) hw3
        obtain ⟨t', u', hat, ht', hT'⟩ := wrap6 (G := H13) (u := u) (uv := .ref qv) (a0 := a0) (a1 := a1) (a2 := a2) (a3 := a3) (a4 := a4) (a5 := a5) ht (by omega) hv ((hT.upB x3 bG').up f3) ⟨qv, rfl, f4 _ _ g4⟩ ⟨rfl, f5 _ _ g5⟩ ⟨rfl, f6 _ _ g6⟩ ⟨rfl, f7 _ _ g7⟩ ⟨rfl, f9 _ _ g9⟩ ⟨rfl, f10 _ _ g10⟩ ⟨rfl, f11 _ _ g11⟩ s0 s1
        refine c_ixL (SqL.of (x14 _ _ nw3 g13)) hat ?_
        walk_at "ss"
        exact ⟨t', u', _, _, _, rfl, xG'.trans (x3.trans ((ExB.of f3).trans x14)), b14, ht', hT'.upB x14 (b3.up f3)⟩
      · rintro σ' G' ⟨t, u, v7, v8, v9, rfl, xG', bG', ht, hT⟩
        walk_at "ss"
        have ht : TmIn ns (3 + m) t := ht
        exact k t u G' (ht.mono (by omega)) hT xG' bG'

/-! ### keys of dicts, what is kept (as in p_g5, p_g6) -/
open TL (tl)
def keyB (g : Str → Bool) : Key → Bool
  | .inr s => g s
  | .inl _ => false
theorem paired_keys : ∀ {ys : List V} {l : List (Key × V)}, Paired (fun y (p : Key × V) => y = kV p.1) ys l → ys = l.map fun p => kV p.1
  | _, _, .nil => rfl
  | _, _, .cons h t => by rw [List.map_cons, ← paired_keys t, h]
theorem filt_keys (g : Str → Bool) : ∀ {U : List Str} {kv : List (Key × V)}, kv.map (·.1) = U.map (Sum.inr : Str → Key) → (kv.filter fun p => keyB g p.1).map (fun p => kV p.1) = (U.filter g).map V.str
  | [], [], _ => rfl
  | [], _ :: _, h => by cases h
  | _ :: _, [], h => by cases h
  | u :: U, (k, v) :: kv, h => by
    rw [List.map_cons, List.map_cons] at h
    injection h with h1 h2
    have h1 : k = Sum.inr u := h1
    subst h1
    have ih := filt_keys g h2
    rw [List.filter_cons, List.filter_cons]
    show List.map _ (if g u = true then _ else _) = _
    cases hg : g u
    · simpa using ih
    · simp only [↓reduceIte, List.map_cons, ih]
      rfl
/-- all but these is kept -/
def ExN (S : List Addr) (H G : Hp) : Prop := ∀ a o, a ∉ S → H a = some o → G a = some o
theorem ExN.refl (S : List Addr) (H : Hp) : ExN S H H := fun _ _ _ h => h
theorem ExN.trans {S : List Addr} {H H1 H2 : Hp} (e : ExN S H H1) (e2 : ExN S H1 H2) : ExN S H H2 := fun a o n h => e2 a o n (e a o n h)
theorem ExN.of {S : List Addr} {H H1 : Hp} (e : Ex H H1) : ExN S H H1 := fun a o _ h => e a o h
theorem ExN.box {S : List Addr} {b : Addr} {H H1 : Hp} (e : ExB b H H1) (hb : b ∈ S) : ExN S H H1 := fun a o n h => e a o (fun z => n (by rw [z]; exact hb)) h
theorem ExN.upd {S : List Addr} {b : Addr} {H : Hp} {o : HO} (hb : b ∈ S) : ExN S H (upd H b o) := fun a u n h => by rw [upd_ne (fun z => n (by rw [z]; exact hb))]; exact h
/-- what was made behind H may change -/
theorem ExN.less {S : List Addr} {c : Addr} {H G : Hp} (e : ExN (c :: S) H G) (hc : H c = none) : ExN S H G := fun a o n h => e a o (fun z => by
  rcases List.mem_cons.mp z with z | z
  · rw [z, hc] at h
    cases h
  · exact n z) h
theorem ExN.sub {S S2 : List Addr} {H G : Hp} (e : ExN S H G) (h : ∀ a ∈ S, a ∈ S2) : ExN S2 H G := fun a o n q => e a o (fun z => n (h a z)) q

/-! ### a row that is drawn -/
open TL (tl)
/-- a row over the names U that tells x -/
structure RwD (U : List Str) (x : Str) (r : Rw) : Prop where
  good : r.good
  nocall : r.nocall
  tells : r.tells = [x]
  pl : r.kind = 0 → r.names ≠ []
  names : ∀ s ∈ r.names, s ∈ U
theorem RwD.mono {U U2 : List Str} {x : Str} {r : Rw} (h : RwD U x r) (hU : ∀ s ∈ U, s ∈ U2) : RwD U2 x r := ⟨h.good, h.nocall, h.tells, h.pl, fun s hs => hU s (h.names s hs)⟩
theorem rwd_vd {U : List Str} {k : Nat} {n x : Str} {v : V} (hk : k < 3) (gn : goodN n) (gx : goodN x) (hv : isVal v = true) (hx : x ∈ U) : RwD U n (.vd k n v x) :=
  ⟨⟨hk, gn, hv, gx⟩, trivial, rfl, fun e => (by match k, e with | 0, e => cases e | 1, e => cases e | _ + 2, e => cases e), fun s hs => by have : s = x := (by simpa [Rw.names] using hs); rw [this]; exact hx⟩
theorem rwd_wh {U : List Str} {n x y : Str} (gn : goodN n) (gx : goodN x) (gy : goodN y) (hx : x ∈ U) (hy : y ∈ U) : RwD U n (.wh n x y) :=
  ⟨⟨gn, gx, gy⟩, trivial, rfl, fun e => (by cases e), fun s hs => by
    have h := once_mem hs
    have h : s = x ∨ s = y := by simpa using h
    rcases h with h | h
    · rw [h]; exact hx
    · rw [h]; exact hy⟩
theorem rwd_pl {U ns : List Str} {n : Str} {t : Tm} (gn : goodN n) (ht : TmIn ns 5 t) (hU : ∀ s ∈ ns, s ∈ U) : RwD U n (.pl n t) := by
  refine ⟨⟨gn, ht.1.1, ht.1.2.1⟩, trivial, rfl, fun _ z => ?_, fun s hs => hU s (ht.1.2.2 s (names_flat hs))⟩
  obtain ⟨s, hs⟩ := List.exists_mem_of_ne_nil _ ht.2
  have := flat_names hs
  rw [show (Rw.pl n t).names = t.names from rfl] at z
  rw [z] at this
  cases this
/-- the clocks of the names that are told so far -/
structure CkU (H : Hp) (cd : Addr) (U : List Str) (ck : Str → List Str) : Prop where
  cks : CksAt H cd U ck
  ne : U ≠ []
  len : U.length ≤ 70
  good : ∀ s ∈ U, goodN s
  ckg : ∀ s ∈ U, (ck s).length ≤ 4 ∧ ∀ z ∈ ck s, z ∈ U
section
variable {H G : Hp} {cd b : Addr} {U : List Str} {ck : Str → List Str}
theorem CksAt.upB (h : CksAt H cd U ck) (e : ExB b H G) (hB : BoxAt H b) : CksAt G cd U ck := by
  obtain ⟨kv, h1, h2, h3⟩ := h
  refine ⟨kv, e _ _ (box_ne hB h1 (fun _ _ _ z => by cases z)) h1, h2, fun s hs => ?_⟩
  obtain ⟨p, q1, q2⟩ := h3 s hs
  exact ⟨p, q1, e _ _ (box_ne hB q2 (fun _ _ _ z => by cases z)) q2⟩
theorem CkU.up (h : CkU H cd U ck) (e : Ex H G) : CkU G cd U ck := ⟨h.cks.upC e, h.ne, h.len, h.good, h.ckg⟩
theorem CkU.upB (h : CkU H cd U ck) (e : ExB b H G) (hB : BoxAt H b) : CkU G cd U ck := ⟨h.cks.upB e hB, h.ne, h.len, h.good, h.ckg⟩
theorem CkU.okc (h : CkU H cd U ck) {s : Str} (hs : s ∈ U) : ((ck s).map V.str).all okV = true := ok_strs fun z hz => h.good z ((h.ckg s hs).2 z hz)
theorem CkU.get (h : CkU H cd U ck) {s : Str} (hs : s ∈ U) : ∃ kv p, H cd = some (.dK kv) ∧ valV kv (.inr s) = some (.ref p) ∧ H p = some (.tup ((ck s).map V.str)) := by
  obtain ⟨kv, h1, h2, h3⟩ := h.cks
  obtain ⟨p, h4, h5⟩ := h3 s hs
  exact ⟨kv, p, h1, h4, h5⟩
theorem CkU.kv (h : CkU H cd U ck) : ∃ kv, H cd = some (.dK kv) ∧ kv.map (·.1) = U.map (Sum.inr : Str → Key) ∧ kv.length = U.length := by
  obtain ⟨kv, h1, h2, h3⟩ := h.cks
  exact ⟨kv, h1, h2, by have := congrArg List.length h2; rwa [List.length_map, List.length_map] at this⟩
theorem keys_str {kv : List (Key × V)} {l : List Str} (hk : kv.map (·.1) = l.map (Sum.inr : Str → Key)) : (kv.map fun kv => kV kv.1) = l.map V.str := by
  have e := congrArg (List.map kV) hk
  rw [List.map_map, List.map_map] at e
  exact e
end
/-- the names of the same clock -/
def evn (U : List Str) (ck : Str → List Str) (a : Str) : List Str := U.filter fun s => decide (ck s = ck a)
theorem evn_self {U : List Str} {ck : Str → List Str} {a : Str} (h : a ∈ U) : a ∈ evn U ck a := List.mem_filter.mpr ⟨h, decide_eq_true rfl⟩
theorem evn_sub {U : List Str} {ck : Str → List Str} {a s : Str} (h : s ∈ evn U ck a) : s ∈ U := (List.mem_filter.mp h).1
def GrK (b : Addr) (U : List Str) (x : Str) (H : Hp) (Q : VK) : Prop := ∀ (r : Rw) (u : V) (c : List Str) (q w : Addr) (H2 : Hp), RwD U x r → RowAt H2 r u → c.length ≤ 4 → (∀ z ∈ c, z ∈ U) → H2 q = some (.tup (c.map V.str)) → H2 w = some (.tup [u, .ref q]) → ExB b H H2 → BoxAt H2 b → Q (.ref w) H2
def sp_grown_l : Sp := fun vs H Q _ => ∃ (b cd : Addr) (x : Str) (form : Int) (U : List Str) (ck : Str → List Str), vs = [.ref b, .str x, .ref cd, .int form] ∧ BoxAt H b ∧ CkU H cd U ck ∧ goodN x ∧ GrK b U x H Q
theorem strs_of {E : List Str} : ∀ {ys : List V}, (∀ y ∈ ys, ∃ s ∈ E, y = V.str s) → ∃ ss : List Str, ys = ss.map V.str ∧ ∀ s ∈ ss, s ∈ E
  | [], _ => ⟨[], rfl, fun s h => by cases h⟩
  | y :: ys, h => by
    obtain ⟨s, hs, rfl⟩ := h y List.mem_cons_self
    obtain ⟨ss, rfl, hss⟩ := strs_of (ys := ys) fun z hz => h z (List.mem_cons_of_mem _ hz)
    refine ⟨s :: ss, rfl, fun z hz => ?_⟩
    rcases List.mem_cons.mp hz with e | hz
    · rw [e]; exact hs
    · exact hss z hz
theorem ok_grown_l (T : Txt K mg Z) : FnOk P w K mg base CX0 3 Z.f_grown_l Z.fd_grown_l ["_law_well", "_law_x", "_law_clocks", "_law_form"] sp_grown_l := by
  have G_draw_l := ok_draw_l (P := P) (w := w) (base := base) T
  have G_formed_l := ok_formed_l (P := P) (w := w) (base := base) T
  have G_some_value_l := ok_some_value_l (P := P) (w := w) (base := base) T
  refine T.F_grown_l.ok sc_grown_l (fun vs H Q E h => ?_) (fun cdv AA outer s H vs Q E hr h => ?_)
  · obtain ⟨b, cd, x, form, U, ck, rfl, _⟩ := h
    rfl
  · obtain ⟨b, cd, x, form, U, ck, rfl, hB, hC, gx, k⟩ := h
    refine ⟨_, (pss_cons (ps_set (i := 4) sc_grown_l.nd rfl (Or.inr rfl) (pe_ix ix_list (pe_callTy (call_listD rfl) (by rfl) T.n_list (by decide +kernel) (pa_cons (pv 2) pa_nil)) (pe_call G_draw_l (hr.mono (by omega)) rfl T.g_draw_l T.F_draw_l.kp T.b_draw_l .nil pass0 (pa_cons (pv 0) (pa_cons (pe_callB call_lenD (by rfl) T.n_len (by decide +kernel) (pa_cons (pv 2) pa_nil)) pa_nil))) (fun _ _ => rfl)))
      (pss_cons (ps_set (i := 5) sc_grown_l.nd rfl (Or.inr rfl) (pe_lock (pe_lc (own := [("_law_name", 6)]) (g := (gName 6)) (tt := (tTest (tOp (rEqD K) (tDGet (tVar 2) (tVar 6)) (tDGet (tVar 2) (tVar 4))))) (te := (tVar 6)) rfl sc_grown_l.nd (pi_keys (pv 2)) (blkOk_by (own := [("_law_name", 6)]) (N := N_grown_l) (sc := defScope s_grown_l) (by decide +kernel)) (fun _ _ _ _ _ => (pg_name (i := 6) sc_grown_l.nd rfl (Or.inl rfl))) (fun _ _ _ _ _ => (pts_one (pt_cmpR (op_eqD hr.units) (pe_dget (hu_of hr) (pv 2) (pv 6) (fun _ _ => rfl)) (pe_dget (hu_of hr) (pv 2) (pv 4) (fun _ _ => rfl)) (nomark _)))) (fun _ _ _ _ _ => (pv 6)))))
      (pss_cons (ps_if (pt_cmpR op_eq (pv 3) pe_int (nomark _)) (pss_one (ps_ret (pe_tup (pa_cons (pe_tup (pa_cons pe_str (pa_cons (pv 1) (pa_cons (pe_call G_some_value_l (hr.mono (by omega)) rfl T.g_some_value_l T.F_some_value_l.kp T.b_some_value_l .nil pass0 (pa_cons (pv 0) pa_nil)) (pa_cons (pv 4) pa_nil))))) (pa_cons (pe_dget (hu_of hr) (pv 2) (pv 4) (fun _ _ => rfl)) pa_nil))))) pss_nil)
      (Evl.pss_cut (ps_if (PW.pt (pw_or (pt_cmpR op_eq (pv 3) pe_int (nomark _)) (pw_or1 (PW.pt (pw_and (pt_cmpR op_eq (pv 3) pe_int (nomark _)) (pw_and1 (pt_cmpR (op_eqD hr.units) (pe_dget (hu_of hr) (pv 2) (pv 4) (fun _ _ => rfl)) (pe_tup pa_nil) (nomark _)))))))) (pss_one (ps_ret (pe_tup (pa_cons (pe_tup (pa_cons pe_str (pa_cons (pv 1) (pa_cons (pe_call G_some_value_l (hr.mono (by omega)) rfl T.g_some_value_l T.F_some_value_l.kp T.b_some_value_l .nil pass0 (pa_cons (pv 0) pa_nil)) (pa_cons (pv 4) pa_nil))))) (pa_cons (pe_dget (hu_of hr) (pv 2) (pv 4) (fun _ _ => rfl)) pa_nil))))) pss_nil)
      (Evl.pss_cut (ps_if (PW.pt (pw_and (pt_cmpR op_eq (pv 3) pe_int (nomark _)) (pw_and1 (pt_cmpR op_lt (pe_callB call_len_seq (by rfl) T.n_len (by decide +kernel) (pa_cons (pe_dget (hu_of hr) (pv 2) (pv 4) (fun _ _ => rfl)) pa_nil)) pe_int (nomark _))))) (pss_cons (ps_set (i := 7) sc_grown_l.nd rfl (Or.inl rfl) (pe_ix ix_list (pv 5) (pe_call G_draw_l (hr.mono (by omega)) rfl T.g_draw_l T.F_draw_l.kp T.b_draw_l .nil pass0 (pa_cons (pv 0) (pa_cons (pe_callB call_len_seq (by rfl) T.n_len (by decide +kernel) (pa_cons (pv 5) pa_nil)) pa_nil))) (fun _ _ => rfl)))
      (pss_one (ps_ret (pe_tup (pa_cons (pe_tup (pa_cons pe_str (pa_cons (pv 1) (pa_cons (pv 4) (pa_cons (pv 7) pa_nil))))) (pa_cons (pe_op op_catA (pe_dget (hu_of hr) (pv 2) (pv 4) (fun _ _ => rfl)) (pe_tup (pa_cons (pv 7) pa_nil))) pa_nil)))))) pss_nil)
      (pss_cons (ps_if (pt_cmpR op_eq (pv 3) pe_int (nomark _)) (pss_one (ps_ret (pe_tup (pa_cons (pe_tup (pa_cons pe_str (pa_cons (pv 1) (pa_cons (pe_call G_some_value_l (hr.mono (by omega)) rfl T.g_some_value_l T.F_some_value_l.kp T.b_some_value_l .nil pass0 (pa_cons (pv 0) pa_nil)) (pa_cons (pv 4) pa_nil))))) (pa_cons (pe_slice sl_tupA (pe_dget (hu_of hr) (pv 2) (pv 4) (fun _ _ => rfl)) po_none (po_some (pe_un un_neg pe_int))) pa_nil))))) pss_nil)
      (pss_cons (ps_setLc (i := 8) (own := [("_law_k", 9)]) (g := (gName 9)) (tt := tYes) (te := (tOp (rIxL K) (tVar 5) (tCall sp_draw_l [] E0 (tCons (tVar 0) (tCons (tCB (fun xs H Q => ∃ p ys, xs = [.ref p] ∧ (SqL K H p ys ∨ SqT K H p ys) ∧ Q (.int ys.length) H) (tCons (tVar 5) tNil)) tNil))))) rfl sc_grown_l.nd rfl rfl (sw_true rfl rfl rfl (by decide +kernel)) (pi_range1 (by rfl) T.n_range (pa_cons (pe_call G_draw_l (hr.mono (by omega)) rfl T.g_draw_l T.F_draw_l.kp T.b_draw_l .nil pass0 (pa_cons (pv 0) (pa_cons pe_int pa_nil))) pa_nil)) (blkOk_by (own := [("_law_k", 9)]) (N := N_grown_l) (sc := defScope s_grown_l) (by decide +kernel)) (fun _ _ _ _ _ => (pg_name (i := 9) sc_grown_l.nd rfl (Or.inl rfl))) (fun _ _ _ _ _ => pts_nil) (fun _ _ _ _ _ => (pe_ix ix_list (pv 5) (pe_call G_draw_l (hr.mono (by omega)) rfl T.g_draw_l T.F_draw_l.kp T.b_draw_l .nil pass0 (pa_cons (pv 0) (pa_cons (pe_callB call_len_seq (by rfl) T.n_len (by decide +kernel) (pa_cons (pv 5) pa_nil)) pa_nil))) (fun _ _ => rfl))))
      (pss_one (ps_ret (pe_tup (pa_cons (pe_tup (pa_cons pe_str (pa_cons (pv 1) (pa_cons (pe_call G_formed_l (hr.mono (by omega)) rfl T.g_formed_l T.F_formed_l.kp T.b_formed_l .nil pass0 (pa_cons (pv 0) (pa_cons (pe_op op_cat (pe_lst (pa_cons (pv 4) pa_nil)) (pv 8)) pa_nil))) pa_nil)))) (pa_cons (pe_dget (hu_of hr) (pv 2) (pv 4) (fun _ _ => rfl)) pa_nil)))))))))))), ?_⟩
    obtain ⟨kv, gcd, hkeys, hkl⟩ := hC.kv
    have hU70 := hC.len
    have hU0 : 0 < U.length := List.length_pos_iff.mpr hC.ne
    walk_at "ss"
    refine ⟨cd, _, rfl, .inl gcd, fun l0 hl0 => ?_⟩
    rw [keys_str hkeys]
    have e1 : Ex H (upd H l0 (.lst (U.map V.str))) := Ex.new hl0
    have g1 : upd H l0 (.lst (U.map V.str)) l0 = some (.lst (U.map V.str)) := upd_same
    generalize upd H l0 (.lst (U.map V.str)) = H1 at e1 g1
    have nl0 := fresh_nb hB hl0
    walk_at "ss"
    refine ⟨cd, kv, rfl, e1 _ _ gcd, ?_⟩
    walk_at "ss"
    refine ⟨b, _, rfl, hB.up e1, by omega, by omega, fun d H2 d0 d1 x2 b2 => ?_⟩
    obtain ⟨av, hav, havm⟩ := at_in (xs := U.map V.str) (d := d) d0 (by rw [List.length_map]; omega)
    obtain ⟨a, haU, rfl⟩ := List.mem_map.mp havm
    refine c_ixL (SqL.of (x2 _ _ nl0 g1)) hav ?_
    have X2 : ExB b H H2 := (ExB.of e1).trans x2
    have hC2 := hC.upB X2 hB
    obtain ⟨kv, gcd, hkeys, hkl⟩ := hC2.kv
    walk_at "ss"
    refine c_lockE gcd trivial fun od => ?_
    refine c_lcK ?_
    walk_at "ss"
    refine ⟨cd, od, rfl, .inl ⟨kv, upd_same, ?_⟩⟩
    refine lcK (fun p => keyB (fun s => decide (ck s = ck a)) p.1) (fun p y G => y = kV p.1) (fun p y G G2 hn h => h) upd_same (by omega) (fun i p hp F2 f2 R N hY hN => ?_) (fun ys pl G1 hpair hpl e3 g3 => ?_)
    · have hk1 : (kv.map (·.1))[i]? = some p.1 := by rw [List.getElem?_map, hp]; rfl
      rw [hkeys, List.getElem?_map] at hk1
      obtain ⟨s, hs, hse⟩ := Option.map_eq_some_iff.mp hk1
      have hsU := List.mem_of_getElem? hs
      obtain ⟨kv1, q, gk1, q1, q2⟩ := hC2.get hsU
      obtain ⟨kv2, qa, gk2, qa1, qa2⟩ := hC2.get haU
      rw [gcd] at gk1 gk2
      cases gk1
      cases gk2
      rw [← hse] at hY hN ⊢
      rw [show kV (Sum.inr s : Key) = V.str s from rfl]
      walk_at "ss"
      have gq : F2 q = some (.tup ((ck s).map V.str)) := f2 _ _ (by rw [upd_ne (ne_of q2 gcd (fun z => by cases z))]; exact q2)
      have gqa : F2 qa = some (.tup ((ck a).map V.str)) := f2 _ _ (by rw [upd_ne (ne_of qa2 gcd (fun z => by cases z))]; exact qa2)
      refine ⟨cd, .ref q, rfl, .inl ⟨kv, .inr s, .inr ⟨od, f2 _ _ upd_same⟩, rfl, q1.symm⟩, ?_⟩
      walk_at "ss"
      refine ⟨cd, .ref qa, rfl, .inl ⟨kv, .inr a, .inr ⟨od, f2 _ _ upd_same⟩, rfl, qa1.symm⟩, ?_⟩
      refine c_eqT (SqT.of gq) (SqT.of gqa) (hC2.okc hsU) (hC2.okc haU) ?_
      rw [eqL_dec]
      walk_at "ss"
      refine if_cs (fun hc => ?_) (fun hc => ?_)
      · walk_at "ss"
        exact hY hc _ _ (Ex.refl _) rfl
      · exact hN hc _ (Ex.refl _)
    refine ⟨e3 _ _ upd_same, ?_⟩
    rw [paired_keys hpair, filt_keys _ hkeys] at g3
    have hplc : pl ≠ cd := by
      intro z
      subst z
      rw [upd_same] at hpl
      cases hpl
    have hpl2 : H2 pl = none := by rw [upd_ne hplc] at hpl; exact hpl
    have E3 : Ex H2 (upd G1 cd (.dK kv)) := ex_unlock gcd e3
    have gl3 : upd G1 cd (.dK kv) pl = some (.lst ((evn U ck a).map V.str)) := by rw [upd_ne hplc]; exact g3
    generalize upd G1 cd (.dK kv) = H3 at E3 gl3
    have X3 : ExB b H H3 := X2.trans (ExB.of E3)
    have B3 := b2.up E3
    have hC3 := hC2.up E3
    have npl := fresh_nb b2 hpl2
    have gaa := hC.good a haU
    have hev0 : 0 < (evn U ck a).length := List.length_pos_of_mem (evn_self haU)
    have hev1 : (evn U ck a).length ≤ U.length := List.length_filter_le _ _
    obtain ⟨kv, qa, gk, qa1, qa2⟩ := hC3.get haU
    have hcka := hC.ckg a haU
    walk_at "ss"
    refine if_cs (fun c0 => ?_) (fun c0 => ?_)
    · walk_at "ss"
      refine ⟨b, rfl, B3, fun v H4 hv x4 b4 => ?_⟩
      walk_at "ss"
      refine newT fun q5 H5 hq5 e5 g5 => ?_
      have hC5 := (hC3.upB x4 B3).up e5
      obtain ⟨kv, qa, gk, qa1, qa2⟩ := hC5.get haU
      walk_at "ss"
      refine ⟨cd, _, rfl, by rw [← qa1]; exact dgetK gk, ?_⟩
      walk_at "ss"
      refine newT fun q6 H6 hq6 e6 g6 => ?_
      exact k (.vd 0 x v a) (.ref q5) (ck a) qa q6 H6 (rwd_vd (by decide) gx gaa hv haU) ⟨q5, rfl, e6 _ _ g5⟩ hcka.1 hcka.2 (e6 _ _ qa2) g6 (X3.trans (x4.trans (ExB.of (e5.trans e6)))) (b4.up (e5.trans e6))
    walk_at "ss"
    have like : ∀ {v : V} {G5 G6 : Hp} {q5 qa q6 : Addr}, isVal v = true → G6 q5 = some (.tup [.str "like", .str x, v, .str a]) → G6 qa = some (.tup ((ck a).map V.str)) → G6 q6 = some (.tup [.ref q5, .ref qa]) → ExB b H G6 → BoxAt G6 b → Q (.ref q6) G6 := fun hv g5 ga g6 x6 b6 => k (.vd 2 x _ a) (.ref _) (ck a) _ _ _ (rwd_vd (by decide) gx gaa hv haU) ⟨_, rfl, g5⟩ hcka.1 hcka.2 ga g6 x6 b6
    refine c_cut (M := fun σ' G => (∃ v6 v7 v8 v9, σ' = [some (.ref b), some (.str x), some (.ref cd), some (.int form), some (.str a), some (.ref pl), v6, v7, v8, v9]) ∧ Ex H3 G ∧ (form = 5 → ck a ≠ [])) ?_ ?_
    · walk_at "ss"
      refine if_cs (fun c1 => ?_) (fun c1 => ?_)
      · walk_at "ss"
        refine ⟨b, rfl, B3, fun v H4 hv x4 b4 => ?_⟩
        walk_at "ss"
        refine newT fun q5 H5 hq5 e5 g5 => ?_
        have hC5 := (hC3.upB x4 B3).up e5
        obtain ⟨kv, qa, gk, qa1, qa2⟩ := hC5.get haU
        walk_at "ss"
        refine ⟨cd, _, rfl, by rw [← qa1]; exact dgetK gk, ?_⟩
        walk_at "ss"
        refine newT fun q6 H6 hq6 e6 g6 => ?_
        exact like hv (e6 _ _ g5) (e6 _ _ qa2) g6 (X3.trans (x4.trans (ExB.of (e5.trans e6)))) (b4.up (e5.trans e6)) (G5 := H5)
      · walk_at "ss"
        refine if_cs (fun c2 => ?_) (fun c2 => ?_)
        · have hf5 : form = 5 := V.int.inj (of_decide_eq_true c2)
          walk_at "ss"
          refine ⟨cd, _, rfl, by rw [← qa1]; exact dgetK gk, ?_⟩
          walk_at "ss"
          refine newT fun q4 H4 hq4 e4 g4 => ?_
          refine c_eqT (SqT.of (e4 _ _ qa2)) (SqT.of g4) (hC.okc haU) rfl ?_
          rw [eqL_nil]
          walk_at "ss"
          refine if_cs (fun c3 => ?_) (fun c3 => ?_)
          · walk_at "ss"
            refine ⟨b, rfl, B3.up e4, fun v H4' hv x4 b4 => ?_⟩
            walk_at "ss"
            refine newT fun q5 H5 hq5 e5 g5 => ?_
            have hC5 := ((hC3.up e4).upB x4 (B3.up e4)).up e5
            obtain ⟨kv, qa, gk, qa1, qa2⟩ := hC5.get haU
            walk_at "ss"
            refine ⟨cd, _, rfl, by rw [← qa1]; exact dgetK gk, ?_⟩
            walk_at "ss"
            refine newT fun q6 H6 hq6 e6 g6 => ?_
            exact like hv (e6 _ _ g5) (e6 _ _ qa2) g6 (X3.trans ((ExB.of e4).trans (x4.trans (ExB.of (e5.trans e6))))) (b4.up (e5.trans e6)) (G5 := H5)
          · walk_at "ss"
            refine ⟨⟨_, _, _, _, rfl⟩, e4, fun _ z => ?_⟩
            rw [z] at c3
            cases c3
        · walk_at "ss"
          refine ⟨⟨_, _, _, _, rfl⟩, Ex.refl _, fun z => absurd (by rw [z]) (of_decide_eq_false c2)⟩
    rintro σ' H4 ⟨⟨v6, v7, v8, v9, rfl⟩, e4, hne5⟩
    have hC4 := hC3.up e4
    have B4 := B3.up e4
    have X4 := X3.trans (ExB.of e4)
    have gl4 := e4 _ _ gl3
    obtain ⟨kv, qa, gk, qa1, qa2⟩ := hC4.get haU
    walk_at "ss"
    refine c_cut (M := fun σ' G => (∃ v6 v7 v8 v9, σ' = [some (.ref b), some (.str x), some (.ref cd), some (.int form), some (.str a), some (.ref pl), v6, v7, v8, v9]) ∧ G = H4) ?_ ?_
    · walk_at "ss"
      refine if_cs (fun c1 => ?_) (fun c1 => ?_)
      · walk_at "ss"
        refine ⟨cd, _, rfl, by rw [← qa1]; exact dgetK gk, ?_⟩
        walk_at "ss"
        refine ⟨qa, _, rfl, .inr (SqT.of qa2), ?_⟩
        walk_at "ss"
        refine if_cs (fun c2 => ?_) (fun c2 => ?_)
        · have hl4 : (ck a).length < 4 := by
            have := of_decide_eq_true c2
            rw [List.length_map] at this
            omega
          walk_at "ss"
          refine ⟨pl, _, rfl, .inl (SqL.of gl4), ?_⟩
          walk_at "ss"
          refine ⟨b, _, rfl, B4, by rw [List.length_map]; omega, by rw [List.length_map]; omega, fun d5 H5 d50 d51 x5 b5 => ?_⟩
          obtain ⟨cv, hcv, hcvm⟩ := at_in (xs := (evn U ck a).map V.str) (d := d5) d50 d51
          obtain ⟨cc, hcE, rfl⟩ := List.mem_map.mp hcvm
          have hcU := evn_sub hcE
          refine c_ixL (SqL.of (x5 _ _ npl gl4)) hcv ?_
          walk_at "ss"
          refine newT fun q6 H6 hq6 e6 g6 => ?_
          have hC6 := (hC4.upB x5 B4).up e6
          obtain ⟨kv, qa, gk, qa1, qa2⟩ := hC6.get haU
          walk_at "ss"
          refine ⟨cd, _, rfl, by rw [← qa1]; exact dgetK gk, ?_⟩
          walk_at "ss"
          refine newT fun q7 H7 hq7 e7 g7 => ?_
          refine c_catH (e7 _ _ qa2) g7 (by rw [List.length_map]; show _ + 1 ≤ _; omega) fun q8 H8 e8 g8 => ?_
          walk_at "ss"
          refine newT fun q9 H9 hq9 e9 g9 => ?_
          refine k (.wh x a cc) (.ref q6) (ck a ++ [cc]) q8 q9 H9 (rwd_wh gx gaa (hC.good cc hcU) haU hcU) ⟨q6, rfl, (e7.trans (e8.trans e9)) _ _ g6⟩ (by rw [List.length_append, List.length_singleton]; omega) (fun z hz => ?_) (by rw [e9 _ _ g8, List.map_append]; rfl) g9 (X4.trans (x5.trans (ExB.of (e6.trans (e7.trans (e8.trans e9)))))) (b5.up (e6.trans (e7.trans (e8.trans e9))))
          rcases List.mem_append.mp hz with h | h
          · exact hcka.2 z h
          · rw [List.mem_singleton.mp h]; exact hcU
        · walk_at "ss"
          exact ⟨⟨_, _, _, _, rfl⟩, rfl⟩
      · walk_at "ss"
        exact ⟨⟨_, _, _, _, rfl⟩, rfl⟩
    rintro σ' H5 ⟨⟨v6, v7, v8, v9, rfl⟩, rfl⟩
    walk_at "ss"
    refine if_cs (fun c1 => ?_) (fun c1 => ?_)
    · have hf5 : form = 5 := V.int.inj (of_decide_eq_true c1)
      have hne := hne5 hf5
      walk_at "ss"
      refine ⟨b, rfl, B4, fun v H6 hv x6 b6 => ?_⟩
      walk_at "ss"
      refine newT fun q7 H7 hq7 e7 g7 => ?_
      have hC7 := (hC4.upB x6 B4).up e7
      obtain ⟨kv, qa, gk, qa1, qa2⟩ := hC7.get haU
      walk_at "ss"
      refine ⟨cd, _, rfl, by rw [← qa1]; exact dgetK gk, ?_⟩
      walk_at "ss"
      refine c_slH qa2 fun q8 H8 e8 g8 => ?_
      rw [cut_init] at g8
      walk_at "ss"
      refine newT fun q9 H9 hq9 e9 g9 => ?_
      exact k (.vd 1 x v a) (.ref q7) (ck a).dropLast q8 q9 H9 (rwd_vd (by decide) gx gaa hv haU) ⟨q7, rfl, (e8.trans e9) _ _ g7⟩ (by rw [List.length_dropLast]; have := hcka.1; omega) (fun z hz => hcka.2 z ((List.dropLast_sublist _).subset hz)) (e9 _ _ g8) g9 (X4.trans (x6.trans (ExB.of (e7.trans (e8.trans e9))))) (b6.up (e7.trans (e8.trans e9)))
    walk_at "ss"
    refine ⟨b, 3, rfl, B4, by decide, by decide, fun m0 H6 m1 m2 x6 b6 => ?_⟩
    obtain ⟨m, rfl⟩ := Int.eq_ofNat_of_zero_le m1
    have gl6 := x6 _ _ npl gl4
    refine ⟨_, rfl, by omega, by omega, ?_⟩
    refine lcRN (b := b) (fun i y _ => ∃ s ∈ evn U ck a, y = .str s) (fun _ _ _ _ _ h => h) (by omega) b6 (fun i hi G8 bG8 xG8 R N hR => ?_) (fun ys p8 H8 hl8 hy8 hp8 x8 b8 g8 => ?_)
    · walk_at "ss"
      refine ⟨pl, _, rfl, .inl (SqL.of (xG8 _ _ npl gl6)), ?_⟩
      walk_at "ss"
      refine ⟨b, _, rfl, bG8, by rw [List.length_map]; omega, by rw [List.length_map]; omega, fun d5 H7 d50 d51 x7 b7 => ?_⟩
      obtain ⟨cv, hcv, hcvm⟩ := at_in (xs := (evn U ck a).map V.str) (d := d5) d50 d51
      obtain ⟨cc, hcE, rfl⟩ := List.mem_map.mp hcvm
      refine c_ixL (SqL.of (x7 _ _ npl (xG8 _ _ npl gl6))) hcv ?_
      exact hR _ _ x7 b7 ⟨cc, hcE, rfl⟩
    obtain ⟨ss, rfl, hss⟩ := strs_of (E := evn U ck a) (ys := ys) fun y hy => by
      obtain ⟨i, hi, rfl⟩ := List.mem_iff_getElem.mp hy
      exact hy8 i _ (List.getElem?_eq_getElem hi)
    rw [List.length_map] at hl8
    have hl8 : ss.length = m := hl8
    have X8 := X4.trans (x6.trans x8)
    walk_at "ss"
    refine newL fun q9 H9 hq9 e9 g9 => ?_
    walk_at "ss"
    refine c_cat g9 (e9 _ _ g8) (fun q10 H10 hq10 e10 g10 => ?_) (by rw [List.length_map]; show 1 + _ ≤ _; omega)
    have hsU : ∀ s ∈ a :: ss, s ∈ U := fun s hs => by
      rcases List.mem_cons.mp hs with e | hs
      · rw [e]; exact haU
      · exact evn_sub (hss s hs)
    walk_at "ss"
    refine ⟨b, q10, a :: ss, rfl, b8.up (e9.trans e10), g10, by simp, by rw [List.length_cons]; omega, fun s hs => hC.good s (hsU s hs), fun t u H11 ht hT x11 b11 => ?_⟩
    walk_at "ss"
    refine newT fun q12 H12 hq12 e12 g12 => ?_
    have X12 := X8.trans ((ExB.of (e9.trans e10)).trans (x11.trans (ExB.of e12)))
    have hC12 := hC.upB X12 hB
    obtain ⟨kv, qa, gk, qa1, qa2⟩ := hC12.get haU
    walk_at "ss"
    refine ⟨cd, _, rfl, by rw [← qa1]; exact dgetK gk, ?_⟩
    walk_at "ss"
    refine newT fun q13 H13 hq13 e13 g13 => ?_
    exact k (.pl x t) (.ref q12) (ck a) qa q13 H13 (rwd_pl gx ht hsU) ⟨q12, _, rfl, e13 _ _ g12, hT.up (e12.trans e13)⟩ hcka.1 hcka.2 (e13 _ _ qa2) g13 (X12.trans (ExB.of e13)) ((b11.up e12).up e13)

/-! ### the drawing of nodes: things in another order -/
open TL (tl)
/-- l != [] -/
def rNeNil (K : PySem.W.Frag) : R2 := fun x y H Q => ∃ (a b : Addr) (xs : List V), x = .ref a ∧ y = .ref b ∧ SqL K H a xs ∧ SqL K H b [] ∧ Q (.bl (!xs.isEmpty)) H
theorem op_neNil {X : Cx} (hu : X.A.units + 68 < cLine) : OpR X (compareOp .NotEq) (rNeNil X.K) := by
  intro pins s σ H x y v u Q I rx ry h
  obtain ⟨a, b, xs, rfl, rfl, ha, hb, q⟩ := h
  cases (show v = Value.ref a from rx)
  cases (show u = Value.ref b from ry)
  obtain ⟨us, r1, p1, _⟩ := I.list ha
  obtain ⟨ws, r2, p2, _⟩ := I.list hb
  cases r2
  cases xs with
  | nil =>
    cases r1
    exact NeL.lists_ne p1.isList p2.isList rfl (by omega) (fun j h1 h2 => absurd h1 (Nat.not_lt_zero j)) _ _ ⟨.bl false, H, I, rfl, q⟩
  | cons z zs =>
    cases r1
    exact SeqAt.RcNeAt.lists_lengths p1.isList p2.isList (by simp) (by omega) X.prog X.w _ _ ⟨.bl true, H, I, rfl, q⟩
def sp_turned_l : Sp := fun vs H Q _ => ∃ (α : Type) (f : α → V) (b l : Addr) (ns : List α), vs = [.ref b, .ref l] ∧ BoxAt H b ∧ (H l = some (.lst (ns.map f)) ∨ H l = some (.tup (ns.map f))) ∧ ns.length ≤ 300 ∧ ∀ (ms : List α) p H2, ms.Perm ns → H p = none → ExB b H H2 → BoxAt H2 b → H2 p = some (.lst (ms.map f)) → Q (.ref p) H2
theorem map_erase {α β : Type} (f : α → β) : ∀ (l : List α) (j : Nat), (l.eraseIdx j).map f = (l.map f).eraseIdx j
  | [], _ => rfl
  | _ :: _, 0 => rfl
  | a :: l, j + 1 => by
    show f a :: (l.eraseIdx j).map f = f a :: (l.map f).eraseIdx j
    rw [map_erase f l j]
theorem erase_perm {α : Type} : ∀ {l : List α} {j : Nat} (h : j < l.length), (l[j] :: l.eraseIdx j).Perm l
  | a :: l, 0, _ => List.Perm.refl _
  | a :: l, j + 1, h => by
    have hj : j < l.length := by rw [List.length_cons] at h; omega
    have ih := erase_perm (l := l) (j := j) hj
    exact (List.Perm.swap a l[j] _).trans (List.Perm.cons a ih)
theorem ok_turned_l (T : Txt K mg Z) : FnOk P w K mg base CX0 2 Z.f_turned_l Z.fd_turned_l ["_law_well", "_law_rows"] sp_turned_l := by
  have G_draw_l := ok_draw_l (P := P) (w := w) (base := base) T
  refine T.F_turned_l.ok sc_turned_l (fun vs H Q E h => ?_) (fun cdv AA outer s H vs Q E hr h => ?_)
  · obtain ⟨α, f, b, l, ns, rfl, _⟩ := h
    rfl
  · obtain ⟨α, f, b, l, ns, rfl, hB, hl, hn, k⟩ := h
    refine ⟨_, (pss_cons (ps_set (i := 2) sc_turned_l.nd rfl (Or.inl rfl) (pe_callTy call_list_of (by rfl) T.n_list (by decide +kernel) (pa_cons (pv 1) pa_nil)))
      (pss_cons (ps_set (i := 3) sc_turned_l.nd rfl (Or.inl rfl) (pe_lst pa_nil))
      (pss_cons (ps_while PassesOwn.never (pt_cmpR (op_neNil (hu68 hr)) (pv 2) (pe_lst pa_nil) (nomark _)) (pss_one (ps_expr (pe_bm PySem.F.plainAttrs_list PySem.F.slot_list_append PySem.F.type_list_append mt_append (pv 3) (pa_cons (pe_bm PySem.F.plainAttrs_list PySem.F.slot_list_pop PySem.F.type_list_pop mt_popAt (pv 2) (pa_cons (pe_call G_draw_l (hr.mono (by omega)) rfl T.g_draw_l T.F_draw_l.kp T.b_draw_l .nil pass0 (pa_cons (pv 0) (pa_cons (pe_callB call_len_seq (by rfl) T.n_len (by decide +kernel) (pa_cons (pv 2) pa_nil)) pa_nil))) pa_nil)) pa_nil)))))
      (pss_one (ps_ret (pv 3)))))), ?_⟩
    walk_at "ss"
    refine ⟨_, _, rfl, hl.elim (fun h => .inl (SqL.of h)) (fun h => .inr (SqT.of h)), fun lf hlf => ?_⟩
    have e1 : Ex H (upd H lf (.lst (ns.map f))) := Ex.new hlf
    have g1 : upd H lf (.lst (ns.map f)) lf = some (.lst (ns.map f)) := upd_same
    generalize upd H lf (.lst (ns.map f)) = H1 at e1 g1
    walk_at "ss"
    refine newL fun fd H2 hfd e2 g2 => ?_
    walk_at "ss"
    have hfdH : H fd = none := fresh_back e1 hfd
    have nfl : fd ≠ lf := (ne_of_none g1 hfd).symm
    have ob := (hB.up e1).some
    have nlb : lf ≠ b := by
      obtain ⟨o, ho⟩ := hB.some
      exact (ne_of_none ho hlf).symm
    have nfb : fd ≠ b := by
      obtain ⟨o, ho⟩ := ob
      exact (ne_of_none ho hfd).symm
    refine while_by (fun σ' G => σ' = [some (.ref b), some (.ref l), some (.ref lf), some (.ref fd)] ∧ ExB b H G ∧ BoxAt G b ∧ ∃ (fs ls : List α), (fs ++ ls).Perm ns ∧ G fd = some (.lst (fs.map f)) ∧ G lf = some (.lst (ls.map f)))
      (fun σ' G => match G lf with | some (.lst xs) => xs.length | _ => 0) ⟨rfl, ExB.of (e1.trans e2), hB.up (e1.trans e2), [], ns, List.Perm.refl _, g2, e2 _ _ g1⟩ ?_ ?_
    · rintro σ' G ⟨rfl, xG, bG, fs, ls, hperm, gf, gl⟩
      have hlen : fs.length + ls.length = ns.length := by rw [← List.length_append]; exact hperm.length_eq
      walk_at "ss"
      refine newL fun q G1 hq f1 m1 => ?_
      refine ⟨lf, q, _, rfl, rfl, SqL.of (f1 _ _ gl), SqL.of m1, ?_⟩
      walk_at "ss"
      cases ls with
      | nil =>
        refine if_ff (by rfl) ?_
        walk_at "ss"
        rw [List.append_nil] at hperm
        exact k fs fd G1 hperm hfdH (xG.trans (ExB.of f1)) (bG.up f1) (f1 _ _ gf)
      | cons a r =>
        refine if_tt (by rfl) ?_
        walk_at "ss"
        refine ⟨.inl ⟨rfl, _, SqL.of (f1 _ _ gf)⟩, ?_⟩
        walk_at "ss"
        refine ⟨.inl ⟨rfl, _, SqL.of (f1 _ _ gl)⟩, ?_⟩
        walk_at "ss"
        refine ⟨lf, _, rfl, .inl (SqL.of (f1 _ _ gl)), ?_⟩
        walk_at "ss"
        have hlr : ((a :: r).map f).length = r.length + 1 := by rw [List.length_map, List.length_cons]
        have hlen2 : fs.length + (r.length + 1) = ns.length := hlen
        refine ⟨b, _, rfl, bG.up f1, by rw [hlr]; omega, by rw [hlr]; omega, fun d G2 h0 h1 x2 b2 => ?_⟩
        rw [hlr] at h1
        obtain ⟨j, rfl⟩ := Int.eq_ofNat_of_zero_le h0
        have hj : j < (a :: r).length := by rw [List.length_cons]; omega
        have gl2 := x2 _ _ nlb (f1 _ _ gl)
        have gf2 := x2 _ _ nfb (f1 _ _ gf)
        refine ⟨lf, _, _, j, f ((a :: r)[j]'hj), rfl, rfl, gl2, by omega, by omega, ?_, ?_, ?_⟩
        · rw [seqIndex_of (by omega) (by rw [hlr]; omega)]
          rfl
        · rw [List.getElem?_map, List.getElem?_eq_getElem hj] <;> rfl
        have gf3 : upd G2 lf (.lst (((a :: r).map f).eraseIdx j)) fd = some (.lst (fs.map f)) := by rw [upd_ne nfl]; exact gf2
        refine ⟨fd, _, _, rfl, rfl, gf3, Evl.sz_lt (by rw [List.length_map]; omega), ?_⟩
        have he : ((a :: r).map f).eraseIdx j = ((a :: r).eraseIdx j).map f := (map_erase f (a :: r) j).symm
        have gl4 : upd (upd G2 lf (.lst (((a :: r).map f).eraseIdx j))) fd (.lst (fs.map f ++ [f ((a :: r)[j]'hj)])) lf = some (.lst (((a :: r).eraseIdx j).map f)) := by rw [upd_ne nfl.symm, upd_same, he]
        refine ⟨⟨rfl, exB_put (exB_put (xG.trans ((ExB.of f1).trans x2)) hlf) hfdH, box_put (box_put b2 nlb.symm) nfb.symm, fs ++ [(a :: r)[j]'hj], (a :: r).eraseIdx j, ?_, ?_, gl4⟩, ?_⟩
        · rw [List.append_assoc]
          exact (List.Perm.append_left fs (erase_perm hj)).trans hperm
        · rw [upd_same, List.map_append]
          rfl
        · rw [gl4, gl]
          show (((a :: r).eraseIdx j).map f).length < ((a :: r).map f).length
          rw [List.length_map, List.length_map, List.length_eraseIdx_of_lt hj, List.length_cons]
          omega
    · rintro σ' G Q Q' hq ⟨xa, h1, hz, h2⟩
      exact ⟨xa, h1, hz, fun p hp => let ⟨d, e, q1, q2, q3, q4, q5, kk, ek, q⟩ := h2 p hp; ⟨d, e, q1, q2, q3, q4, q5, kk, ek, hq _ _ q⟩⟩

/-! ### rows that are drawn -/
open TL (tl)
def setC (ck : Str → List Str) (n : Str) (c : List Str) : Str → List Str := fun s => if s = n then c else ck s
theorem setC_old {ck : Str → List Str} {n s : Str} {c : List Str} (h : s ≠ n) : setC ck n c s = ck s := if_neg h
theorem setC_new {ck : Str → List Str} {n : Str} {c : List Str} : setC ck n c n = c := if_pos rfl
/-- a name's clock is put in -/
theorem CkU.put {H : Hp} {cd p : Addr} {U : List Str} {ck : Str → List Str} {n : Str} {c : List Str} {kv : List (Key × V)} (h : CkU H cd U ck) (hk : H cd = some (.dK kv)) (hp : H p = some (.tup (c.map V.str))) (hn : n ∉ U) (gn : goodN n) (hl : U.length < 70) (hc : c.length ≤ 4) (hcU : ∀ z ∈ c, z ∈ U) : CkU (upd H cd (.dK (putK kv (.inr n) (.ref p)))) cd (U ++ [n]) (setC ck n c) := by
  obtain ⟨⟨kv', h3, h3', h3''⟩, h4, h5, h6, h7⟩ := h
  rw [hk] at h3
  cases h3
  refine ⟨⟨_, upd_same, ?_, fun s hs => ?_⟩, by simp, by rw [List.length_append, List.length_singleton]; omega, fun s hs => ?_, fun s hs => ?_⟩
  · rw [putK_fresh (by
      rw [h3']
      intro hm
      obtain ⟨z, hz, he⟩ := List.mem_map.mp hm
      cases Sum.inr.inj he
      exact hn hz), List.map_append, h3', List.map_append]
    rfl
  · rw [valV_put]
    unfold setC
    by_cases e : s = n
    · subst e
      rw [if_pos rfl, if_pos rfl]
      exact ⟨p, rfl, by rw [upd_ne (ne_of hp hk (fun z => by cases z))]; exact hp⟩
    · rw [if_neg (fun z => e (Sum.inr.inj z)), if_neg e]
      have hsU : s ∈ U := by simpa [e] using hs
      obtain ⟨q, q1, q2⟩ := h3'' s hsU
      exact ⟨q, q1, by rw [upd_ne (ne_of q2 hk (fun z => by cases z))]; exact q2⟩
  · rcases List.mem_append.mp hs with hs | hs
    · exact h6 s hs
    · rw [List.mem_singleton.mp hs]; exact gn
  · unfold setC
    by_cases e : s = n
    · rw [if_pos e]
      exact ⟨hc, fun z hz => List.mem_append_left _ (hcU z hz)⟩
    · rw [if_neg e]
      have hsU : s ∈ U := by simpa [e] using hs
      exact ⟨(h7 s hsU).1, fun z hz => List.mem_append_left _ ((h7 s hsU).2 z hz)⟩
theorem exN_put {S : List Addr} {p : Addr} {H G : Hp} {o : HO} (e : ExN S H G) (h : H p = none) : ExN S H (upd G p o) := fun a q na ha => by rw [upd_ne (ne_of_none ha h)]; exact e a q na ha
theorem left_nb {H : Hp} {b lf : Addr} {L : List Str} (hb : BoxAt H b) (hl : H lf = some (.lst (L.map V.str))) : lf ≠ b := box_ne hb hl (fun x y z e => by
  cases L with
  | nil => cases e
  | cons a l => cases e)
/-- a row over the names U -/
structure RwG (m : Nat) (U : List Str) (r : Rw) : Prop where
  good : r.good
  nocall : r.nocall
  pl : r.kind = 0 → r.names ≠ []
  names : ∀ s ∈ r.names, s ∈ U
  sm : ∀ ns, r = .sm ns → ns.length ≤ m
theorem RwD.g {m : Nat} {U : List Str} {x : Str} {r : Rw} (h : RwD U x r) : RwG m U r := ⟨h.good, h.nocall, h.pl, h.names, fun ns e => by have := h.tells; rw [e] at this; cases this⟩
theorem RwG.mono {m : Nat} {U U2 : List Str} {r : Rw} (h : RwG m U r) (hU : ∀ s ∈ U, s ∈ U2) : RwG m U2 r := ⟨h.good, h.nocall, h.pl, fun s hs => hU s (h.names s hs), h.sm⟩
theorem RwG.le {m m2 : Nat} {U : List Str} {r : Rw} (h : RwG m U r) (hm : m ≤ m2) : RwG m2 U r := ⟨h.good, h.nocall, h.pl, h.names, fun ns e => Nat.le_trans (h.sm ns e) hm⟩
theorem rwg_sm {m : Nat} {U ns : List Str} (h1 : 2 ≤ ns.length) (h2 : ns.length ≤ m) (hm : m ≤ 100) (hg : ∀ s ∈ ns, goodN s) (hU : ∀ s ∈ ns, s ∈ U) : RwG m U (.sm ns) := ⟨⟨h1, Nat.le_trans h2 hm, hg⟩, trivial, fun e => (by cases e), fun s hs => hU s (once_mem hs), fun ms e => by cases e; exact h2⟩
/-- what stands in the heap while rows are drawn -/
structure RlJ (b fl cd rl : Addr) (H0 G : Hp) (U L : List Str) (ck : Str → List Str) (rs : List Rw) (us : List V) : Prop where
  x : ExN [b, fl] H0 G
  box : BoxAt G b
  left : G fl = some (.lst (L.map V.str))
  cks : CkU G cd U ck
  rows : G rl = some (.lst us)
  par : Paired (RowAt G) rs us
  nrb : rl ≠ b
  nrf : rl ≠ fl
section
variable {b fl cd rl : Addr} {H0 G G2 : Hp} {U L : List Str} {ck : Str → List Str} {rs : List Rw} {us : List V}
theorem RlJ.nfb (h : RlJ b fl cd rl H0 G U L ck rs us) : fl ≠ b := left_nb h.box h.left
theorem RlJ.ex (h : RlJ b fl cd rl H0 G U L ck rs us) (e : Ex G G2) : RlJ b fl cd rl H0 G2 U L ck rs us :=
  ⟨h.x.trans (ExN.of e), h.box.up e, e _ _ h.left, h.cks.up e, e _ _ h.rows, paired_up (fun _ _ q => q.up e) h.par, h.nrb, h.nrf⟩
theorem RlJ.exB (h : RlJ b fl cd rl H0 G U L ck rs us) (e : ExB b G G2) (hb : BoxAt G2 b) : RlJ b fl cd rl H0 G2 U L ck rs us :=
  ⟨h.x.trans (ExN.box e (by simp)), hb, e _ _ h.nfb h.left, h.cks.upB e h.box, e _ _ h.nrb h.rows, paired_up (fun _ _ q => q.tu fun a xs ha => e _ _ (box_ne h.box ha (fun _ _ _ z => by cases z)) ha) h.par, h.nrb, h.nrf⟩
theorem CksAt.tu {H : Hp} (h : CksAt H cd U ck) (e : TupK H G) (ec : G cd = H cd) : CksAt G cd U ck := by
  obtain ⟨kv, h1, h2, h3⟩ := h
  refine ⟨kv, by rw [ec]; exact h1, h2, fun s hs => ?_⟩
  obtain ⟨p, h4, h5⟩ := h3 s hs
  exact ⟨p, h4, e _ _ h5⟩
theorem CkU.lst {H : Hp} {l : Addr} {xs ys : List V} (h : CkU H cd U ck) (hl : H l = some (.lst xs)) : CkU (upd H l (.lst ys)) cd U ck := by
  obtain ⟨kv, gk, _⟩ := h.kv
  exact ⟨h.cks.tu (NL.tups (NL.upd hl)) (upd_ne (ne_of gk hl (fun z => by cases z))), h.ne, h.len, h.good, h.ckg⟩
/-- the first name is taken -/
theorem RlJ.pop {n : Str} (h : RlJ b fl cd rl H0 G U (n :: L) ck rs us) : RlJ b fl cd rl H0 (upd G fl (.lst (L.map V.str))) U L ck rs us := by
  refine ⟨h.x.trans (ExN.upd (by simp)), box_put h.box h.nfb.symm, upd_same, h.cks.lst h.left, by rw [upd_ne h.nrf]; exact h.rows, paired_up (fun _ _ q => q.nl (NL.upd h.left)) h.par, h.nrb, h.nrf⟩
/-- a row more -/
theorem RlJ.app {r : Rw} {u : V} (h : RlJ b fl cd rl H0 G U L ck rs us) (hr : RowAt G r u) (hn : H0 rl = none) : RlJ b fl cd rl H0 (upd G rl (.lst (us ++ [u]))) U L ck (rs ++ [r]) (us ++ [u]) := by
  have n : NL G (upd G rl (.lst (us ++ [u]))) := NL.upd h.rows
  refine ⟨exN_put h.x hn, box_put h.box h.nrb.symm, by rw [upd_ne h.nrf.symm]; exact h.left, h.cks.lst h.rows, upd_same, ?_, h.nrb, h.nrf⟩
  exact paired_snoc (F := RowAt (upd G rl (.lst (us ++ [u])))) (hr.nl n) (paired_up (fun _ _ q => q.nl n) h.par)
/-- a clock more -/
theorem RlJ.put {n : Str} {p : Addr} {c : List Str} {kv : List (Key × V)} (h : RlJ b fl cd rl H0 G U L ck rs us) (hk : G cd = some (.dK kv)) (hp : G p = some (.tup (c.map V.str))) (hn : n ∉ U) (gn : goodN n) (hl : U.length < 70) (hc : c.length ≤ 4) (hcU : ∀ z ∈ c, z ∈ U) (h0 : H0 cd = none) : RlJ b fl cd rl H0 (upd G cd (.dK (putK kv (.inr n) (.ref p)))) (U ++ [n]) L (setC ck n c) rs us := by
  have t : TupK G (upd G cd (.dK (putK kv (.inr n) (.ref p)))) := tup_dk ExB.upd hk
  refine ⟨exN_put h.x h0, box_put h.box (box_ne h.box hk (fun _ _ _ z => by cases z)).symm, by rw [upd_ne (ne_of h.left hk (fun z => by cases z))]; exact h.left, h.cks.put hk hp hn gn hl hc hcU, by rw [upd_ne (ne_of h.rows hk (fun z => by cases z))]; exact h.rows, paired_up (fun _ _ q => q.tu t) h.par, h.nrb, h.nrf⟩
end
def sp_row_list_l : Sp := fun vs H Q _ => ∃ (b il fl : Addr) (ins fr : List Str) (n : Nat), vs = [.ref b, .ref il, .ref fl, .int (n : Nat)] ∧ BoxAt H b ∧ H il = some (.lst (ins.map V.str)) ∧ H fl = some (.lst (fr.map V.str)) ∧ ins ≠ [] ∧ (∀ s ∈ ins ++ fr, goodN s) ∧ (ins ++ fr).Nodup ∧ (ins ++ fr).length ≤ 60 ∧ n ≤ 60 ∧
  ∀ (rs : List Rw) (us : List V) (L : List Str) q H2, rs.flatMap Rw.tells ++ L = fr → (∀ r ∈ rs, RwG 10 (ins ++ rs.flatMap Rw.tells) r) → rs.length ≤ n + 1 → H q = none → H2 q = some (.lst us) → Paired (RowAt H2) rs us → ExN [b, fl] H H2 → BoxAt H2 b → Q (.ref q) H2
theorem rl_tells {rs : List Rw} {r : Rw} : (rs ++ [r]).flatMap Rw.tells = rs.flatMap Rw.tells ++ r.tells := by rw [List.flatMap_append]; simp
theorem pop0 {fl : Addr} {x : Str} {L : List Str} {H : Hp} {Q : VK} (h : H fl = some (.lst ((x :: L).map V.str))) (hl : L.length ≤ 1000) (k : Q (.str x) (upd H fl (.lst (L.map V.str)))) : rPopAt (.ref fl) [.int 0] H Q := by
  refine ⟨fl, _, 0, 0, .str x, rfl, rfl, h, by decide, by decide, ?_, rfl, k⟩
  rw [seqIndex_of (by omega) (by rw [List.length_map, List.length_cons]; omega)]
  rfl
theorem if_and {c1 c2 : Bool} {S E T : Prop} (hT : (if c2 = true then S else E) → T) (h1 : c1 = true → c2 = true → S) (h2 : (c1 && c2) = false → E) : if c1 = true then T else E := by
  cases c1 with
  | false => exact iteF (h2 rfl)
  | true =>
    refine iteT (hT ?_)
    cases c2 with
    | false => exact iteF (h2 rfl)
    | true => exact iteT (h1 rfl rfl)
theorem ok_row_list_l (T : Txt K mg Z) : FnOk P w K mg base CX0 4 Z.f_row_list_l Z.fd_row_list_l ["_law_well", "_law_inputs", "_law_free", "_law_many"] sp_row_list_l := by
  have G_draw_l := ok_draw_l (P := P) (w := w) (base := base) T
  have G_formed_l := ok_formed_l (P := P) (w := w) (base := base) T
  have G_some_value_l := ok_some_value_l (P := P) (w := w) (base := base) T
  have G_grown_l := ok_grown_l (P := P) (w := w) (base := base) T
  refine T.F_row_list_l.ok sc_row_list_l (fun vs H Q E h => ?_) (fun cdv AA outer s H vs Q E hr h => ?_)
  · obtain ⟨b, il, fl, ins, fr, n, rfl, _⟩ := h
    rfl
  · obtain ⟨b, il, fl, ins, fr, n, rfl, hB, gil, gfl, hin, hgood, hnod, hlen, hn, k⟩ := h
    refine ⟨_, (pss_cons (ps_set (i := 4) sc_row_list_l.nd rfl (Or.inr rfl) (pe_callTy (call_dictP rfl) (by rfl) T.n_dict (by decide +kernel) (pa_cons (pe_lc (own := [("_law_name", 5)]) (g := (gName 5)) (tt := tYes) (te := (tTup (tCons (tVar 5) (tCons (tTup tNil) tNil)))) rfl sc_row_list_l.nd (pi_list (pv 1)) (blkOk_by (own := [("_law_name", 5)]) (N := N_row_list_l) (sc := defScope s_row_list_l) (by decide +kernel)) (fun _ _ _ _ _ => (pg_name (i := 5) sc_row_list_l.nd rfl (Or.inl rfl))) (fun _ _ _ _ _ => pts_nil) (fun _ _ _ _ _ => (pe_tup (pa_cons (pv 5) (pa_cons (pe_tup pa_nil) pa_nil))))) pa_nil)))
      (pss_cons (ps_set (i := 6) sc_row_list_l.nd rfl (Or.inl rfl) (pe_lst pa_nil))
      (pss_cons (ps_while PassesOwn.never (PW.pt (pw_and (pt_cmpR (op_neNil (hu68 hr)) (pv 2) (pe_lst pa_nil) (nomark _)) (pw_and1 (pt_cmpR op_lt (pe_callB call_len_seq (by rfl) T.n_len (by decide +kernel) (pa_cons (pv 6) pa_nil)) (pv 3) (nomark _))))) (pss_cons (ps_set (i := 7) sc_row_list_l.nd rfl (Or.inl rfl) (pe_call G_draw_l (hr.mono (by omega)) rfl T.g_draw_l T.F_draw_l.kp T.b_draw_l .nil pass0 (pa_cons (pv 0) (pa_cons pe_int pa_nil))))
      (pss_cons (ps_set (i := 8) sc_row_list_l.nd rfl (Or.inr rfl) (pe_ix ix_list (pe_callTy (call_listD rfl) (by rfl) T.n_list (by decide +kernel) (pa_cons (pv 4) pa_nil)) (pe_call G_draw_l (hr.mono (by omega)) rfl T.g_draw_l T.F_draw_l.kp T.b_draw_l .nil pass0 (pa_cons (pv 0) (pa_cons (pe_callB call_lenD (by rfl) T.n_len (by decide +kernel) (pa_cons (pv 4) pa_nil)) pa_nil))) (fun _ _ => rfl)))
      (pss_cons (ps_set (i := 9) sc_row_list_l.nd rfl (Or.inr rfl) (pe_lock (pe_lc (own := [("_law_name", 5)]) (g := (gName 5)) (tt := (tTest (tOp (rEqD K) (tDGet (tVar 4) (tVar 5)) (tDGet (tVar 4) (tVar 8))))) (te := (tVar 5)) rfl sc_row_list_l.nd (pi_keys (pv 4)) (blkOk_by (own := [("_law_name", 5)]) (N := N_row_list_l) (sc := defScope s_row_list_l) (by decide +kernel)) (fun _ _ _ _ _ => (pg_name (i := 5) sc_row_list_l.nd rfl (Or.inl rfl))) (fun _ _ _ _ _ => (pts_one (pt_cmpR (op_eqD hr.units) (pe_dget (hu_of hr) (pv 4) (pv 5) (fun _ _ => rfl)) (pe_dget (hu_of hr) (pv 4) (pv 8) (fun _ _ => rfl)) (nomark _)))) (fun _ _ _ _ _ => (pv 5)))))
      (pss_one (ps_if (PW.pt (pw_and (pt_cmpR op_eq (pv 7) pe_int (nomark _)) (pw_and1 (pt_cmpR op_gt (pe_callB call_len_seq (by rfl) T.n_len (by decide +kernel) (pa_cons (pv 6) pa_nil)) pe_int (nomark _))))) (pss_cons (ps_setLc (i := 10) (own := [("_law_k", 11)]) (g := (gName 11)) (tt := tYes) (te := (tOp (rIxL K) (tVar 9) (tCall sp_draw_l [] E0 (tCons (tVar 0) (tCons (tCB (fun xs H Q => ∃ p ys, xs = [.ref p] ∧ (SqL K H p ys ∨ SqT K H p ys) ∧ Q (.int ys.length) H) (tCons (tVar 9) tNil)) tNil))))) rfl sc_row_list_l.nd rfl rfl (sw_true rfl rfl rfl (by decide +kernel)) (pi_range1 (by rfl) T.n_range (pa_cons (pe_op op_add pe_int (pe_call G_draw_l (hr.mono (by omega)) rfl T.g_draw_l T.F_draw_l.kp T.b_draw_l .nil pass0 (pa_cons (pv 0) (pa_cons pe_int pa_nil)))) pa_nil)) (blkOk_by (own := [("_law_k", 11)]) (N := N_row_list_l) (sc := defScope s_row_list_l) (by decide +kernel)) (fun _ _ _ _ _ => (pg_name (i := 11) sc_row_list_l.nd rfl (Or.inl rfl))) (fun _ _ _ _ _ => pts_nil) (fun _ _ _ _ _ => (pe_ix ix_list (pv 9) (pe_call G_draw_l (hr.mono (by omega)) rfl T.g_draw_l T.F_draw_l.kp T.b_draw_l .nil pass0 (pa_cons (pv 0) (pa_cons (pe_callB call_len_seq (by rfl) T.n_len (by decide +kernel) (pa_cons (pv 9) pa_nil)) pa_nil))) (fun _ _ => rfl))))
      (pss_one (ps_expr (pe_bm PySem.F.plainAttrs_list PySem.F.slot_list_append PySem.F.type_list_append mt_append (pv 6) (pa_cons (pe_tup (pa_cons pe_str (pa_cons (pe_callTy call_tuple_of (by rfl) T.n_tuple (by decide +kernel) (pa_cons (pe_op op_cat (pe_lst (pa_cons (pv 8) pa_nil)) (pv 10)) pa_nil)) pa_nil))) pa_nil))))) (pss_one (ps_if (PW.pt (pw_and (pt_cmpR op_eq (pv 7) pe_int (nomark _)) (pw_and1 (pt_cmpR op_gt (pe_callB call_len_seq (by rfl) T.n_len (by decide +kernel) (pa_cons (pv 2) pa_nil)) pe_int (nomark _))))) (pss_cons (ps_set (i := 12) sc_row_list_l.nd rfl (Or.inl rfl) (pe_bm PySem.F.plainAttrs_list PySem.F.slot_list_pop PySem.F.type_list_pop mt_popAt (pv 2) (pa_cons pe_int pa_nil)))
      (pss_cons (ps_set (i := 13) sc_row_list_l.nd rfl (Or.inl rfl) (pe_bm PySem.F.plainAttrs_list PySem.F.slot_list_pop PySem.F.type_list_pop mt_popAt (pv 2) (pa_cons pe_int pa_nil)))
      (pss_cons (ps_expr (pe_bm PySem.F.plainAttrs_list PySem.F.slot_list_append PySem.F.type_list_append mt_append (pv 6) (pa_cons (pe_tup (pa_cons pe_str (pa_cons (pv 12) (pa_cons (pe_call G_some_value_l (hr.mono (by omega)) rfl T.g_some_value_l T.F_some_value_l.kp T.b_some_value_l .nil pass0 (pa_cons (pv 0) pa_nil)) (pa_cons (pv 13) pa_nil))))) pa_nil)))
      (pss_cons (ps_expr (pe_bm PySem.F.plainAttrs_list PySem.F.slot_list_append PySem.F.type_list_append mt_append (pv 6) (pa_cons (pe_tup (pa_cons pe_str (pa_cons (pv 13) (pa_cons (pe_call G_formed_l (hr.mono (by omega)) rfl T.g_formed_l T.F_formed_l.kp T.b_formed_l .nil pass0 (pa_cons (pv 0) (pa_cons (pe_lst (pa_cons (pv 12) (pa_cons (pv 8) pa_nil))) pa_nil))) pa_nil)))) pa_nil)))
      (pss_cons (ps_dput (hu_of hr) (pv 4) (pv 12) (pe_dget (hu_of hr) (pv 4) (pv 8) (fun _ _ => rfl)) rfl)
      (pss_one (ps_dput (hu_of hr) (pv 4) (pv 13) (pe_dget (hu_of hr) (pv 4) (pv 8) (fun _ _ => rfl)) rfl))))))) (pss_cons (ps_set (i := 12) sc_row_list_l.nd rfl (Or.inl rfl) (pe_bm PySem.F.plainAttrs_list PySem.F.slot_list_pop PySem.F.type_list_pop mt_popAt (pv 2) (pa_cons pe_int pa_nil)))
      (pss_cons (ps_asg (pe_call G_grown_l (hr.mono (by omega)) rfl T.g_grown_l T.F_grown_l.kp T.b_grown_l .nil pass0 (pa_cons (pv 0) (pa_cons (pv 12) (pa_cons (pv 4) (pa_cons (pv 7) pa_nil))))) (pg_tup (by rfl) (pgs_cons (pg_name (i := 14) sc_row_list_l.nd rfl (Or.inl rfl)) (pgs_cons (pg_name (i := 15) sc_row_list_l.nd rfl (Or.inl rfl)) pgs_nil))))
      (pss_cons (ps_expr (pe_bm PySem.F.plainAttrs_list PySem.F.slot_list_append PySem.F.type_list_append mt_append (pv 6) (pa_cons (pv 14) pa_nil)))
      (pss_one (ps_dput (hu_of hr) (pv 4) (pv 12) (pv 15) rfl)))))))))))))
      (pss_one (ps_ret (pv 6)))))), ?_⟩
    have hlen' : ins.length + fr.length ≤ 60 := by rw [← List.length_append]; exact hlen
    walk_at "ss"
    refine ⟨⟨_, SqL.of gil⟩, lcW walk_list (fun G e => Evl.ex_l e (SqL.of gil)) (as := ins) (by rw [List.length_map]) (by rw [List.length_map]; omega) (fun _ => true) (fun D s w G => ∃ p q, w = .ref p ∧ G p = some (.tup [.str s, .ref q]) ∧ G q = some (.tup [])) ?_ ?_ ?_⟩
    · rintro D r y G G' eD eN ⟨p, q, h0, h1, h2⟩
      exact ⟨p, q, h0, NL.tup eN h1, NL.tup eN h2⟩
    · rintro D i s x hD hs hx G3 e3 ⟨o, ho⟩ R N hR hNo
      rw [List.getElem?_map, hs] at hx
      cases hx
      walk_at "ss"
      refine newT fun q3 G4 hq3 e4 g4 => ?_
      walk_at "ss"
      refine newT fun q5 G5 hq5 e5 g5 => ?_
      exact hR rfl _ _ (e4.trans e5) ⟨q5, q3, rfl, g5, e5 _ _ g4⟩
    intro ys pl0 H1 hys hpl0 e1 g1
    rw [List.filter_eq_self.mpr (fun _ _ => rfl)] at hys
    obtain ⟨ps, kvs, rfl, hps, hkeys, hmem⟩ := stp_pairs (K := K) (G := H1) (S := ins.map fun s => ((s, [], none) : Stp)) (paired_mapL (F := fun (x : Stp) (w : V) => ∃ b q, w = .ref b ∧ H1 b = some (.tup [.str x.1, .ref q]) ∧ H1 q = some (.tup (x.2.1.map V.str))) hys)
    have eins : (ins.map fun s => ((s, [], none) : Stp)).map (·.1) = ins := by rw [List.map_map]; exact List.map_id _
    rw [eins] at hkeys
    have hinN : ins.Nodup := (List.nodup_append.mp hnod).1
    have hknd : (kvs.map (·.1)).Nodup := by rw [hkeys]; exact nd_keys hinN
    walk_at "ss"
    refine ⟨pl0, ps, kvs, rfl, SqL.of g1, hps, fun cd hcd => ?_⟩
    rw [mergeK_nodup _ [] (by rw [List.nil_append]; exact hknd), List.nil_append]
    have e2 : Ex H1 (upd H1 cd (.dK kvs)) := Ex.new hcd
    have g2 : upd H1 cd (.dK kvs) cd = some (.dK kvs) := upd_same
    generalize upd H1 cd (.dK kvs) = H2 at e2 g2
    have hC2 : CkU H2 cd ins (fun _ => []) := ⟨⟨kvs, g2, hkeys, fun s hs => by
      obtain ⟨q, q1, q2⟩ := hmem _ (List.mem_map.mpr ⟨s, hs, rfl⟩)
      exact ⟨q, valV_mem hknd q1, e2 _ _ q2⟩⟩, hin, by omega, fun s hs => hgood s (List.mem_append_left _ hs), fun s hs => ⟨Nat.zero_le _, fun z hz => by cases hz⟩⟩
    have hcdH : H cd = none := fresh_back e1 hcd
    walk_at "ss"
    refine newL fun rl H3 hrl e3 g3 => ?_
    have e13 := e1.trans (e2.trans e3)
    have hrlH : H rl = none := fresh_back (e1.trans e2) hrl
    have J3 : RlJ b fl cd rl H H3 ins fr (fun _ => []) [] [] := ⟨ExN.of e13, hB.up e13, e13 _ _ gfl, hC2.up e3, g3, .nil, fresh_nb hB hrlH, (ne_of_none gfl hrlH).symm⟩
    walk_at "ss"
    refine while_do (fun σ' G => ∃ (U L : List Str) (ck : Str → List Str) (rs : List Rw) (us : List V) (v5 v7 v8 v9 v10 v11 v12 v13 v14 v15 : Option V), σ' = [some (.ref b), some (.ref il), some (.ref fl), some (.int (n : Nat)), some (.ref cd), v5, some (.ref rl), v7, v8, v9, v10, v11, v12, v13, v14, v15] ∧ RlJ b fl cd rl H G U L ck rs us ∧ U ++ L = ins ++ fr ∧ U = ins ++ rs.flatMap Rw.tells ∧ (∀ r ∈ rs, RwG 10 U r) ∧ rs.length ≤ n + 1)
      (fun (_ : L2.St) (G : Hp) => match G rl with | some (HO.lst xs) => n + 2 - xs.length | _ => 0) ⟨ins, fr, fun _ => [], [], [], _, _, _, _, _, _, _, _, _, _, rfl, J3, rfl, by simp, fun r hr => (by cases hr), by simp⟩ ?_
    rintro σ' G ⟨U, L, ck, rs, us, v5, v7, v8, v9, v10, v11, v12, v13, v14, v15, rfl, J, hUL, hUt, hrg, hrsl⟩
    have husl := paired_len J.par
    have hULl : U.length + L.length ≤ 60 := by rw [← List.length_append, hUL]; exact hlen
    walk_at "ss"
    refine newL fun el G1 hel f1 m1 => ?_
    have J1 := J.ex f1
    refine ⟨fl, el, _, rfl, rfl, SqL.of J1.left, SqL.of m1, ?_⟩
    walk_at "ss"
    have done : ∀ {G' : Hp}, RlJ b fl cd rl H G' U L ck rs us → Q (.ref rl) G' := fun J' =>
      k rs us L rl _ (by
        rw [hUt, List.append_assoc] at hUL
        exact List.append_cancel_left hUL) (by rw [← hUt]; exact hrg) hrsl hrlH J'.rows J'.par J'.x J'.box
    cases L with
    | nil =>
      refine if_ff (by rfl) ?_
      walk_at "ss"
      exact done J1
    | cons x L =>
      refine if_tt (by rfl) ?_
      walk_at "ss"
      refine ⟨rl, _, rfl, .inl (SqL.of J1.rows), ?_⟩
      walk_at "ss"
      refine if_cs (fun hb => c_turn ?_) (fun hb => ?_)
      · have hlt : rs.length < n := by have := of_decide_eq_true hb; omega
        have hgU : ∀ s ∈ U, goodN s := J.cks.good
        have hgL : ∀ s ∈ x :: L, goodN s := fun s hs => hgood s (by rw [← hUL]; exact List.mem_append_right _ hs)
        have hnUL : (U ++ (x :: L)).Nodup := by rw [hUL]; exact hnod
        have hxU : x ∉ U := fun hx => (List.nodup_append.mp hnUL).2.2 x hx x List.mem_cons_self rfl
        have hLl : L.length ≤ 1000 := by rw [List.length_cons] at hULl; omega
        have hUl : U.length < 59 + 1 := by rw [List.length_cons] at hULl; omega
        have dec : ∀ {G' : Hp} {us' : List V}, G' rl = some (.lst us') → us.length < us'.length → (match G' rl with | some (HO.lst xs) => n + 2 - xs.length | _ => 0) < (match G rl with | some (HO.lst xs) => n + 2 - xs.length | _ => 0) := fun hG' hl => by
          rw [hG', J.rows]
          show n + 2 - _ < n + 2 - us.length
          omega
        walk_at "ss"
        refine ⟨b, 9, rfl, J1.box, by decide, by decide, fun form G2 f20 f21 x2 b2 => ?_⟩
        have J2 := J1.exB x2 b2
        obtain ⟨kv, gcd, hkeys2, hkl⟩ := J2.cks.kv
        walk_at "ss"
        refine ⟨cd, _, rfl, .inl gcd, fun l0 hl0 => ?_⟩
        rw [keys_str hkeys2]
        have e4 : Ex G2 (upd G2 l0 (.lst (U.map V.str))) := Ex.new hl0
        have g4 : upd G2 l0 (.lst (U.map V.str)) l0 = some (.lst (U.map V.str)) := upd_same
        generalize upd G2 l0 (.lst (U.map V.str)) = G4 at e4 g4
        have nl0 := fresh_nb b2 hl0
        have J4 := J2.ex e4
        have hU0 : 0 < U.length := List.length_pos_iff.mpr J.cks.ne
        walk_at "ss"
        refine ⟨cd, kv, rfl, e4 _ _ gcd, ?_⟩
        walk_at "ss"
        refine ⟨b, _, rfl, J4.box, by omega, by omega, fun d G5 d0 d1 x5 b5 => ?_⟩
        obtain ⟨av, hav, havm⟩ := at_in (xs := U.map V.str) (d := d) d0 (by rw [List.length_map]; omega)
        obtain ⟨a, haU, rfl⟩ := List.mem_map.mp havm
        refine c_ixL (SqL.of (x5 _ _ nl0 g4)) hav ?_
        have J5 := J4.exB x5 b5
        obtain ⟨kv, gcd, hkeys2, hkl⟩ := J5.cks.kv
        have hC5 := J5.cks
        walk_at "ss"
        refine c_lockE gcd trivial fun od => ?_
        refine c_lcK ?_
        walk_at "ss"
        refine ⟨cd, od, rfl, .inl ⟨kv, upd_same, ?_⟩⟩
        refine lcK (fun p => keyB (fun s => decide (ck s = ck a)) p.1) (fun p y G => y = kV p.1) (fun p y G G2 hn h => h) upd_same (by omega) (fun i p hp F2 f2 R N hY hN => ?_) (fun ys pl G6 hpair hpl e6 g6 => ?_)
        · have hk1 : (kv.map (·.1))[i]? = some p.1 := by rw [List.getElem?_map, hp]; rfl
          rw [hkeys2, List.getElem?_map] at hk1
          obtain ⟨s, hs, hse⟩ := Option.map_eq_some_iff.mp hk1
          have hsU := List.mem_of_getElem? hs
          obtain ⟨kv1, q, gk1, q1, q2⟩ := hC5.get hsU
          obtain ⟨kv2, qa, gk2, qa1, qa2⟩ := hC5.get haU
          rw [gcd] at gk1 gk2
          cases gk1
          cases gk2
          rw [← hse] at hY hN ⊢
          rw [show kV (Sum.inr s : Key) = V.str s from rfl]
          walk_at "ss"
          have gq : F2 q = some (.tup ((ck s).map V.str)) := f2 _ _ (by rw [upd_ne (ne_of q2 gcd (fun z => by cases z))]; exact q2)
          have gqa : F2 qa = some (.tup ((ck a).map V.str)) := f2 _ _ (by rw [upd_ne (ne_of qa2 gcd (fun z => by cases z))]; exact qa2)
          refine ⟨cd, .ref q, rfl, .inl ⟨kv, .inr s, .inr ⟨od, f2 _ _ upd_same⟩, rfl, q1.symm⟩, ?_⟩
          walk_at "ss"
          refine ⟨cd, .ref qa, rfl, .inl ⟨kv, .inr a, .inr ⟨od, f2 _ _ upd_same⟩, rfl, qa1.symm⟩, ?_⟩
          refine c_eqT (SqT.of gq) (SqT.of gqa) (hC5.okc hsU) (hC5.okc haU) ?_
          rw [eqL_dec]
          walk_at "ss"
          refine if_cs (fun hc => ?_) (fun hc => ?_)
          · walk_at "ss"
            exact hY hc _ _ (Ex.refl _) rfl
          · exact hN hc _ (Ex.refl _)
        refine ⟨e6 _ _ upd_same, ?_⟩
        rw [paired_keys hpair, filt_keys _ hkeys2] at g6
        have hplc : pl ≠ cd := by
          intro z
          subst z
          rw [upd_same] at hpl
          cases hpl
        have hpl2 : G5 pl = none := by rw [upd_ne hplc] at hpl; exact hpl
        have E6 : Ex G5 (upd G6 cd (.dK kv)) := ex_unlock gcd e6
        have gl6 : upd G6 cd (.dK kv) pl = some (.lst ((evn U ck a).map V.str)) := by rw [upd_ne hplc]; exact g6
        generalize upd G6 cd (.dK kv) = G6 at E6 gl6
        have J6 := J5.ex E6
        have npl := fresh_nb b5 hpl2
        have nplf : pl ≠ fl := (ne_of_none J5.left hpl2).symm
        have gaa := hgU a haU
        have hev0 : 0 < (evn U ck a).length := List.length_pos_of_mem (evn_self haU)
        have hev1 : (evn U ck a).length ≤ U.length := List.length_filter_le _ _
        have hcka := J.cks.ckg a haU
        walk_at "ss"
        have ends : ∀ {G' : Hp} {U' L' : List Str} {ck' : Str → List Str} {rs2 : List Rw} {us2 : List V} {σ' : L2.St}, RlJ b fl cd rl H G' U' L' ck' (rs ++ rs2) (us ++ us2) → U' ++ L' = ins ++ fr → U' = U ++ rs2.flatMap Rw.tells → (∀ r ∈ rs2, RwG 10 U' r) → 1 ≤ rs2.length → rs2.length ≤ 2 → 1 ≤ us2.length → (∃ (v5 v7 v8 v9 v10 v11 v12 v13 v14 v15 : Option V), σ' = [some (.ref b), some (.ref il), some (.ref fl), some (.int (n : Nat)), some (.ref cd), v5, some (.ref rl), v7, v8, v9, v10, v11, v12, v13, v14, v15]) →
            (∃ (U L : List Str) (ck : Str → List Str) (rs : List Rw) (us : List V) (v5 v7 v8 v9 v10 v11 v12 v13 v14 v15 : Option V), σ' = [some (.ref b), some (.ref il), some (.ref fl), some (.int (n : Nat)), some (.ref cd), v5, some (.ref rl), v7, v8, v9, v10, v11, v12, v13, v14, v15] ∧ RlJ b fl cd rl H G' U L ck rs us ∧ U ++ L = ins ++ fr ∧ U = ins ++ rs.flatMap Rw.tells ∧ (∀ r ∈ rs, RwG 10 U r) ∧ rs.length ≤ n + 1) ∧ (match G' rl with | some (HO.lst xs) => n + 2 - xs.length | _ => 0) < (match G rl with | some (HO.lst xs) => n + 2 - xs.length | _ => 0) := by
          rintro G' U' L' ck' rs2 us2 σ' J' h1 h2 h3 l1 l2 l3 ⟨w5, w7, w8, w9, w10, w11, w12, w13, w14, w15, rfl⟩
          refine ⟨⟨U', L', ck', rs ++ rs2, us ++ us2, _, _, _, _, _, _, _, _, _, _, rfl, J', h1, by rw [List.flatMap_append, h2, hUt, List.append_assoc], fun q hq => ?_, by rw [List.length_append]; omega⟩, dec J'.rows (by rw [List.length_append]; omega)⟩
          rcases List.mem_append.mp hq with hq | hq
          · exact (hrg q hq).mono fun s hs => by rw [h2]; exact List.mem_append_left _ hs
          · exact h3 q hq
        apply if_and
        · intro hE
          walk_at "ss"
          refine ⟨rl, _, rfl, .inl (SqL.of J6.rows), ?_⟩
          walk_at "ss"
          exact hE
        · intro k1 k2
          walk_at "ss"
          refine ⟨b, 3, rfl, J6.box, by decide, by decide, fun m0 G7 m1 m2 x7 b7 => ?_⟩
          obtain ⟨m, rfl⟩ := Int.eq_ofNat_of_zero_le m1
          have gl7 := x7 _ _ npl gl6
          have J7 := J6.exB x7 b7
          walk_at "ss"
          refine ⟨by omega, by omega, ?_⟩
          refine lcRN (b := b) (fun i y _ => ∃ s ∈ evn U ck a, y = .str s) (fun _ _ _ _ _ h => h) (by omega) b7 (fun i hi G8 bG8 xG8 R N hR => ?_) (fun ys p8 G8 hl8 hy8 hp8 x8 b8 g8 => ?_)
          · walk_at "ss"
            refine ⟨pl, _, rfl, .inl (SqL.of (xG8 _ _ npl gl7)), ?_⟩
            walk_at "ss"
            refine ⟨b, _, rfl, bG8, by rw [List.length_map]; omega, by rw [List.length_map]; omega, fun d5 H7 d50 d51 x7 b7 => ?_⟩
            obtain ⟨cv, hcv, hcvm⟩ := at_in (xs := (evn U ck a).map V.str) (d := d5) d50 d51
            obtain ⟨cc, hcE, rfl⟩ := List.mem_map.mp hcvm
            refine c_ixL (SqL.of (x7 _ _ npl (xG8 _ _ npl gl7))) hcv ?_
            exact hR _ _ x7 b7 ⟨cc, hcE, rfl⟩
          obtain ⟨ss, rfl, hss⟩ := strs_of (E := evn U ck a) (ys := ys) fun y hy => by
            obtain ⟨i, hi, rfl⟩ := List.mem_iff_getElem.mp hy
            exact hy8 i _ (List.getElem?_eq_getElem hi)
          rw [List.length_map] at hl8
          have hl8 : ss.length = 1 + m := by rw [hl8]; omega
          have J8 := J7.exB x8 b8
          walk_at "ss"
          refine ⟨.inl ⟨rfl, _, SqL.of J8.rows⟩, ?_⟩
          walk_at "ss"
          refine newL fun q9 G9 hq9 e9 g9 => ?_
          walk_at "ss"
          refine c_cat g9 (e9 _ _ g8) (fun q10 G10 hq10 e10 g10 => ?_) (by rw [List.length_map]; show 1 + _ ≤ _; omega)
          walk_at "ss"
          refine ⟨q10, _, rfl, .inl ⟨SqL.of g10, fun q11 hq11 => ?_⟩⟩
          have e11 : Ex G10 (upd G10 q11 (.tup ([V.str a] ++ ss.map V.str))) := Ex.new hq11
          have g11 : upd G10 q11 (.tup ([V.str a] ++ ss.map V.str)) q11 = some (.tup ([V.str a] ++ ss.map V.str)) := upd_same
          generalize upd G10 q11 (.tup ([V.str a] ++ ss.map V.str)) = G11 at e11 g11
          walk_at "ss"
          refine newT fun q12 G12 hq12 e12 g12 => ?_
          have J12 := J8.ex (e9.trans (e10.trans (e11.trans e12)))
          have hsU : ∀ s ∈ a :: ss, s ∈ U := fun s hs => by
            rcases List.mem_cons.mp hs with e | hs
            · rw [e]; exact haU
            · exact evn_sub (hss s hs)
          refine ⟨rl, _, _, rfl, rfl, J12.rows, Evl.sz_lt (by omega), ?_⟩
          walk_at "ss"
          exact ends (rs2 := [.sm (a :: ss)]) (us2 := [.ref q12]) (J12.app (r := .sm (a :: ss)) ⟨q12, q11, rfl, g12, e12 _ _ g11⟩ hrlH) hUL (by simp [Rw.tells]) (fun r hr => by
            rw [List.mem_singleton.mp hr]
            exact rwg_sm (by rw [List.length_cons]; omega) (by rw [List.length_cons]; omega) (by decide) (fun s hs => hgU s (hsU s hs)) hsU) (by simp) (by simp) (by simp) ⟨_, _, _, _, _, _, _, _, _, _, rfl⟩
        intro k8
        walk_at "ss"
        apply if_and
        · intro hE
          walk_at "ss"
          refine ⟨fl, _, rfl, .inl (SqL.of J6.left), ?_⟩
          walk_at "ss"
          exact hE
        · intro k1 k2
          have hL2 : 1 < ((x :: L).map V.str).length := by have := of_decide_eq_true k2; omega
          cases L with
          | nil => simp at hL2
          | cons y L =>
            walk_at "ss"
            refine ⟨.inl ⟨rfl, _, SqL.of J6.left⟩, ?_⟩
            walk_at "ss"
            refine pop0 J6.left hLl ?_
            have J7 := J6.pop
            generalize upd G6 fl (.lst ((y :: L).map V.str)) = G7 at J7
            walk_at "ss"
            refine ⟨.inl ⟨rfl, _, SqL.of J7.left⟩, ?_⟩
            walk_at "ss"
            refine pop0 J7.left (by rw [List.length_cons] at hLl; omega) ?_
            have J8 := J7.pop
            generalize upd G7 fl (.lst (L.map V.str)) = G8 at J8
            have gx := hgL x (by simp)
            have gy := hgL y (by simp)
            have hyU : y ∉ U := fun hy => (List.nodup_append.mp hnUL).2.2 y hy y (by simp) rfl
            have hxy : x ≠ y := fun e => by
              have := (List.nodup_append.mp hnUL).2.1
              rw [e] at this
              exact (List.nodup_cons.mp this).1 (by simp)
            have hay : a ≠ x := fun e => hxU (e ▸ haU)
            walk_at "ss"
            refine ⟨.inl ⟨rfl, _, SqL.of J8.rows⟩, ?_⟩
            walk_at "ss"
            refine ⟨b, rfl, J8.box, fun v G9 hv x9 b9 => ?_⟩
            have J9 := J8.exB x9 b9
            walk_at "ss"
            refine newT fun q10 G10 hq10 e10 g10 => ?_
            have J10 := J9.ex e10
            refine ⟨rl, _, _, rfl, rfl, J10.rows, Evl.sz_lt (by omega), ?_⟩
            have J11 := J10.app (r := .vd 0 x v y) (u := .ref q10) ⟨q10, rfl, g10⟩ hrlH
            generalize upd G10 rl (.lst (us ++ [V.ref q10])) = G11 at J11
            walk_at "ss"
            refine ⟨.inl ⟨rfl, _, SqL.of J11.rows⟩, ?_⟩
            walk_at "ss"
            refine newL fun q12 G12 hq12 e12 g12 => ?_
            have J12 := J11.ex e12
            refine ⟨b, q12, [x, a], rfl, J12.box, g12, by simp, by simp, fun s hs => ?_, fun t u G13 ht hT x13 b13 => ?_⟩
            · have : s = x ∨ s = a := by simpa using hs
              rcases this with e | e
              · rw [e]; exact gx
              · rw [e]; exact gaa
            have J13 := J12.exB x13 b13
            walk_at "ss"
            refine newT fun q14 G14 hq14 e14 g14 => ?_
            have J14 := J13.ex e14
            refine ⟨rl, _, _, rfl, rfl, J14.rows, Evl.sz_lt (by rw [List.length_append, List.length_singleton]; omega), ?_⟩
            have J15 := J14.app (r := .pl y t) (u := .ref q14) ⟨q14, u, rfl, g14, hT.up e14⟩ hrlH
            generalize upd G14 rl (.lst (us ++ [V.ref q10] ++ [V.ref q14])) = G15 at J15
            have hUl2 : U.length < 59 := by rw [List.length_cons, List.length_cons] at hULl; omega
            obtain ⟨kv, qa, gk, qa1, qa2⟩ := J15.cks.get haU
            have hkl := J15.cks.kv
            walk_at "ss"
            refine ⟨cd, _, rfl, by rw [← qa1]; exact dgetK gk, ?_⟩
            walk_at "ss"
            refine ⟨cd, _, rfl, .inl ⟨_, .inr x, gk, rfl, Evl.sz_lt (by
              obtain ⟨kv', h1, _, h3⟩ := hkl
              rw [gk] at h1
              cases h1
              omega), rfl⟩, ?_⟩
            have J16 := J15.put gk qa2 hxU gx (by omega) hcka.1 hcka.2 hcdH
            generalize upd G15 cd (.dK (putK kv (.inr x) (.ref qa))) = G16 at J16
            obtain ⟨kv, qa, gk, qa1, qa2⟩ := J16.cks.get (List.mem_append_left [x] haU)
            rw [setC_old hay] at qa2
            have hkl := J16.cks.kv
            walk_at "ss"
            refine ⟨cd, _, rfl, by rw [← qa1]; exact dgetK gk, ?_⟩
            walk_at "ss"
            refine ⟨cd, _, rfl, .inl ⟨_, .inr y, gk, rfl, Evl.sz_lt (by
              obtain ⟨kv', h1, _, h3⟩ := hkl
              rw [gk] at h1
              cases h1
              rw [List.length_append, List.length_singleton] at h3
              omega), rfl⟩, ?_⟩
            have hyU2 : y ∉ U ++ [x] := fun hm => by
              rcases List.mem_append.mp hm with hm | hm
              · exact hyU hm
              · exact hxy (List.mem_singleton.mp hm).symm
            have J17 := J16.put gk qa2 hyU2 gy (by rw [List.length_append, List.length_singleton]; omega) hcka.1 (fun z hz => List.mem_append_left _ (hcka.2 z hz)) hcdH
            generalize upd G16 cd (.dK (putK kv (.inr y) (.ref qa))) = G17 at J17
            walk_at "ss"
            rw [List.append_assoc rs, List.append_assoc us] at J17
            have hin2 : ∀ s, s = x ∨ s = y ∨ s ∈ U → s ∈ U ++ [x] ++ [y] := fun s h => by
              rcases h with e | e | e
              · rw [e]; simp
              · rw [e]; simp
              · simp [e]
            exact ends (rs2 := [.vd 0 x v y, .pl y t]) (us2 := [.ref q10, .ref q14]) J17 (by rw [← hUL]; simp) (by simp [Rw.tells]) (fun r hr => by
              have : r = .vd 0 x v y ∨ r = .pl y t := by simpa using hr
              rcases this with e | e
              · rw [e]; exact (rwd_vd (by decide) gx gy hv (hin2 y (.inr (.inl rfl)))).g
              · rw [e]
                exact (rwd_pl gy ht fun s hs => by
                  have : s = x ∨ s = a := by simpa using hs
                  rcases this with e | e
                  · exact hin2 s (.inl e)
                  · rw [e]; exact hin2 a (.inr (.inr haU))).g) (by simp) (by simp) (by simp) ⟨_, _, _, _, _, _, _, _, _, _, rfl⟩
        intro k7
        walk_at "ss"
        refine ⟨.inl ⟨rfl, _, SqL.of J6.left⟩, ?_⟩
        walk_at "ss"
        refine pop0 J6.left hLl ?_
        have J7 := J6.pop
        generalize upd G6 fl (.lst (L.map V.str)) = G7 at J7
        have gx := hgL x (by simp)
        walk_at "ss"
        refine ⟨b, cd, x, form, U, ck, rfl, J7.box, J7.cks, gx, fun r u c q w G8 hr hR hc hcU gq gw x8 b8 => ?_⟩
        have J8 := J7.exB x8 b8
        refine c_gTup (SqT.of gw) rfl ?_
        walk_at "ss"
        refine ⟨.inl ⟨rfl, _, SqL.of J8.rows⟩, ?_⟩
        walk_at "ss"
        refine ⟨rl, _, _, rfl, rfl, J8.rows, Evl.sz_lt (by omega), ?_⟩
        have J9 := J8.app hR hrlH
        have gq9 : upd G8 rl (.lst (us ++ [u])) q = some (.tup (c.map V.str)) := NL.tup (NL.upd J8.rows) gq
        generalize upd G8 rl (.lst (us ++ [u])) = G9 at J9 gq9
        obtain ⟨kv, gk, hk1, hk2⟩ := J9.cks.kv
        walk_at "ss"
        refine ⟨cd, _, rfl, .inl ⟨_, .inr x, gk, rfl, Evl.sz_lt (by omega), rfl⟩, ?_⟩
        have J10 := J9.put gk gq9 hxU gx (by omega) hc hcU hcdH
        walk_at "ss"
        exact ends (rs2 := [r]) (us2 := [u]) J10 (by rw [← hUL]; simp) (by simp [hr.tells]) (fun q hq => by
          rw [List.mem_singleton.mp hq]
          exact hr.g.mono fun s hs => List.mem_append_left _ hs) (by simp) (by simp) (by simp) ⟨_, _, _, _, _, _, _, _, _, _, rfl⟩
      · walk_at "ss"
        exact done J1

/-! ### a row that is put otherwise; names that are told -/
open TL (tl)
theorem cutv_takeC {l : List V} {i : Nat} : cutV l none (some (i : Int)) = l.take i := by
  unfold cutV
  rw [HT.sIx_none, HT.sIx_nat, List.drop_zero, Nat.sub_zero]
  rcases Nat.le_total i l.length with h | h
  · rw [Nat.min_eq_left h]
  · rw [Nat.min_eq_right h, List.take_of_length_le (Nat.le_refl _), List.take_of_length_le h]
theorem paired_dropC {α β : Type} {F : α → β → Prop} : ∀ {l : List α} {m : List β}, Paired F l m → ∀ i : Nat, Paired F (l.drop i) (m.drop i)
  | _, _, .nil, i => by rw [List.drop_nil, List.drop_nil]; exact .nil
  | _, _, .cons h t, 0 => .cons h t
  | _, _, .cons h t, i + 1 => paired_dropC t i
theorem paired_appC {α β : Type} {F : α → β → Prop} : ∀ {l : List α} {m : List β} {l2 : List α} {m2 : List β}, Paired F l m → Paired F l2 m2 → Paired F (l ++ l2) (m ++ m2)
  | _, _, _, _, .nil, h => h
  | _, _, _, _, .cons h t, h2 => .cons h (paired_appC t h2)
theorem row_at {rs : List Rw} {i : Nat} {r : Rw} (h : rs[i]? = some r) : rs = rs.take i ++ (r :: rs.drop (i + 1)) := by
  obtain ⟨hl, he⟩ := List.getElem?_eq_some_iff.mp h
  conv => lhs; rw [← List.take_append_drop i rs, List.drop_eq_getElem_cons hl, he]
def sp_spoilt_l : Sp := fun vs H Q _ => ∃ (b l nl : Addr) (rs : List Rw) (us : List V) (ns U : List Str) (m : Nat), vs = [.ref b, .ref l, .ref nl] ∧ BoxAt H b ∧ H l = some (.lst us) ∧ Paired (RowAt H) rs us ∧ rs ≠ [] ∧ rs.length ≤ 200 ∧ H nl = some (.lst (ns.map V.str)) ∧ ns ≠ [] ∧ ns.length ≤ 1000 ∧ (∀ s ∈ ns, goodN s ∧ s ∈ U) ∧ (∀ r ∈ rs, RwG m U r) ∧ 1 ≤ m ∧ m < 100 ∧
  ∀ (rs2 : List Rw) (us2 : List V) q H2, rs2.flatMap Rw.tells = rs.flatMap Rw.tells → rs2.length = rs.length → (∀ r ∈ rs2, RwG (m + 1) U r) → H q = none → H2 q = some (.lst us2) → Paired (RowAt H2) rs2 us2 → ExB b H H2 → BoxAt H2 b → Q (.ref q) H2
theorem ok_spoilt_l (T : Txt K mg Z) : FnOk P w K mg base CX0 3 Z.f_spoilt_l Z.fd_spoilt_l ["_law_well", "_law_rows", "_law_names"] sp_spoilt_l := by
  have G_draw_l := ok_draw_l (P := P) (w := w) (base := base) T
  have G_formed_l := ok_formed_l (P := P) (w := w) (base := base) T
  refine T.F_spoilt_l.ok sc_spoilt_l (fun vs H Q E h => ?_) (fun cdv AA outer s H vs Q E hr h => ?_)
  · obtain ⟨b, l, nl, rs, us, ns, U, m, rfl, _⟩ := h
    rfl
  · obtain ⟨b, l, nl, rs, us, ns, U, m, rfl, hB, gl, hP, hrs, hrl, gn, hns, hnl, hgn, hrg, hm1, hm, k⟩ := h
    refine ⟨_, (pss_cons (ps_set (i := 3) sc_spoilt_l.nd rfl (Or.inl rfl) (pe_call G_draw_l (hr.mono (by omega)) rfl T.g_draw_l T.F_draw_l.kp T.b_draw_l .nil pass0 (pa_cons (pv 0) (pa_cons (pe_callB call_len_seq (by rfl) T.n_len (by decide +kernel) (pa_cons (pv 1) pa_nil)) pa_nil))))
      (pss_cons (ps_set (i := 4) sc_spoilt_l.nd rfl (Or.inl rfl) (pe_ix ix_list (pv 1) (pv 3) (fun _ _ => rfl)))
      (pss_cons (ps_set (i := 5) sc_spoilt_l.nd rfl (Or.inl rfl) (pe_ix ix_list (pv 2) (pe_call G_draw_l (hr.mono (by omega)) rfl T.g_draw_l T.F_draw_l.kp T.b_draw_l .nil pass0 (pa_cons (pv 0) (pa_cons (pe_callB call_len_seq (by rfl) T.n_len (by decide +kernel) (pa_cons (pv 2) pa_nil)) pa_nil))) (fun _ _ => rfl)))
      (Evl.pss_cut (ps_if (pt_cmpR op_eq (pe_ix ix_tup (pv 4) pe_int (fun _ _ => rfl)) pe_str (nomark _)) (pss_one (ps_set (i := 4) sc_spoilt_l.nd rfl (Or.inl rfl) (pe_tup (pa_cons pe_str (pa_cons (pe_ix ix_tup (pv 4) pe_int (fun _ _ => rfl)) (pa_cons (pe_call G_formed_l (hr.mono (by omega)) rfl T.g_formed_l T.F_formed_l.kp T.b_formed_l .nil pass0 (pa_cons (pv 0) (pa_cons (pe_lst (pa_cons (pv 5) (pa_cons (pe_ix ix_list (pv 2) (pe_call G_draw_l (hr.mono (by omega)) rfl T.g_draw_l T.F_draw_l.kp T.b_draw_l .nil pass0 (pa_cons (pv 0) (pa_cons (pe_callB call_len_seq (by rfl) T.n_len (by decide +kernel) (pa_cons (pv 2) pa_nil)) pa_nil))) (fun _ _ => rfl)) pa_nil))) pa_nil))) pa_nil)))))) (pss_one (ps_if (pt_cmpR op_eq (pe_ix ix_tup (pv 4) pe_int (fun _ _ => rfl)) pe_str (nomark _)) (pss_one (ps_set (i := 4) sc_spoilt_l.nd rfl (Or.inl rfl) (pe_tup (pa_cons pe_str (pa_cons (pe_op op_catA (pe_ix ix_tup (pv 4) pe_int (fun _ _ => rfl)) (pe_tup (pa_cons (pv 5) pa_nil))) pa_nil))))) (pss_one (ps_if (pt_cmpR op_eq (pe_ix ix_tup (pv 4) pe_int (fun _ _ => rfl)) pe_str (nomark _)) (pss_one (ps_set (i := 4) sc_spoilt_l.nd rfl (Or.inl rfl) (pe_ix ix_list (pe_lst (pa_cons (pe_tup (pa_cons pe_str (pa_cons (pe_ix ix_tup (pv 4) pe_int (fun _ _ => rfl)) (pa_cons (pv 5) (pa_cons (pe_ix ix_tup (pv 4) pe_int (fun _ _ => rfl)) pa_nil))))) (pa_cons (pe_tup (pa_cons pe_str (pa_cons (pe_ix ix_tup (pv 4) pe_int (fun _ _ => rfl)) (pa_cons (pe_ix ix_tup (pv 4) pe_int (fun _ _ => rfl)) (pa_cons (pv 5) pa_nil))))) pa_nil))) (pe_call G_draw_l (hr.mono (by omega)) rfl T.g_draw_l T.F_draw_l.kp T.b_draw_l .nil pass0 (pa_cons (pv 0) (pa_cons pe_int pa_nil))) (fun _ _ => rfl)))) (pss_one (ps_set (i := 4) sc_spoilt_l.nd rfl (Or.inl rfl) (pe_ix ix_list (pe_lst (pa_cons (pe_op op_catA (pe_slice sl_tupA (pv 4) po_none (po_some pe_int)) (pe_tup (pa_cons (pv 5) pa_nil))) (pa_cons (pe_tup (pa_cons pe_str (pa_cons (pe_ix ix_tup (pv 4) pe_int (fun _ _ => rfl)) (pa_cons pe_int (pa_cons (pe_ix ix_tup (pv 4) pe_int (fun _ _ => rfl)) pa_nil))))) pa_nil))) (pe_callTy call_int1 (by rfl) T.n_int (by decide +kernel) (pa_cons (pe_cmpR op_eq (pe_call G_draw_l (hr.mono (by omega)) rfl T.g_draw_l T.F_draw_l.kp T.b_draw_l .nil pass0 (pa_cons (pv 0) (pa_cons pe_int pa_nil))) pe_int (nomark _)) pa_nil)) (fun _ _ => rfl)))))))))
      (pss_one (ps_ret (pe_op op_cat (pe_op op_cat (pe_slice sl_list (pv 1) po_none (po_some (pv 3))) (pe_lst (pa_cons (pv 4) pa_nil))) (pe_slice sl_list (pv 1) (po_some (pe_op op_add (pv 3) pe_int)) po_none)))))))), ?_⟩
    have husl := paired_len hP
    have hr0 : 0 < rs.length := List.length_pos_iff.mpr hrs
    have hn0 : 0 < ns.length := List.length_pos_iff.mpr hns
    have nnb : nl ≠ b := left_nb hB gn
    have nlb : l ≠ b := box_ne hB gl (fun x y z e => by
      cases hP with
      | nil => exact hrs rfl
      | cons h _ =>
        obtain ⟨a, xs, rfl, _⟩ := h.hd
        cases e)
    walk_at "ss"
    refine ⟨l, _, rfl, .inl (SqL.of gl), ?_⟩
    walk_at "ss"
    refine ⟨b, _, rfl, hB, by omega, by omega, fun d H1 d0 d1 x1 b1 => ?_⟩
    obtain ⟨i, rfl⟩ := Int.eq_ofNat_of_zero_le d0
    have hi : i < us.length := by omega
    obtain ⟨r, hri, hR⟩ := paired_ix hP (List.getElem?_eq_getElem hi)
    generalize hui : us[i] = u at hR
    have hui2 : us[i]? = some u := by rw [List.getElem?_eq_getElem hi, hui]
    have hrm := List.mem_of_getElem? hri
    have hg := hrg r hrm
    walk_at "ss"
    refine c_ixL (SqL.of (x1 _ _ nlb gl)) (atI_nat hui2) ?_
    walk_at "ss"
    refine ⟨nl, _, rfl, .inl (SqL.of (x1 _ _ nnb gn)), ?_⟩
    walk_at "ss"
    refine ⟨b, _, rfl, b1, by rw [List.length_map]; omega, by rw [List.length_map]; omega, fun d2 H2 d20 d21 x2 b2 => ?_⟩
    obtain ⟨nv, hnv, hnvm⟩ := at_in (xs := ns.map V.str) (d := d2) d20 d21
    obtain ⟨nm, hnm, rfl⟩ := List.mem_map.mp hnvm
    obtain ⟨gnm, hnU⟩ := hgn nm hnm
    refine c_ixL (SqL.of (x2 _ _ nnb (x1 _ _ nnb gn))) hnv ?_
    have X2 := x1.trans x2
    have hR2 : RowAt H2 r u := hR.tu fun a xs ha => X2 _ _ (box_ne hB ha (fun _ _ _ z => by cases z)) ha
    have gn2 := X2 _ _ nnb gn
    walk_at "ss"
    refine c_cut (M := fun σ' G => ∃ r2 u2, σ' = [some (.ref b), some (.ref l), some (.ref nl), some (.int (i : Nat)), some u2, some (.str nm)] ∧ ExB b H2 G ∧ BoxAt G b ∧ RowAt G r2 u2 ∧ RwG (m + 1) U r2 ∧ r2.tells = r.tells) ?_ ?_
    · cases r with
      | pl n0 t =>
        obtain ⟨a, w0, rfl, ha, ht⟩ := hR2
        walk_at "ss"
        refine c_ixT (SqT.of ha) rfl ?_
        walk_at "ss"
        rw [str_eq rfl]
        walk_at "ss"
        refine c_ixT (SqT.of ha) rfl ?_
        walk_at "ss"
        refine ⟨nl, _, rfl, .inl (SqL.of gn2), ?_⟩
        walk_at "ss"
        refine ⟨b, _, rfl, b2, by rw [List.length_map]; omega, by rw [List.length_map]; omega, fun d3 H3 d30 d31 x3 b3 => ?_⟩
        obtain ⟨nv, hnv, hnvm⟩ := at_in (xs := ns.map V.str) (d := d3) d30 d31
        obtain ⟨nm2, hnm2, rfl⟩ := List.mem_map.mp hnvm
        obtain ⟨gnm2, hnU2⟩ := hgn nm2 hnm2
        refine c_ixL (SqL.of (x3 _ _ nnb gn2)) hnv ?_
        walk_at "ss"
        refine newL fun q4 H4 hq4 e4 g4 => ?_
        refine ⟨b, q4, [nm, nm2], rfl, b3.up e4, g4, by simp, by simp, fun s hs => ?_, fun t2 u2 H5 ht2 hT2 x5 b5 => ?_⟩
        · have : s = nm ∨ s = nm2 := by simpa using hs
          rcases this with e | e
          · rw [e]; exact gnm
          · rw [e]; exact gnm2
        walk_at "ss"
        refine newT fun q6 H6 hq6 e6 g6 => ?_
        walk_at "ss"
        refine ⟨.pl n0 t2, .ref q6, rfl, x3.trans ((ExB.of e4).trans (x5.trans (ExB.of e6))), b5.up e6, ⟨q6, u2, rfl, g6, hT2.up e6⟩, (rwd_pl (U := U) hg.good.1 ht2 fun s hs => ?_).g, rfl⟩
        have : s = nm ∨ s = nm2 := by simpa using hs
        rcases this with e | e
        · rw [e]; exact hnU
        · rw [e]; exact hnU2
      | sm ms =>
        obtain ⟨a, p, rfl, ha, hp⟩ := hR2
        walk_at "ss"
        refine c_ixT (SqT.of ha) rfl ?_
        walk_at "ss"
        rw [str_ne (x := "same") (y := "plain") (by decide +kernel)]
        walk_at "ss"
        refine c_ixT (SqT.of ha) rfl ?_
        walk_at "ss"
        rw [str_eq rfl]
        walk_at "ss"
        refine c_ixT (SqT.of ha) rfl ?_
        walk_at "ss"
        refine newT fun q4 H4 hq4 e4 g4 => ?_
        have hml := hg.sm ms rfl
        refine c_catH (e4 _ _ hp) g4 (by rw [List.length_map]; show _ + 1 ≤ _; omega) fun q5 H5 e5 g5 => ?_
        walk_at "ss"
        refine newT fun q6 H6 hq6 e6 g6 => ?_
        walk_at "ss"
        have ms2 : ∀ s ∈ ms ++ [nm], goodN s ∧ s ∈ U := fun s hs => by
          rcases List.mem_append.mp hs with h | h
          · exact ⟨hg.good.2.2 s h, hg.names s (once_sub h)⟩
          · rw [List.mem_singleton.mp h]; exact ⟨gnm, hnU⟩
        refine ⟨.sm (ms ++ [nm]), .ref q6, rfl, ExB.of (e4.trans (e5.trans e6)), b2.up (e4.trans (e5.trans e6)), ⟨q6, q5, rfl, g6, by rw [e6 _ _ g5, List.map_append]; rfl⟩, rwg_sm (by have := hg.good.1; rw [List.length_append]; omega) (by rw [List.length_append, List.length_singleton]; omega) (by omega) (fun s hs => (ms2 s hs).1) (fun s hs => (ms2 s hs).2), rfl⟩
      | wh n0 x y =>
        obtain ⟨a, rfl, ha⟩ := hR2
        have hxU : x ∈ U := hg.names x (once_sub (by simp))
        have hyU : y ∈ U := hg.names y (once_sub (by simp))
        walk_at "ss"
        refine c_ixT (SqT.of ha) rfl ?_
        walk_at "ss"
        rw [str_ne (x := "when") (y := "plain") (by decide +kernel)]
        walk_at "ss"
        refine c_ixT (SqT.of ha) rfl ?_
        walk_at "ss"
        rw [str_ne (x := "when") (y := "same") (by decide +kernel)]
        walk_at "ss"
        refine c_ixT (SqT.of ha) rfl ?_
        walk_at "ss"
        rw [str_eq rfl]
        walk_at "ss"
        refine c_ixT (SqT.of ha) rfl ?_
        walk_at "ss"
        refine c_ixT (SqT.of ha) rfl ?_
        walk_at "ss"
        refine newT fun q3 H3 hq3 e3 g3 => ?_
        walk_at "ss"
        refine c_ixT (SqT.of (e3 _ _ ha)) rfl ?_
        walk_at "ss"
        refine c_ixT (SqT.of (e3 _ _ ha)) rfl ?_
        walk_at "ss"
        refine newT fun q4 H4 hq4 e4 g4 => ?_
        walk_at "ss"
        refine newL fun q5 H5 hq5 e5 g5 => ?_
        have e35 := e3.trans (e4.trans e5)
        walk_at "ss"
        refine ⟨b, 2, rfl, b2.up e35, by decide, by decide, fun d6 H6 d60 d61 x6 b6 => ?_⟩
        have nq5 := fresh_nb (b2.up (e3.trans e4)) hq5
        have B5 := b2.up e35
        have t3 := x6 _ _ (box_ne B5 ((e4.trans e5) _ _ g3) (fun _ _ _ z => by cases z)) ((e4.trans e5) _ _ g3)
        have t4 := x6 _ _ (box_ne B5 (e5 _ _ g4) (fun _ _ _ z => by cases z)) (e5 _ _ g4)
        have : d6 = 0 ∨ d6 = 1 := by omega
        rcases this with rfl | rfl
        · refine c_ixL (SqL.of (x6 _ _ nq5 g5)) rfl ?_
          walk_at "ss"
          exact ⟨.wh n0 nm y, .ref q3, rfl, (ExB.of e35).trans x6, b6, ⟨q3, rfl, t3⟩, (rwd_wh hg.good.1 gnm hg.good.2.2 hnU hyU).g, rfl⟩
        · refine c_ixL (SqL.of (x6 _ _ nq5 g5)) rfl ?_
          walk_at "ss"
          exact ⟨.wh n0 x nm, .ref q4, rfl, (ExB.of e35).trans x6, b6, ⟨q4, rfl, t4⟩, (rwd_wh hg.good.1 hg.good.2.1 gnm hxU hnU).g, rfl⟩
      | vd kk n0 v x =>
        obtain ⟨a, rfl, ha⟩ := hR2
        have hxU : x ∈ U := hg.names x (by simp [Rw.names])
        walk_at "ss"
        refine c_ixT (SqT.of ha) rfl ?_
        walk_at "ss"
        rw [str_ne (x := vword kk) (y := "plain") (vw_no (by decide +kernel) (by decide +kernel) (by decide +kernel))]
        walk_at "ss"
        refine c_ixT (SqT.of ha) rfl ?_
        walk_at "ss"
        rw [str_ne (x := vword kk) (y := "same") (vw_no (by decide +kernel) (by decide +kernel) (by decide +kernel))]
        walk_at "ss"
        refine c_ixT (SqT.of ha) rfl ?_
        walk_at "ss"
        rw [str_ne (x := vword kk) (y := "when") (vw_no (by decide +kernel) (by decide +kernel) (by decide +kernel))]
        walk_at "ss"
        refine c_slH ha fun q3 H3 e3 g3 => ?_
        rw [show cutV [V.str (vword kk), V.str n0, v, V.str x] none (some 3) = [V.str (vword kk), V.str n0, v] from rfl] at g3
        walk_at "ss"
        refine newT fun q4 H4 hq4 e4 g4 => ?_
        refine c_catH (e4 _ _ g3) g4 (by simp) fun q5 H5 e5 g5 => ?_
        have e35 := e3.trans (e4.trans e5)
        walk_at "ss"
        refine c_ixT (SqT.of (e35 _ _ ha)) rfl ?_
        walk_at "ss"
        refine c_ixT (SqT.of (e35 _ _ ha)) rfl ?_
        walk_at "ss"
        refine newT fun q6 H6 hq6 e6 g6 => ?_
        walk_at "ss"
        refine newL fun q7 H7 hq7 e7 g7 => ?_
        have e37 := e35.trans (e6.trans e7)
        have B7 := b2.up e37
        walk_at "ss"
        refine ⟨b, 4, rfl, B7, by decide, by decide, fun d8 H8 d80 d81 x8 b8 => ?_⟩
        have nq7 := fresh_nb (b2.up (e35.trans e6)) hq7
        have t5 := x8 _ _ (box_ne B7 ((e6.trans e7) _ _ g5) (fun _ _ _ z => by cases z)) ((e6.trans e7) _ _ g5)
        have t6 := x8 _ _ (box_ne B7 (e7 _ _ g6) (fun _ _ _ z => by cases z)) (e7 _ _ g6)
        walk_at "ss"
        refine .inr ⟨_, rfl, ?_⟩
        by_cases h0 : V.int d8 = V.int 0
        · rw [decide_eq_true h0]
          refine c_ixL (v := .ref q6) (i := 1) (SqL.of (x8 _ _ nq7 g7)) rfl ?_
          walk_at "ss"
          exact ⟨.vd 1 n0 (.int 0) x, .ref q6, rfl, (ExB.of e37).trans x8, b8, ⟨q6, rfl, t6⟩, (rwd_vd (by decide) hg.good.2.1 hg.good.2.2.2 rfl hxU).g, rfl⟩
        · rw [decide_eq_false h0]
          refine c_ixL (v := .ref q5) (i := 0) (SqL.of (x8 _ _ nq7 g7)) rfl ?_
          walk_at "ss"
          exact ⟨.vd kk n0 v nm, .ref q5, rfl, (ExB.of e37).trans x8, b8, ⟨q5, rfl, t5⟩, (rwd_vd hg.good.1 hg.good.2.1 gnm hg.good.2.2.1 hnU).g, rfl⟩
      | cl os nd xs => exact absurd hg.nocall id
    rintro σ' G ⟨r2, u2, rfl, xG, bG, hR3, hg3, ht3⟩
    have XG := X2.trans xG
    have gl3 := XG _ _ nlb gl
    walk_at "ss"
    refine ⟨l, _, rfl, SqL.of gl3, fun p3 hp3 => ?_⟩
    rw [cutv_takeC]
    have e3 : Ex G (upd G p3 (.lst (us.take i))) := Ex.new hp3
    have g3 : upd G p3 (.lst (us.take i)) p3 = some (.lst (us.take i)) := upd_same
    generalize upd G p3 (.lst (us.take i)) = G3 at e3 g3
    walk_at "ss"
    refine newL fun p4 G4 hp4 e4 g4 => ?_
    have htl : (us.take i).length ≤ 200 := by rw [List.length_take]; omega
    refine c_cat (e4 _ _ g3) g4 (fun p5 G5 hp5 e5 g5 => ?_) (by show _ + 1 ≤ _; omega)
    have e35 := e3.trans (e4.trans e5)
    walk_at "ss"
    refine ⟨l, _, rfl, SqL.of (e35 _ _ gl3), fun p6 hp6 => ?_⟩
    rw [show ((i : Int) + 1) = ((i + 1 : Nat) : Int) by omega, cutv_drop]
    have e6 : Ex G5 (upd G5 p6 (.lst (us.drop (i + 1)))) := Ex.new hp6
    have g6 : upd G5 p6 (.lst (us.drop (i + 1))) p6 = some (.lst (us.drop (i + 1))) := upd_same
    generalize upd G5 p6 (.lst (us.drop (i + 1))) = G6 at e6 g6
    refine c_cat (e6 _ _ g5) g6 (fun p7 G7 hp7 e7 g7 => ?_) (by rw [List.length_append, List.length_drop, List.length_singleton]; omega)
    have e37 := e35.trans (e6.trans e7)
    have hsp := row_at hri
    refine k (rs.take i ++ [r2] ++ rs.drop (i + 1)) _ p7 G7 ?_ ?_ ?_ ?_ g7 ?_ (XG.trans (ExB.of e37)) (bG.up e37)
    · conv => rhs; rw [hsp]
      rw [List.flatMap_append, List.flatMap_append, List.flatMap_append, List.flatMap_cons, List.append_assoc]
      congr 1
      congr 1
      rw [← ht3]
      simp
    · conv => rhs; rw [hsp]
      simp
    · intro q hq
      rcases List.mem_append.mp hq with hq | hq
      · rcases List.mem_append.mp hq with hq | hq
        · exact (hrg q (List.mem_of_mem_take hq)).le (by omega)
        · rw [List.mem_singleton.mp hq]; exact hg3
      · exact (hrg q (List.mem_of_mem_drop hq)).le (by omega)
    · exact fresh_xb XG (fresh_back (e35.trans e6) hp7) bG
    · have up : ∀ {r u}, RowAt H r u → RowAt G7 r u := fun h => (h.tu fun a xs ha => XG _ _ (box_ne hB ha (fun _ _ _ z => by cases z)) ha).up e37
      exact paired_appC (paired_appC (paired_up (fun _ _ h => up h) (paired_take hP i)) (.cons (hR3.up e37) .nil)) (paired_up (fun _ _ h => up h) (paired_dropC hP (i + 1)))
/-- for x in l, l a list or a tuple -/
def iLT (K : PySem.W.Frag) (t : L2.TE) : L2.TI := fun σ H R => iList K t σ H R ∨ iTup K t σ H R
theorem pi_lt {X : Cx} {tg e : Expr} {t : L2.TE} (h : PE X e t) : PI X tg e (iLT X.K t) := ⟨fun pins s σ H R I hw => hw.elim (fun q => (pi_list h).run pins s σ H R I q) fun q => (pi_tup h).run pins s σ H R I q⟩
theorem c_ltL {g : L2.TG} {tt : L2.TT} {t te : L2.TE} {vs : List Nat} {σ : L2.St} {H : Hp} {Q : VK} (h : tLc (iList K t) g tt te vs σ H Q) : tLc (iLT K t) g tt te vs σ H Q := Or.inl h
theorem c_ltT {g : L2.TG} {tt : L2.TT} {t te : L2.TE} {vs : List Nat} {σ : L2.St} {H : Hp} {Q : VK} (h : tLc (iTup K t) g tt te vs σ H Q) : tLc (iLT K t) g tt te vs σ H Q := Or.inr h
def sp_told_names_l : Sp := fun vs H Q _ => ∃ (l : Addr) (rs : List Rw) (us : List V), vs = [.ref l] ∧ (H l = some (.lst us) ∨ H l = some (.tup us)) ∧ Paired (RowAt H) rs us ∧ rs.length ≤ 300 ∧ (∀ r ∈ rs, r.nocall) ∧ RetL ((rs.flatMap Rw.tells).map V.str) H Q
theorem paired_ones : ∀ {rs : List Rw} {ys : List V}, Paired (fun (r : Rw) (y : V) => y = .str r.one) rs ys → ys = (rs.map Rw.one).map V.str
  | _, _, .nil => rfl
  | _, _, .cons h t => by rw [List.map_cons, List.map_cons, ← paired_ones t, h]
theorem ok_told_names_l (T : Txt K mg Z) : FnOk P w K mg base CX0 1 Z.f_told_names_l Z.fd_told_names_l ["_law_rows"] sp_told_names_l := by
  refine T.F_told_names_l.ok sc_told_names_l (fun vs H Q E h => ?_) (fun cdv AA outer s H vs Q E hr h => ?_)
  · obtain ⟨l, rs, us, rfl, _⟩ := h
    rfl
  · obtain ⟨l, rs, us, rfl, gl, hP, hl, hnc, k⟩ := h
    have husl := paired_len hP
    refine ⟨_, (pss_one (ps_ret (pe_lc (own := [("_law_row", 1)]) (g := (gName 1)) (tt := (tTest (tOp rNe (tOp (rIxT K) (tVar 1) (tC (.int 0))) (tC (.str "same"))))) (te := (tOp (rIxT K) (tVar 1) (tC (.int 1)))) rfl sc_told_names_l.nd (pi_lt (pv 0)) (blkOk_by (own := [("_law_row", 1)]) (N := N_told_names_l) (sc := defScope s_told_names_l) (by decide +kernel)) (fun _ _ _ _ _ => (pg_name (i := 1) sc_told_names_l.nd rfl (Or.inl rfl))) (fun _ _ _ _ _ => (pts_one (pt_cmpR op_ne (pe_ix ix_tup (pv 1) pe_int (fun _ _ => rfl)) pe_str (nomark _)))) (fun _ _ _ _ _ => (pe_ix ix_tup (pv 1) pe_int (fun _ _ => rfl)))))), ?_⟩
    walk_at "ss"
    rcases gl with gl | gl
    · refine c_ltL ?_
      walk_at "ss"
      refine ⟨⟨_, SqL.of gl⟩, lcW walk_list (fun G e => Evl.ex_l e (SqL.of gl)) husl (by omega) Rw.named (fun D r w G => w = .str r.one) (fun _ _ _ _ _ _ _ h => h) ?_ ?_⟩
      · rintro D i r x hD hr hx H2 e2 ⟨o, ho⟩ R N hR hNo
        obtain ⟨r', hr', hRow⟩ := paired_ix hP hx
        rw [hr] at hr'
        cases hr'
        have hrm := List.mem_of_getElem? hr
        cases hk : r.named with
        | true =>
          obtain ⟨b2, xs2, rfl, gb2⟩ := (hRow.up e2).two hk (hnc r hrm)
          walk_at "ss"
          refine c_ixT (SqT.of gb2) at_hd ?_
          walk_at "ss"
          rw [str_ne (Rw.word_same.mp hk)]
          walk_at "ss"
          refine c_ixT (SqT.of gb2) at_one ?_
          exact hR hk _ _ (Ex.refl _) rfl
        | false =>
          obtain ⟨b2, xs2, rfl, gb2⟩ := (hRow.up e2).hd
          walk_at "ss"
          refine c_ixT (SqT.of gb2) at_hd ?_
          walk_at "ss"
          rw [str_eq (Classical.byContradiction fun z => by rw [Rw.word_same.mpr z] at hk; cases hk)]
          walk_at "ss"
          exact hNo hk _ (Ex.refl _)
      · intro ys q G3 hy hq e3 g3
        refine k q G3 hq e3 ?_
        rw [told_ones hnc, g3, ← paired_ones hy]
    · refine c_ltT ?_
      walk_at "ss"
      refine ⟨⟨_, SqT.of gl⟩, lcW walk_tup (fun G e => Evl.ex_t e (SqT.of gl)) husl (by omega) Rw.named (fun D r w G => w = .str r.one) (fun _ _ _ _ _ _ _ h => h) ?_ ?_⟩
      · rintro D i r x hD hr hx H2 e2 ⟨o, ho⟩ R N hR hNo
        obtain ⟨r', hr', hRow⟩ := paired_ix hP hx
        rw [hr] at hr'
        cases hr'
        have hrm := List.mem_of_getElem? hr
        cases hk : r.named with
        | true =>
          obtain ⟨b2, xs2, rfl, gb2⟩ := (hRow.up e2).two hk (hnc r hrm)
          walk_at "ss"
          refine c_ixT (SqT.of gb2) at_hd ?_
          walk_at "ss"
          rw [str_ne (Rw.word_same.mp hk)]
          walk_at "ss"
          refine c_ixT (SqT.of gb2) at_one ?_
          exact hR hk _ _ (Ex.refl _) rfl
        | false =>
          obtain ⟨b2, xs2, rfl, gb2⟩ := (hRow.up e2).hd
          walk_at "ss"
          refine c_ixT (SqT.of gb2) at_hd ?_
          walk_at "ss"
          rw [str_eq (Classical.byContradiction fun z => by rw [Rw.word_same.mpr z] at hk; cases hk)]
          walk_at "ss"
          exact hNo hk _ (Ex.refl _)
      · intro ys q G3 hy hq e3 g3
        refine k q G3 hq e3 ?_
        rw [told_ones hnc, g3, ← paired_ones hy]

/-! ### a node that is drawn -/
open TL (tl)
theorem paired_zipC {α β : Type} {F : α → β → Prop} : ∀ {l : List α} {m : List β}, Paired F l m → ∀ p ∈ l.zip m, F p.1 p.2
  | _, _, .nil, p, h => by cases h
  | _, _, .cons h t, p, hp => by
    rw [List.zip_cons_cons] at hp
    rcases List.mem_cons.mp hp with e | hp
    · rw [e]; exact h
    · exact paired_zipC t p hp
theorem paired_ofC {α β : Type} {F : α → β → Prop} : ∀ {l : List (α × β)}, (∀ p ∈ l, F p.1 p.2) → Paired F (l.map Prod.fst) (l.map Prod.snd)
  | [], _ => .nil
  | p :: l, h => .cons (h p List.mem_cons_self) (paired_ofC fun q hq => h q (List.mem_cons_of_mem _ hq))
theorem n_ok : isName ("n" : Str) = true ∧ ("n" : Str).length ≤ 8 ∧ OkT "n" := ⟨by decide +kernel, by decide +kernel, OkT.lit (by decide +kernel)⟩
theorem nd_good {m : Nat} {ins told : List Str} {x : Str} {R : List Rw} (h : (ins ++ told).Nodup) (hg : ∀ s ∈ ins ++ told, goodN s) (in0 : ins ≠ []) (hl : (ins ++ told).length ≤ 300) (hx : x ∈ told) (hp : (R.flatMap Rw.tells).Perm told) (hr : ∀ r ∈ R, RwG m (ins ++ told) r) (hR : R.length ≤ 300) : Nd.good ⟨"n", ins, [x], R⟩ ∧ Nd.nocalls ⟨"n", ins, [x], R⟩ := by
  have hl2 : ins.length + told.length ≤ 300 := by rw [← List.length_append]; exact hl
  have hpa : (ins ++ R.flatMap Rw.tells).Perm (ins ++ told) := List.Perm.append_left ins hp
  refine ⟨⟨n_ok, List.length_pos_iff.mpr in0, by show ins.length ≤ 300; omega, fun s hs => hg s (List.mem_append_left _ hs), by simp, by simp, fun s hs => ?_, by simp, ?_, ?_, hR, fun r hrm => ?_⟩, fun r hrm => (hr r hrm).nocall⟩
  · have : s = x := by simpa using hs
    rw [this]
    exact ⟨hg x (List.mem_append_right _ hx), hp.mem_iff.mpr hx⟩
  · exact hpa.nodup_iff.mpr h
  · show (ins ++ R.flatMap Rw.tells).length ≤ 1000
    rw [hpa.length_eq]
    omega
  · have q := hr r hrm
    exact ⟨q.good, q.pl, fun s hs => hpa.mem_iff.mpr (q.names s hs)⟩
theorem at_m1C {W : List Str} {s : Str} (h : W[W.length - 1]? = some s) : atI (W.map V.str) (-1) = some (.str s) := by
  have hl := (List.getElem?_eq_some_iff.mp h).1
  rw [at_last (by rw [List.length_map]; omega), List.length_map, List.getElem?_map, h]
  rfl
theorem perm_tells {R S : List Rw} (h : R.Perm S) : (R.flatMap Rw.tells).Perm (S.flatMap Rw.tells) := List.Perm.flatMap_right _ h
/-- rows in another order -/
theorem turned_rows {H : Hp} {rs : List Rw} {us : List V} {ms : List (Rw × V)} (hP : Paired (RowAt H) rs us) (hp : ms.Perm (rs.zip us)) : Paired (RowAt H) (ms.map Prod.fst) (ms.map Prod.snd) ∧ (ms.map Prod.fst).Perm rs := by
  refine ⟨paired_ofC fun p hpm => paired_zipC hP p (hp.mem_iff.mp hpm), ?_⟩
  have := hp.map Prod.fst
  rwa [List.map_fst_zip (Nat.le_of_eq (paired_len hP))] at this
theorem at2i {a b : Int} {c : Bool} : atI [V.int a, .int b] (if c = true then 1 else 0) = some (.int (if c = true then b else a)) := by cases c <;> rfl
theorem ns_sub {ns T L : List Str} {x : Str} {j : Nat} (hj : j < 3) (hx : ns[3]? = some x) (hT : T ++ L = ns.drop 4) : (ns.take (j + 1) ++ (x :: T)).Sublist ns := by
  have h3 := (List.getElem?_eq_some_iff.mp hx).1
  have e : ns = ns.take 3 ++ ns.drop 3 := (List.take_append_drop 3 ns).symm
  have e2 : ns.drop 3 = x :: ns.drop 4 := by
    rw [List.drop_eq_getElem_cons h3]
    congr 1
    exact (List.getElem?_eq_some_iff.mp hx).2
  conv => rhs; rw [e, e2, ← hT]
  refine List.Sublist.append ?_ (List.Sublist.cons₂ _ (List.sublist_append_left _ _))
  have : ns.take (j + 1) = (ns.take 3).take (j + 1) := by rw [List.take_take, Nat.min_eq_left (by omega)]
  rw [this]
  exact List.take_sublist _ _
def BuK (b : Addr) (H : Hp) (Q : VK) : Prop := ∀ n u H2, NdT H2 n u → n.good → n.nocalls → (∀ s ∈ n.names, nmQ s) ∧ n.rows.length ≤ 34 ∧ n.names.length ≤ 35 → ExB b H H2 → BoxAt H2 b → Q u H2
def sp_built_l : Sp := fun vs H Q _ => ∃ (b : Addr) (c : Bool), vs = [.ref b, .bl c] ∧ BoxAt H b ∧ BuK b H Q
theorem ok_built_l (T : Txt K mg Z) : FnOk P w K mg base CX0 5 Z.f_built_l Z.fd_built_l ["_law_well", "_law_spoils"] sp_built_l := by
  have G_draw_l := ok_draw_l (P := P) (w := w) (base := base) T
  have G_named_all_l := ok_named_all_l (P := P) (w := w) (base := base) T
  have G_row_list_l := ok_row_list_l (P := P) (w := w) (base := base) T
  have G_spoilt_l := ok_spoilt_l (P := P) (w := w) (base := base) T
  have G_turned_l := ok_turned_l (P := P) (w := w) (base := base) T
  have G_told_names_l := ok_told_names_l (P := P) (w := w) (base := base) T
  refine T.F_built_l.ok sc_built_l (fun vs H Q E h => ?_) (fun cdv AA outer s H vs Q E hr h => ?_)
  · obtain ⟨b, c, rfl, _⟩ := h
    rfl
  · obtain ⟨b, c, rfl, hB, k⟩ := h
    refine ⟨_, (pss_cons (ps_set (i := 2) sc_built_l.nd rfl (Or.inl rfl) (pe_op op_add pe_int (pe_ix ix_list (pe_lst (pa_cons (pe_call G_draw_l (hr.mono (by omega)) rfl T.g_draw_l T.F_draw_l.kp T.b_draw_l .nil pass0 (pa_cons (pv 0) (pa_cons pe_int pa_nil))) (pa_cons (pe_call G_draw_l (hr.mono (by omega)) rfl T.g_draw_l T.F_draw_l.kp T.b_draw_l .nil pass0 (pa_cons (pv 0) (pa_cons pe_int pa_nil))) pa_nil))) (pe_callTy call_int1 (by rfl) T.n_int (by decide +kernel) (pa_cons (pe_cmpR op_eq (pe_call G_draw_l (hr.mono (by omega)) rfl T.g_draw_l T.F_draw_l.kp T.b_draw_l .nil pass0 (pa_cons (pv 0) (pa_cons pe_int pa_nil))) pe_int (nomark _)) pa_nil)) (fun _ _ => rfl))))
      (pss_cons (ps_set (i := 3) sc_built_l.nd rfl (Or.inl rfl) (pe_call G_named_all_l (hr.mono (by omega)) rfl T.g_named_all_l T.F_named_all_l.kp T.b_named_all_l .nil pass0 (pa_cons (pv 0) (pa_cons (pe_op op_add (pv 2) pe_int) pa_nil))))
      (pss_cons (ps_set (i := 4) sc_built_l.nd rfl (Or.inl rfl) (pe_slice sl_list (pv 3) po_none (po_some (pe_op op_add pe_int (pe_call G_draw_l (hr.mono (by omega)) rfl T.g_draw_l T.F_draw_l.kp T.b_draw_l .nil pass0 (pa_cons (pv 0) (pa_cons pe_int pa_nil)))))))
      (pss_cons (ps_set (i := 5) sc_built_l.nd rfl (Or.inl rfl) (pe_op op_cat (pe_lst (pa_cons (pe_tup (pa_cons pe_str (pa_cons (pe_ix ix_list (pv 3) pe_int (fun _ _ => rfl)) (pa_cons (pe_tup (pa_cons pe_str (pa_cons (pe_ix ix_list (pv 4) (pe_un un_neg pe_int) (fun _ _ => rfl)) pa_nil))) pa_nil)))) pa_nil)) (pe_call G_row_list_l (hr.mono (by omega)) rfl T.g_row_list_l T.F_row_list_l.kp T.b_row_list_l .nil pass0 (pa_cons (pv 0) (pa_cons (pv 4) (pa_cons (pe_slice sl_list (pv 3) (po_some pe_int) po_none) (pa_cons (pv 2) pa_nil)))))))
      (Evl.pss_cut (ps_if (pt_cmpR op_eq (pe_call G_draw_l (hr.mono (by omega)) rfl T.g_draw_l T.F_draw_l.kp T.b_draw_l .nil pass0 (pa_cons (pv 0) (pa_cons pe_int pa_nil))) pe_int (nomark _)) (pss_one (ps_expr (pe_bm PySem.F.plainAttrs_list PySem.F.slot_list_append PySem.F.type_list_append mt_append (pv 5) (pa_cons (pe_tup (pa_cons pe_str (pa_cons (pe_tup (pa_cons (pe_ix ix_list (pv 4) pe_int (fun _ _ => rfl)) (pa_cons (pe_ix ix_list (pv 3) pe_int (fun _ _ => rfl)) (pa_cons (pe_ix ix_list (pv 4) pe_int (fun _ _ => rfl)) pa_nil)))) pa_nil))) pa_nil)))) pss_nil)
      (pss_cons (ps_for PassesOwn.never rfl (pi_range1 (by rfl) T.n_range (pa_cons (pe_op op_mul (pe_ix ix_list (pe_lst (pa_cons pe_int (pa_cons pe_int (pa_cons pe_int (pa_cons pe_int pa_nil))))) (pe_call G_draw_l (hr.mono (by omega)) rfl T.g_draw_l T.F_draw_l.kp T.b_draw_l .nil pass0 (pa_cons (pv 0) (pa_cons pe_int pa_nil))) (fun _ _ => rfl)) (pe_callTy call_int1 (by rfl) T.n_int (by decide +kernel) (pa_cons (pv 1) pa_nil))) pa_nil)) (pg_name (i := 6) sc_built_l.nd rfl (Or.inl rfl)) (pss_one (ps_set (i := 5) sc_built_l.nd rfl (Or.inl rfl) (pe_call G_spoilt_l (hr.mono (by omega)) rfl T.g_spoilt_l T.F_spoilt_l.kp T.b_spoilt_l .nil pass0 (pa_cons (pv 0) (pa_cons (pv 5) (pa_cons (pe_op op_cat (pv 4) (pe_call G_told_names_l (hr.mono (by omega)) rfl T.g_told_names_l T.F_told_names_l.kp T.b_told_names_l .nil pass0 (pa_cons (pv 5) pa_nil))) pa_nil)))))))
      (pss_one (ps_ret (pe_tup (pa_cons pe_str (pa_cons (pe_callTy call_tuple_of (by rfl) T.n_tuple (by decide +kernel) (pa_cons (pv 4) pa_nil)) (pa_cons (pe_tup (pa_cons (pe_ix ix_list (pv 3) pe_int (fun _ _ => rfl)) pa_nil)) (pa_cons (pe_callTy call_tuple_of (by rfl) T.n_tuple (by decide +kernel) (pa_cons (pe_call G_turned_l (hr.mono (by omega)) rfl T.g_turned_l T.F_turned_l.kp T.b_turned_l .nil pass0 (pa_cons (pv 0) (pa_cons (pv 5) pa_nil))) pa_nil)) pa_nil))))))))))))), ?_⟩
    walk_at "ss"
    refine ⟨b, 12, rfl, hB, by decide, by decide, fun m1 H1 m10 m11 x1 b1 => ?_⟩
    walk_at "ss"
    refine ⟨b, 30, rfl, b1, by decide, by decide, fun m2 H2 m20 m21 x2 b2 => ?_⟩
    walk_at "ss"
    refine newL fun q3 H3 hq3 e3 g3 => ?_
    walk_at "ss"
    refine ⟨b, 8, rfl, b2.up e3, by decide, by decide, fun d4 H4 d40 d41 x4 b4 => ?_⟩
    walk_at "ss"
    refine .inr ⟨_, rfl, ?_⟩
    refine c_ixL (SqL.of (x4 _ _ (fresh_nb b2 hq3) g3)) at2i ?_
    obtain ⟨m, hm, hm30⟩ : ∃ m : Nat, (if decide (V.int d4 = V.int 0) = true then m2 else m1) = (m : Int) ∧ m < 30 := by
      by_cases h : decide (V.int d4 = V.int 0) = true
      · rw [if_pos h]
        obtain ⟨m, rfl⟩ := Int.eq_ofNat_of_zero_le m20
        exact ⟨m, rfl, by omega⟩
      · rw [if_neg h]
        obtain ⟨m, rfl⟩ := Int.eq_ofNat_of_zero_le m10
        exact ⟨m, rfl, by omega⟩
    rw [hm]
    have X4 : ExB b H H4 := x1.trans (x2.trans ((ExB.of e3).trans x4))
    walk_at "ss"
    rw [show (1 + (m : Int) + 4) = ((m + 5 : Nat) : Int) by omega]
    refine ⟨b, m + 5, rfl, b4, by omega, fun ns p5 H5 hnl hnN hngQ hp5 x5 b5 g5 => ?_⟩
    have hng : ∀ s ∈ ns, goodN s := fun s hs => (hngQ s hs).1
    have n5 := fresh_nb b4 hp5
    have X5 := X4.trans x5
    walk_at "ss"
    refine ⟨b, 3, rfl, b5, by decide, by decide, fun j0 H6 j1 j2 x6 b6 => ?_⟩
    obtain ⟨j, rfl⟩ := Int.eq_ofNat_of_zero_le j1
    have hj : j < 3 := by omega
    have g6 := x6 _ _ n5 g5
    have X6 := X5.trans x6
    walk_at "ss"
    refine ⟨p5, _, rfl, SqL.of g6, fun il hil => ?_⟩
    rw [show (1 + (j : Int)) = ((j + 1 : Nat) : Int) by omega, cutv_takeC, ← List.map_take]
    have e7 : Ex H6 (upd H6 il (.lst ((ns.take (j + 1)).map V.str))) := Ex.new hil
    have g7 : upd H6 il (.lst ((ns.take (j + 1)).map V.str)) il = some (.lst ((ns.take (j + 1)).map V.str)) := upd_same
    generalize upd H6 il (.lst ((ns.take (j + 1)).map V.str)) = H7 at e7 g7
    have X7 := X6.trans (ExB.of e7)
    have B7 := b6.up e7
    have nil' := fresh_nb b6 hil
    obtain ⟨x3, hx3⟩ : ∃ x, ns[3]? = some x := ⟨_, List.getElem?_eq_getElem (by omega)⟩
    have hinl : (ns.take (j + 1)).length = j + 1 := by rw [List.length_take]; omega
    obtain ⟨z, hz⟩ : ∃ z, (ns.take (j + 1))[(ns.take (j + 1)).length - 1]? = some z := ⟨_, List.getElem?_eq_getElem (by omega)⟩
    have hzin := List.mem_of_getElem? hz
    have hzg : goodN z := hng z (List.mem_of_mem_take hzin)
    have hx3g : goodN x3 := hng x3 (List.mem_of_getElem? hx3)
    walk_at "ss"
    refine c_ixL (SqL.of (e7 _ _ g6)) (atI_nat (j := 3) (v := V.str x3) (by rw [List.getElem?_map, hx3]; rfl)) ?_
    walk_at "ss"
    refine c_ixL (SqL.of g7) (at_m1C hz) ?_
    walk_at "ss"
    refine newT fun q8 H8 hq8 e8 g8 => ?_
    walk_at "ss"
    refine newT fun q9 H9 hq9 e9 g9 => ?_
    walk_at "ss"
    refine newL fun q10 H10 hq10 e10 g10 => ?_
    have e710 := e8.trans (e9.trans e10)
    walk_at "ss"
    refine ⟨p5, _, rfl, SqL.of (e710 _ _ (e7 _ _ g6)), fun fl hfl => ?_⟩
    rw [show (4 : Int) = ((4 : Nat) : Int) from rfl, cutv_drop, ← List.map_drop]
    have e11 : Ex H10 (upd H10 fl (.lst ((ns.drop 4).map V.str))) := Ex.new hfl
    have g11 : upd H10 fl (.lst ((ns.drop 4).map V.str)) fl = some (.lst ((ns.drop 4).map V.str)) := upd_same
    generalize upd H10 fl (.lst ((ns.drop 4).map V.str)) = H11 at e11 g11
    have e711 := e710.trans e11
    have X11 := X7.trans (ExB.of e711)
    have hsub0 : (ns.take (j + 1) ++ ns.drop 4).Sublist ns := by
      have := ns_sub (L := []) hj hx3 (List.append_nil (ns.drop 4))
      refine List.Sublist.trans (List.Sublist.append (List.Sublist.refl _) (List.sublist_cons_self _ _)) this
    walk_at "ss"
    rw [show (1 + (m : Int)) = ((m + 1 : Nat) : Int) by omega]
    refine ⟨b, il, fl, ns.take (j + 1), ns.drop 4, m + 1, rfl, B7.up e711, e711 _ _ g7, g11, fun z => ?_, fun s hs => hng s (hsub0.subset hs), hsub0.nodup hnN, ?_, by omega, fun rs us L q12 H12 hTL hrg hrl hq12 g12 hP12 x12 b12 => ?_⟩
    · rw [z] at hinl
      simp at hinl
    · have := hsub0.length_le
      omega
    have hfl0 : H10 fl = none := hfl
    have nfl : fl ≠ b := fresh_nb (B7.up e710) hfl
    have x12' : ExN [b, fl] H10 H12 := (ExN.of e11).trans x12
    have keep : ∀ {a : Addr} {o : HO}, a ≠ b → H10 a = some o → H12 a = some o := fun na ha => x12' _ _ (fun hm => by
      rcases List.mem_cons.mp hm with h | h
      · exact na h
      · have : _ = fl := List.mem_singleton.mp h
        rw [this, hfl0] at ha
        cases ha) ha
    have X12 : ExB b H10 H12 := fun a o na ha => keep na ha
    have B10 := B7.up e710
    have kt : ∀ {a : Addr} {xs : List V}, H10 a = some (.tup xs) → H12 a = some (.tup xs) := fun ha => keep (box_ne B10 ha (fun _ _ _ z => by cases z)) ha
    have nq10 : q10 ≠ b := fresh_nb (B7.up (e8.trans e9)) hq10
    have g12a := keep nq10 g10
    have husl := paired_len hP12
    refine c_cat g12a g12 (fun q13 H13 hq13 e13 g13 => ?_) (by show 1 + _ ≤ _; omega)
    have X13 : ExB b H7 H13 := (ExB.of e710).trans (X12.trans (ExB.of e13))
    have B13 := b12.up e13
    have T13 : ToldAt H13 (.nm z) (.ref q8) := ⟨q8, rfl, e13 _ _ (kt ((e9.trans e10) _ _ g8))⟩
    have R13 : Paired (RowAt H13) (.pl x3 (.nm z) :: rs) (.ref q9 :: us) := .cons ⟨q9, _, rfl, e13 _ _ (kt (e10 _ _ g9)), T13⟩ (paired_up (fun _ _ h => h.up e13) hP12)
    have hsub : (ns.take (j + 1) ++ (x3 :: rs.flatMap Rw.tells)).Sublist ns := ns_sub hj hx3 hTL
    have hUin : ∀ s ∈ ns.take (j + 1) ++ rs.flatMap Rw.tells, s ∈ ns.take (j + 1) ++ (x3 :: rs.flatMap Rw.tells) := fun s hs => by
      rcases List.mem_append.mp hs with h | h
      · exact List.mem_append_left _ h
      · exact List.mem_append_right _ (List.mem_cons_of_mem _ h)
    have G13 : ∀ r ∈ (Rw.pl x3 (.nm z) :: rs), RwG 10 (ns.take (j + 1) ++ (x3 :: rs.flatMap Rw.tells)) r := fun r hr => by
      rcases List.mem_cons.mp hr with e | hr
      · rw [e]
        exact (rwd_pl (ns := [z]) hx3g ((tm_nm hzg (by simp)).mono (by decide)) fun s hs => by rw [List.mem_singleton.mp hs]; exact List.mem_append_left _ hzin).g
      · exact (hrg r hr).mono hUin
    have t13 : (Rw.pl x3 (.nm z) :: rs).flatMap Rw.tells = x3 :: rs.flatMap Rw.tells := rfl
    have l13 : (Rw.pl x3 (.nm z) :: rs).length ≤ 33 := by rw [List.length_cons]; omega
    have g13 : H13 q13 = some (.lst (.ref q9 :: us)) := g13
    have g13n : H13 p5 = some (.lst (ns.map V.str)) := X13 _ _ n5 (e7 _ _ g6)
    have g13i : H13 il = some (.lst ((ns.take (j + 1)).map V.str)) := X13 _ _ nil' g7
    have nq13 : q13 ≠ b := fresh_nb b12 hq13
    have hins0 : ∃ i0, (ns.take (j + 1))[0]? = some i0 := ⟨_, List.getElem?_eq_getElem (by omega)⟩
    obtain ⟨i0, hi0⟩ := hins0
    have hi0in := List.mem_of_getElem? hi0
    have X13H := X7.trans X13
    have hq13H : H q13 = none := fresh_xb (X7.trans ((ExB.of e710).trans X12)) hq13 b12
    generalize hUe : ns.take (j + 1) ++ (x3 :: rs.flatMap Rw.tells) = U at G13 hsub
    generalize hRe : (Rw.pl x3 (.nm z) :: rs) = R0 at R13 G13 t13 l13
    generalize (V.ref q9 :: us) = us0 at R13 g13
    walk_at "ss"
    refine c_cut (M := fun σ' G => (∃ v6, σ' = [some (.ref b), some (.bl c), some (.int ((m + 1 : Nat) : Int)), some (.ref p5), some (.ref il), some (.ref q13), v6]) ∧ ExB b H G ∧ BoxAt G b ∧ G p5 = some (.lst (ns.map V.str)) ∧ G il = some (.lst ((ns.take (j + 1)).map V.str)) ∧ ∃ (R1 : List Rw) (us1 : List V), G q13 = some (.lst us1) ∧ Paired (RowAt G) R1 us1 ∧ (∀ r ∈ R1, RwG 10 U r) ∧ R1.flatMap Rw.tells = x3 :: rs.flatMap Rw.tells ∧ R1 ≠ [] ∧ R1.length ≤ 34) ?_ ?_
    · walk_at "ss"
      refine ⟨b, 6, rfl, B13, by decide, by decide, fun d14 H14 d140 d141 x14 b14 => ?_⟩
      have up14 : ∀ {r u}, RowAt H13 r u → RowAt H14 r u := fun h => h.tu fun a xs ha => x14 _ _ (box_ne B13 ha (fun _ _ _ z => by cases z)) ha
      walk_at "ss"
      refine if_cs (fun c1 => ?_) (fun c1 => ?_)
      · walk_at "ss"
        refine ⟨.inl ⟨rfl, _, SqL.of (x14 _ _ nq13 g13)⟩, ?_⟩
        walk_at "ss"
        refine c_ixL (SqL.of (x14 _ _ nil' g13i)) (atI_nat (j := 0) (v := V.str i0) (by rw [List.getElem?_map, hi0]; rfl)) ?_
        walk_at "ss"
        refine c_ixL (SqL.of (x14 _ _ n5 g13n)) (atI_nat (j := 3) (v := V.str x3) (by rw [List.getElem?_map, hx3]; rfl)) ?_
        walk_at "ss"
        refine c_ixL (SqL.of (x14 _ _ nil' g13i)) (atI_nat (j := 0) (v := V.str i0) (by rw [List.getElem?_map, hi0]; rfl)) ?_
        walk_at "ss"
        refine newT fun q15 H15 hq15 e15 g15 => ?_
        walk_at "ss"
        refine newT fun q16 H16 hq16 e16 g16 => ?_
        have e1416 := e15.trans e16
        have g16q := e1416 _ _ (x14 _ _ nq13 g13)
        refine ⟨q13, _, _, rfl, rfl, g16q, Evl.sz_lt (by rw [← paired_len R13]; omega), ?_⟩
        walk_at "ss"
        have nU : NL H16 (upd H16 q13 (.lst (us0 ++ [.ref q16]))) := NL.upd g16q
        have nip : il ≠ q13 := fun z => by
          rw [z] at g13i
          rw [g13] at g13i
          injection g13i with h
          injection h with h
          cases R13 with
          | nil => exact absurd hRe (by simp)
          | cons h1 _ =>
            obtain ⟨a, xs, rfl, _⟩ := h1.hd
            cases hni : ns.take (j + 1) with
            | nil => rw [hni] at hinl; simp at hinl
            | cons s l => rw [hni] at h; cases h
        have npp : p5 ≠ q13 := fun z => by
          rw [z] at g13n
          rw [g13] at g13n
          injection g13n with h
          injection h with h
          cases R13 with
          | nil => exact absurd hRe (by simp)
          | cons h1 _ =>
            obtain ⟨a, xs, rfl, _⟩ := h1.hd
            cases hni : ns with
            | nil => rw [hni] at hnl; simp at hnl
            | cons s l => rw [hni] at h; cases h
        refine ⟨⟨_, rfl⟩, exB_put (X13H.trans (x14.trans (ExB.of e1416))) hq13H, box_put (b14.up e1416) nq13.symm, by rw [upd_ne npp]; exact e1416 _ _ (x14 _ _ n5 g13n), by rw [upd_ne nip]; exact e1416 _ _ (x14 _ _ nil' g13i), R0 ++ [.sm [i0, x3, i0]], _, upd_same, ?_, fun r hr => ?_, by rw [rl_tells, t13]; simp [Rw.tells], by simp, by rw [List.length_append, List.length_singleton]; omega⟩
        · exact paired_snoc (F := RowAt (upd H16 q13 (.lst (us0 ++ [.ref q16])))) (a := Rw.sm [i0, x3, i0]) (b := V.ref q16) ⟨q16, q15, rfl, NL.tup nU g16, NL.tup nU (e16 _ _ g15)⟩ (paired_up (fun _ _ h => ((up14 h).up e1416).nl nU) R13)
        · rcases List.mem_append.mp hr with hr | hr
          · exact G13 r hr
          · rw [List.mem_singleton.mp hr]
            have hiU : i0 ∈ U := by rw [← hUe]; exact List.mem_append_left _ hi0in
            have hxU : x3 ∈ U := by rw [← hUe]; simp
            have hm3 : ∀ s ∈ [i0, x3, i0], s = i0 ∨ s = x3 := fun s hs => by
              have : s = i0 ∨ s = x3 ∨ s = i0 := by simpa using hs
              rcases this with h | h | h
              · exact .inl h
              · exact .inr h
              · exact .inl h
            exact rwg_sm (by simp) (by simp) (by decide) (fun s hs => (hm3 s hs).elim (fun h => by rw [h]; exact hng _ (List.mem_of_mem_take hi0in)) (fun h => by rw [h]; exact hx3g)) (fun s hs => (hm3 s hs).elim (fun h => by rw [h]; exact hiU) (fun h => by rw [h]; exact hxU))
      · walk_at "ss"
        exact ⟨⟨_, rfl⟩, X13H.trans x14, b14, x14 _ _ n5 g13n, x14 _ _ nil' g13i, R0, us0, x14 _ _ nq13 g13, paired_up (fun _ _ h => up14 h) R13, G13, t13, by rw [← hRe]; simp, by omega⟩
    rintro σ' G ⟨⟨v6, rfl⟩, xG, bG, gn, gi, R1, us1, g1, hP1, hG1, ht1, hne1, hl1⟩
    walk_at "ss"
    refine newL fun q17 H17 hq17 e17 g17 => ?_
    walk_at "ss"
    refine ⟨b, 4, rfl, bG.up e17, by decide, by decide, fun d18 H18 d180 d181 x18 b18 => ?_⟩
    obtain ⟨kv, hkv, hkvm⟩ := at4 (v0 := V.int 0) (v1 := V.int 0) (v2 := V.int 1) (v3 := V.int 2) d180 d181
    obtain ⟨kn, rfl, hkn⟩ : ∃ kn : Nat, kv = V.int (kn : Int) ∧ kn ≤ 2 := by
      rcases hkvm with h | h | h | h
      · exact ⟨0, h.2, by decide⟩
      · exact ⟨0, h.2, by decide⟩
      · exact ⟨1, h.2, by decide⟩
      · exact ⟨2, h.2, by decide⟩
    refine c_ixL (SqL.of (x18 _ _ (fresh_nb bG hq17) g17)) hkv ?_
    walk_at "ss"
    refine .inr ⟨_, rfl, ?_⟩
    refine c_I (.inl ⟨by omega, by omega⟩) ?_
    obtain ⟨cn, hcn, hcn2⟩ : ∃ cn : Nat, (kn : Int) * (if c = true then 1 else 0) = (cn : Int) ∧ cn ≤ 2 := by
      cases c with
      | true => exact ⟨kn, by simp, hkn⟩
      | false => exact ⟨0, by simp, by decide⟩
    rw [hcn]
    refine ⟨_, rfl, by omega, by omega, ?_⟩
    have X18 : ExB b G H18 := (ExB.of e17).trans x18
    have nq13' : q13 ≠ b := nq13
    refine forR (fun i σ' G' => ∃ (l : Addr) (v6 : Option V) (R2 : List Rw) (us2 : List V), σ' = [some (.ref b), some (.bl c), some (.int ((m + 1 : Nat) : Int)), some (.ref p5), some (.ref il), some (.ref l), v6] ∧ ExB b G G' ∧ BoxAt G' b ∧ G' l = some (.lst us2) ∧ Paired (RowAt G') R2 us2 ∧ (∀ r ∈ R2, RwG (10 + i) U r) ∧ R2.flatMap Rw.tells = x3 :: rs.flatMap Rw.tells ∧ R2 ≠ [] ∧ R2.length ≤ 34) ⟨q13, _, R1, us1, rfl, X18, b18, X18 _ _ nq13 g1, paired_up (fun _ _ h => h.tu fun a xs ha => X18 _ _ (box_ne bG ha (fun _ _ _ z => by cases z)) ha) hP1, hG1, ht1, hne1, hl1⟩ ?_ ?_
    · rintro i σ' G' hi ⟨l, v6, R2, us2, rfl, xG', bG', gl, hP2, hG2, ht2, hne2, hl2⟩
      have hi2 : i < cn := hi
      have gi' := xG' _ _ nil' gi
      walk_at "ss"
      refine ⟨l, R2, us2, rfl, .inl gl, hP2, by omega, fun r hr => (hG2 r hr).nocall, fun tl1 H20 htl e20 g20 => ?_⟩
      rw [ht2] at g20
      have hUl : (ns.take (j + 1)).length + (x3 :: rs.flatMap Rw.tells).length ≤ 34 := by
        rw [← List.length_append, hUe]
        have := hsub.length_le
        omega
      refine c_cat (e20 _ _ gi') g20 (fun tl2 H21 htl2 e21 g21 => ?_) (by rw [List.length_map, List.length_map]; omega)
      rw [← List.map_append, hUe] at g21
      have e221 := e20.trans e21
      have up21 : ∀ {r u}, RowAt G' r u → RowAt H21 r u := fun h => h.up e221
      refine ⟨b, l, tl2, R2, us2, U, U, 10 + i, rfl, bG'.up e221, e221 _ _ gl, paired_up (fun _ _ h => up21 h) hP2, hne2, by omega, g21, ?_, ?_, fun s hs => ⟨hng s (hsub.subset hs), hs⟩, hG2, by omega, by omega, fun R3 us3 q22 H22 ht3 hl3 hG3 hq22 g22 hP3 x22 b22 => ?_⟩
      · rw [← hUe]; simp
      · have := hsub.length_le
        omega
      walk_at "ss"
      refine ⟨q22, _, R3, us3, rfl, xG'.trans ((ExB.of e221).trans x22), b22, g22, hP3, hG3, by rw [ht3, ht2], fun z => ?_, by omega⟩
      rw [z] at hl3
      exact hne2 (List.eq_nil_of_length_eq_zero hl3.symm)
    · rintro σ' G' ⟨l, v6, R2, us2, rfl, xG', bG', gl, hP2, hG2, ht2, hne2, hl2⟩
      have gi' := xG' _ _ nil' gi
      have gn' := xG' _ _ n5 gn
      walk_at "ss"
      refine ⟨il, _, rfl, .inl ⟨SqL.of gi', fun q20 hq20 => ?_⟩⟩
      have e20 : Ex G' (upd G' q20 (.tup ((ns.take (j + 1)).map V.str))) := Ex.new hq20
      have g20 : upd G' q20 (.tup ((ns.take (j + 1)).map V.str)) q20 = some (.tup ((ns.take (j + 1)).map V.str)) := upd_same
      generalize upd G' q20 (.tup ((ns.take (j + 1)).map V.str)) = H20 at e20 g20
      walk_at "ss"
      refine c_ixL (SqL.of (e20 _ _ gn')) (atI_nat (j := 3) (v := V.str x3) (by rw [List.getElem?_map, hx3]; rfl)) ?_
      walk_at "ss"
      refine newT fun q21 H21 hq21 e21 g21 => ?_
      have e221 := e20.trans e21
      have B21 := bG'.up e221
      have hz : (R2.zip us2).map Prod.snd = us2 := List.map_snd_zip (Nat.le_of_eq (paired_len hP2).symm)
      walk_at "ss"
      refine ⟨Rw × V, Prod.snd, b, l, R2.zip us2, rfl, B21, .inl (by rw [hz]; exact e221 _ _ gl), by rw [List.length_zip]; omega, fun ms q22 H22 hperm hq22 x22 b22 g22 => ?_⟩
      obtain ⟨hP4, hpm⟩ := turned_rows (paired_up (fun _ _ h => h.up e221) hP2) hperm
      walk_at "ss"
      refine ⟨q22, _, rfl, .inl ⟨SqL.of g22, fun q23 hq23 => ?_⟩⟩
      have e23 : Ex H22 (upd H22 q23 (.tup (ms.map Prod.snd))) := Ex.new hq23
      have g23 : upd H22 q23 (.tup (ms.map Prod.snd)) q23 = some (.tup (ms.map Prod.snd)) := upd_same
      generalize upd H22 q23 (.tup (ms.map Prod.snd)) = H23 at e23 g23
      walk_at "ss"
      refine newT fun q24 H24 hq24 e24 g24 => ?_
      have e2224 := e23.trans e24
      have up : ∀ {a : Addr} {xs : List V}, H21 a = some (.tup xs) → H24 a = some (.tup xs) := fun ha => e2224 _ _ (x22 _ _ (box_ne B21 ha (fun _ _ _ z => by cases z)) ha)
      have hlp : (ms.map Prod.fst).length ≤ 300 := by rw [hpm.length_eq]; omega
      obtain ⟨hgood, hnc⟩ := nd_good (m := 10 + cn) (ins := ns.take (j + 1)) (told := x3 :: rs.flatMap Rw.tells) (x := x3) (R := ms.map Prod.fst) (by rw [hUe]; exact hsub.nodup hnN) (fun s hs => hng s (hsub.subset (by rw [← hUe]; exact hs))) (fun z => by rw [z] at hinl; simp at hinl) (by rw [hUe]; have := hsub.length_le; omega) (by simp) (by rw [← ht2]; exact perm_tells hpm) (fun r hr => by rw [hUe]; exact hG2 r (hpm.mem_iff.mp hr)) hlp
      have hnm : ∀ s ∈ Nd.names ⟨"n", ns.take (j + 1), [x3], ms.map Prod.fst⟩, s ∈ ns.take (j + 1) ++ (x3 :: rs.flatMap Rw.tells) := fun s hs => by
        rcases List.mem_append.mp hs with h | h
        · exact List.mem_append_left _ h
        · exact List.mem_append_right _ (by rw [← ht2]; exact (perm_tells hpm).mem_iff.mp h)
      have hnl2 : (Nd.names ⟨"n", ns.take (j + 1), [x3], ms.map Prod.fst⟩).length ≤ 35 := by
        have h1 := (List.Perm.append_left (ns.take (j + 1)) (perm_tells hpm)).length_eq
        show (ns.take (j + 1) ++ (ms.map Prod.fst).flatMap Rw.tells).length ≤ 35
        rw [h1, ht2, hUe]
        have := hsub.length_le
        omega
      refine k ⟨"n", ns.take (j + 1), [x3], ms.map Prod.fst⟩ _ H24 ⟨q24, q20, q21, q23, ms.map Prod.snd, rfl, g24, up (e21 _ _ g20), up g21, e24 _ _ g23, paired_up (fun _ _ h => (h.tu fun a xs ha => x22 _ _ (box_ne B21 ha (fun _ _ _ z => by cases z)) ha).up e2224) hP4⟩ hgood hnc ⟨fun s hs => (hngQ s (hsub.subset (by rw [← hUe]; exact hnm s hs))).2, by show (ms.map Prod.fst).length ≤ 34; rw [hpm.length_eq]; exact hl2, hnl2⟩ (xG.trans (xG'.trans ((ExB.of e221).trans (x22.trans (ExB.of e2224))))) (b22.up e2224)

/-! ### the program's answer, told by the law -/
open TL (tl)
/-- how a node's clocks are found -/
def FoundAt (H0 H : Hp) (n : Nd) (w : Addr) : Prop :=
  (∃ (S : List Stp) (cd : Addr), SOk n S ∧ Closed n.ins n.rows (clkOf S) ∧ (∀ z ∈ n.names, z ∈ S.map (·.1)) ∧ (∀ ns, Rw.sm ns ∈ n.rows → ∀ a ∈ ns, ∀ b ∈ ns, ckOf S a = ckOf S b) ∧ H0 cd = none ∧ H w = some (.tup [.str "fit", .ref cd]) ∧ CksAt H cd n.names (ckOf S)) ∨
  (∃ (word : Str) (S : List Stp) (a b : Str) (p : Addr), ClashP n word S a b ∧ SGd n S ∧ a ∈ n.names ∧ b ∈ n.names ∧ (word = "same" → SOk n S ∧ Closed n.ins n.rows (clkOf S) ∧ ∀ z ∈ n.names, z ∈ S.map (·.1)) ∧ H w = some (.tup [.str "clash", .ref p]) ∧ PapAt H p word S a b) ∨
  ∃ (S : List Stp) (i : Nat) (s : Str), SOk n S ∧ Closed n.ins n.rows (clkOf S) ∧ n.names[i]? = some s ∧ s ∉ S.map (·.1) ∧ (∀ z ∈ n.names.take i, z ∈ S.map (·.1)) ∧ H w = some (.tup [.str "none", .str s])
def sp_telling_l (Z : Adr) : Sp := fun vs H Q _ => ∃ n v, vs = [.ref Z.f_clocks_of, v] ∧ NdAt Z H n v ∧ n.good ∧ n.nocalls ∧ ∀ w H2, Ex H H2 → FoundAt H H2 n w → Q (.ref w) H2
theorem ok_telling_l (T : Txt K mg Z)  : FnG P w K mg base CX0 (14) Z.f_telling_l Z.fd_telling_l ["_law_deed", "_law_node"] (sp_telling_l Z) := by
  refine T.F_telling_l.okG sc_telling_l (fun vs H Q E h => ?_) (fun cdv AA outer s H vs Q E hgd hr h => ?_)
  · obtain ⟨n, v, rfl, _⟩ := h
    rfl
  · obtain ⟨n, v, rfl, hN, hg, hnc, k⟩ := h
    have GX_clocks_of := okX_clocks_of (P := P) (w := w) (base := base) T
    refine ⟨_, (pss_one (ps_try_allN sc_telling_l.nd rfl rfl takes0 (fun W pn xe tk _ => (pss_one (ps_ret (pe_tup (pa_cons pe_str (pa_cons ((pe_callLS (i := 0) GX_clocks_of (hr.mono (by omega)) rfl (.inl rfl) T.F_clocks_of.kp T.b_clocks_of (fun σ => L2N.passAt tk σ) (pa_cons (pv 1) pa_nil))) pa_nil)))))) (.named (i := 2) rfl rfl ⟨rfl, by decide, .inl T.m_NoFit⟩ (fun a oe cls d pn hz hf hot => (pss_cons (ps_if (PW.pt (pw_or (pt_val (pe_callB (call_isP (exB_ok T.x_NoFit).ic hz hf) (by rfl) T.n_isinstance (by decide +kernel) (pa_cons (pv 2) (pa_cons (pe_gcst (v := .ref Z.c_NoClock) rfl ⟨_, T.m_NoClock, rfl⟩) pa_nil)))) (pw_or (pt_not (pt_val (pe_callB (call_isP (exB_ok T.x_NoFit).ic hz hf) (by rfl) T.n_isinstance (by decide +kernel) (pa_cons (pv 2) (pa_cons (pe_gcst (v := .ref Z.c_BeatError) rfl ⟨_, T.m_BeatError, rfl⟩) pa_nil))))) (pw_or1 (pt_not (pt_val (pe_callB (call_isP (exB_ok T.x_NoFit).ic hz hf) (by rfl) T.n_isinstance (by decide +kernel) (pa_cons (pv 2) (pa_cons (pe_bltn (v := .ty "ValueError") (by rfl) T.n_ValueError (by decide +kernel) rfl) pa_nil))))))))) (pss_one (ps_ret (pe_tup (pa_cons pe_str (pa_cons pe_non pa_nil))))) pss_nil)
      (pss_one (ps_ret (pe_tup (pa_cons pe_str (pa_cons (pe_xf (exB_ok T.x_NoFit).ic.xf ((exB_ok T.x_NoFit).no _ (by decide +kernel)) hz hf (pv 2)) pa_nil))))))) (.named (i := 2) rfl rfl ⟨rfl, by decide, .inl T.m_NoClock⟩ (fun a oe cls d pn hz hf hot => (pss_one (ps_ret (pe_tup (pa_cons pe_str (pa_cons (pe_xf (exB_ok T.x_NoClock).ic.xf ((exB_ok T.x_NoClock).no _ (by decide +kernel)) hz hf (pv 2)) pa_nil)))))) (.anon ⟨rfl, by decide, .inl T.m_BeatError⟩ (fun a oe cls d pn hz hf hot => (pss_one (ps_ret (pe_tup (pa_cons pe_str (pa_cons pe_non pa_nil)))))) .nil))) pss_nil)), ?_⟩
    walk_at "ss"
    refine c_callLS rfl ?_
    walk_at "ss"
    refine ⟨n, v, rfl, hN, hg, hnc, ?_, ?_, ?_, ?_⟩
    · rintro S cd H2 hok hcl hall hsm hcd e2 hC
      walk_at "ss"
      refine newT fun w H3 hw e3 g3 => ?_
      exact k w H3 (e2.trans e3) (.inl ⟨S, cd, hok, hcl, hall, hsm, hcd, g3, hC.upC e3⟩)
    · rintro word S a b x p H2 hw hC ha hb hgd hx e2 g2 hP
      refine ⟨true, T.fact_exmFF, fun _ ae hae => ?_, fun z => nomatch z⟩
      walk_at "ss"
      refine ⟨_, _, false, rfl, .own _, rfl, ⟨x, _, rfl, g2⟩, T.fact_kitFC, ?_⟩
      walk_at "ss"
      refine ⟨_, _, true, rfl, .own _, rfl, ⟨x, _, rfl, g2⟩, T.fact_kitFB, ?_⟩
      walk_at "ss"
      refine ⟨_, _, true, rfl, .ty _, rfl, ⟨x, _, rfl, g2⟩, T.fact_kitFV, ?_⟩
      walk_at "ss"
      refine ⟨x, _, _, rfl, g2, lk_hd, ?_⟩
      refine newT fun w H3 hw3 e3 g3 => ?_
      exact k w H3 (e2.trans e3) (.inr (.inl ⟨word, S, a, b, p, hC, hgd, ha, hb, fun z => absurd z hw, g3, hP.up e3⟩))
    · rintro S i s x H2 hok hcl hs hno hall hx e2 g2
      refine ⟨false, T.fact_exmCF, (fun z => nomatch z), fun _ => ⟨true, T.fact_exmCC, fun _ ae hae => ?_, (fun z => nomatch z)⟩⟩
      walk_at "ss"
      refine ⟨x, _, _, rfl, g2, lk_hd, ?_⟩
      refine newT fun w H3 hw e3 g3 => ?_
      exact k w H3 (e2.trans e3) (.inr (.inr ⟨S, i, s, hok, hcl, hs, hno, hall, g3⟩))
    · rintro S a b x p H2 hok hcl hall hC ha hb hx e2 g2 hP
      refine ⟨true, T.fact_exmFF, fun _ ae hae => ?_, fun z => nomatch z⟩
      walk_at "ss"
      refine ⟨_, _, false, rfl, .own _, rfl, ⟨x, _, rfl, g2⟩, T.fact_kitFC, ?_⟩
      walk_at "ss"
      refine ⟨_, _, true, rfl, .own _, rfl, ⟨x, _, rfl, g2⟩, T.fact_kitFB, ?_⟩
      walk_at "ss"
      refine ⟨_, _, true, rfl, .ty _, rfl, ⟨x, _, rfl, g2⟩, T.fact_kitFV, ?_⟩
      walk_at "ss"
      refine ⟨x, _, _, rfl, g2, lk_hd, ?_⟩
      refine newT fun w H3 hw3 e3 g3 => ?_
      exact k w H3 (e2.trans e3) (.inr (.inl ⟨"same", S, a, b, p, hC, hok.gd hg, ha, hb, fun _ => ⟨hok, hcl, hall⟩, g3, hP.up e3⟩))

/-! ### terms and rows under other names (plain) -/
open TL (tl)
def Tm.ren (f : Str → Str) : Tm → Tm
  | .nm s => .nm (f s)
  | .vl v => .vl v
  | .two op a b => .two op (a.ren f) (b.ren f)
  | .nt a => .nt (a.ren f)
  | .pk c a b => .pk (c.ren f) (a.ren f) (b.ren f)
theorem Tm.ren_dep (f : Str → Str) (t : Tm) : (t.ren f).dep = t.dep := by
  induction t with
  | nm s => rfl
  | vl v => rfl
  | two op a b iha ihb => simp only [Tm.ren, Tm.dep, iha, ihb]
  | nt a iha => simp only [Tm.ren, Tm.dep, iha]
  | pk c a b ihc iha ihb => simp only [Tm.ren, Tm.dep, ihc, iha, ihb]
theorem Tm.ren_flat (f : Str → Str) (t : Tm) : (t.ren f).flat = t.flat.map f := by
  induction t with
  | nm s => rfl
  | vl v => rfl
  | two op a b iha ihb => simp only [Tm.ren, Tm.flat, iha, ihb, List.map_append]
  | nt a iha => simp only [Tm.ren, Tm.flat, iha]
  | pk c a b ihc iha ihb => simp only [Tm.ren, Tm.flat, ihc, iha, ihb, List.map_append]
theorem Tm.ren_good {f : Str → Str} : ∀ {t : Tm}, t.good → (∀ s ∈ t.flat, goodN (f s)) → (t.ren f).good := by
  intro t
  induction t with
  | nm s => intro _ h; exact h s (by simp [Tm.flat])
  | vl v => intro g _; exact g
  | two op a b iha ihb => intro g h; exact ⟨g.1, iha g.2.1 fun s hs => h s (List.mem_append_left _ hs), ihb g.2.2 fun s hs => h s (List.mem_append_right _ hs)⟩
  | nt a iha => intro g h; exact iha g h
  | pk c a b ihc iha ihb => intro g h; exact ⟨ihc g.1 fun s hs => h s (List.mem_append_left _ (List.mem_append_left _ hs)), iha g.2.1 fun s hs => h s (List.mem_append_left _ (List.mem_append_right _ hs)), ihb g.2.2 fun s hs => h s (List.mem_append_right _ hs)⟩
/-- the dict at d tells of each of L its new name -/
def DM (H : Hp) (d : Addr) (f : Str → Str) (L : List Str) : Prop := ∃ kvs, H d = some (.dK kvs) ∧ ∀ s ∈ L, valV kvs (.inr s) = some (.str (f s)) ∧ goodN (f s)
theorem DM.up {H H2 : Hp} {d : Addr} {f : Str → Str} {L : List Str} (h : DM H d f L) (e : Ex H H2) : DM H2 d f L := let ⟨kvs, h1, h2⟩ := h; ⟨kvs, e _ _ h1, h2⟩
theorem DM.sub {H : Hp} {d : Addr} {f : Str → Str} {L L2 : List Str} (h : DM H d f L) (e : ∀ s ∈ L2, s ∈ L) : DM H d f L2 := let ⟨kvs, h1, h2⟩ := h; ⟨kvs, h1, fun s hs => h2 s (e s hs)⟩
theorem DM.get {H : Hp} {d : Addr} {f : Str → Str} {L : List Str} {s : Str} (h : DM H d f L) (hs : s ∈ L) : DGet H d (.str s) (some (.str (f s))) := let ⟨kvs, h1, h2⟩ := h; .inl ⟨kvs, .inr s, .inl h1, rfl, (h2 s hs).1.symm⟩
theorem DM.good {H : Hp} {d : Addr} {f : Str → Str} {L : List Str} {s : Str} (h : DM H d f L) (hs : s ∈ L) : goodN (f s) := let ⟨kvs, h1, h2⟩ := h; (h2 s hs).2
def Rw.ren (f : Str → Str) : Rw → Rw
  | .pl n t => .pl (f n) (t.ren f)
  | .vd k n v x => .vd k (f n) v (f x)
  | .wh n x y => .wh (f n) (f x) (f y)
  | .sm ns => .sm (ns.map f)
  | .cl os nd xs => .cl (os.map f) nd (xs.map f)
theorem Rw.ren_good {f : Str → Str} {r : Rw} (g : r.good) (h : ∀ s ∈ r.all, goodN (f s)) : (r.ren f).good := by
  cases r with
  | pl n t => exact ⟨h n (by simp [Rw.all, Rw.tells]), Tm.ren_good g.2.1 fun s hs => h s (List.mem_append_right _ (flat_names hs)), by rw [Tm.ren_dep]; exact g.2.2⟩
  | vd k n v x => exact ⟨g.1, h n (by simp [Rw.all, Rw.tells]), g.2.2.1, h x (by simp [Rw.all, Rw.names])⟩
  | wh n x y => exact ⟨h n (by simp [Rw.all, Rw.tells]), h x (List.mem_append_right _ (once_sub (by simp))), h y (List.mem_append_right _ (once_sub (by simp)))⟩
  | sm ns =>
    refine ⟨by rw [List.length_map]; exact g.1, by rw [List.length_map]; exact g.2.1, fun s hs => ?_⟩
    obtain ⟨z, hz, rfl⟩ := List.mem_map.mp hs
    exact h z (List.mem_append_right _ (once_sub hz))
  | cl os nd xs =>
    refine ⟨by rw [List.length_map]; exact g.1, by rw [List.length_map]; exact g.2.1, fun s hs => ?_, g.2.2.2.1, by rw [List.length_map]; exact g.2.2.2.2.1, by rw [List.length_map]; exact g.2.2.2.2.2.1, fun s hs => ?_⟩
    · obtain ⟨z, hz, rfl⟩ := List.mem_map.mp hs
      exact h z (List.mem_append_left _ hz)
    · obtain ⟨z, hz, rfl⟩ := List.mem_map.mp hs
      exact h z (List.mem_append_right _ (once_sub hz))
theorem Rw.ren_tells {f : Str → Str} {r : Rw} : (r.ren f).tells = r.tells.map f := by cases r <;> rfl
theorem Rw.ren_ment {f : Str → Str} {r : Rw} : (r.ren f).ment = r.ment.map f := by
  cases r with
  | pl n t => exact Tm.ren_flat f t
  | _ => rfl
theorem Rw.ren_hand {f : Str → Str} {r : Rw} {c : List Str} : (r.ren f).hand (c.map f) = (r.hand c).map (List.map f) := by
  cases r with
  | wh n x y =>
    show some (c.map f ++ [f y]) = some ((c ++ [y]).map f)
    rw [List.map_append]
    rfl
  | vd k n v x =>
    rcases k with _ | _ | k
    · rfl
    · show (if c.map f = [] then none else some (c.map f).dropLast) = Option.map (List.map f) (if c = [] then none else some c.dropLast)
      cases c with
      | nil => rfl
      | cons a l =>
        rw [if_neg (by simp), if_neg (by simp)]
        show some _ = some _
        rw [List.map_dropLast]
    · rfl
  | _ => rfl
theorem Rw.ment_all {r : Rw} {m : Str} (h : m ∈ r.ment) : m ∈ r.all := by
  cases r with
  | pl n t => exact List.mem_append_right _ (flat_names h)
  | vd k n v x => exact List.mem_append_right _ h
  | wh n x y => exact List.mem_append_right _ (once_sub h)
  | sm ns => cases h
  | cl os nd xs => cases h
/-! ### what follows stays, in any order, under other names -/
structure NmIn (U ins : List Str) (rs : List Rw) : Prop where
  inp : ∀ s ∈ ins, s ∈ U
  row : ∀ r ∈ rs, ∀ s ∈ r.all, s ∈ U
theorem hand_in {U : List Str} {r : Rw} {c c' : List Str} (h : r.hand c = some c') (hc : ∀ x ∈ c, x ∈ U) (hr : ∀ s ∈ r.all, s ∈ U) : ∀ x ∈ c', x ∈ U := by
  cases r with
  | wh n x y =>
    have h : some (c ++ [y]) = some c' := h
    cases h
    intro z hz
    rcases List.mem_append.mp hz with h | h
    · exact hc z h
    · rw [List.mem_singleton.mp h]
      exact hr y (List.mem_append_right _ (once_sub (by simp)))
  | vd k n v x =>
    rcases k with _ | _ | k
    · have h : some c = some c' := h
      cases h; exact hc
    · have h : (if c = [] then none else some c.dropLast) = some c' := h
      by_cases h0 : c = []
      · rw [if_pos h0] at h; cases h
      · rw [if_neg h0] at h
        cases h
        exact fun z hz => hc z (List.dropLast_subset _ hz)
    · have h : some c = some c' := h
      cases h; exact hc
  | pl n t => have h : some c = some c' := h; cases h; exact hc
  | sm ns => have h : some c = some c' := h; cases h; exact hc
  | cl os nd xs => have h : some c = some c' := h; cases h; exact hc
theorem Drv.mono {ins ins' : List Str} {rs rs' : List Rw} (hi : ∀ s ∈ ins, s ∈ ins') (hr : ∀ r ∈ rs, r ∈ rs') {s : Str} {c : List Str} (d : Drv ins rs s c) : Drv ins' rs' s c := by
  induction d with
  | inp h => exact .inp (hi _ h)
  | row h1 h2 h3 _ h5 ih => exact .row (hr _ h1) h2 h3 ih h5
theorem Drv.inU {U ins : List Str} {rs : List Rw} (hU : NmIn U ins rs) {s : Str} {c : List Str} (d : Drv ins rs s c) : s ∈ U ∧ ∀ x ∈ c, x ∈ U := by
  induction d with
  | inp h => exact ⟨hU.inp _ h, fun x hx => by cases hx⟩
  | row h1 h2 h3 _ h5 ih => exact ⟨hU.row _ h1 _ (List.mem_append_left _ (by rw [h2]; exact List.mem_singleton_self _)), hand_in h5 ih.2 (hU.row _ h1)⟩
theorem Drv.ren {f : Str → Str} {ins : List Str} {rs : List Rw} {s : Str} {c : List Str} (d : Drv ins rs s c) : Drv (ins.map f) (rs.map (Rw.ren f)) (f s) (c.map f) := by
  induction d with
  | inp h => exact .inp (List.mem_map_of_mem h)
  | row h1 h2 h3 _ h5 ih => exact .row (List.mem_map_of_mem h1) (by rw [Rw.ren_tells, h2]; rfl) (by rw [Rw.ren_ment]; exact List.mem_map_of_mem h3) ih (by rw [Rw.ren_hand, h5]; rfl)
theorem Drv.unren {f : Str → Str} {U ins : List Str} {rs : List Rw} (hU : NmIn U ins rs) (hf : ∀ a ∈ U, ∀ b ∈ U, f a = f b → a = b) {s' : Str} {c' : List Str} (d : Drv (ins.map f) (rs.map (Rw.ren f)) s' c') : ∃ s c, s' = f s ∧ c' = c.map f ∧ Drv ins rs s c := by
  induction d with
  | inp h =>
    obtain ⟨s, hs, rfl⟩ := List.mem_map.mp h
    exact ⟨s, [], rfl, rfl, .inp hs⟩
  | row h1 h2 h3 _ h5 ih =>
    obtain ⟨r, hr, rfl⟩ := List.mem_map.mp h1
    obtain ⟨m2, c2, e1, e2, d2⟩ := ih
    rw [Rw.ren_ment] at h3
    obtain ⟨m, hm, e3⟩ := List.mem_map.mp h3
    have e4 : m = m2 := hf _ (hU.row _ hr _ (Rw.ment_all hm)) _ (d2.inU hU).1 (e3.trans e1)
    subst e4
    rw [e2, Rw.ren_hand] at h5
    obtain ⟨c, hc, e5⟩ := Option.map_eq_some_iff.mp h5
    obtain ⟨n, hn⟩ := Rw.ment_tells hm
    rw [Rw.ren_tells, hn] at h2
    have e6 : f n = _ := List.head_eq_of_cons_eq h2
    exact ⟨n, c, e6.symm, e5.symm, .row hr hn hm d2 hc⟩
theorem inj_list {f : Str → Str} {U : List Str} (hf : ∀ a ∈ U, ∀ b ∈ U, f a = f b → a = b) : ∀ {c d : List Str}, (∀ x ∈ c, x ∈ U) → (∀ x ∈ d, x ∈ U) → c.map f = d.map f → c = d
  | [], [], _, _, _ => rfl
  | [], b :: d, _, _, h => by cases h
  | a :: c, [], _, _, h => by cases h
  | a :: c, b :: d, hc, hd, h => by
    rw [List.map_cons, List.map_cons] at h
    injection h with h1 h2
    rw [hf a (hc a List.mem_cons_self) b (hd b List.mem_cons_self) h1, inj_list hf (fun x hx => hc x (List.mem_cons_of_mem _ hx)) (fun x hx => hd x (List.mem_cons_of_mem _ hx)) h2]
/-! ### how the clocks of a node come out, told by what follows alone -/
def AllD (ins : List Str) (rs : List Rw) (U : List Str) : Prop := ∀ s ∈ U, ∃ c, Drv ins rs s c
def SameD (ins : List Str) (rs : List Rw) : Prop := ∀ ns, Rw.sm ns ∈ rs → ∀ a ∈ ns, ∀ b ∈ ns, ∀ c d, Drv ins rs a c → Drv ins rs b d → c = d
def OutP (A B C : Prop) : Nat → Prop
  | 0 => ¬A ∧ B ∧ C
  | 1 => A
  | 2 => ¬A ∧ B ∧ ¬C
  | _ => ¬A ∧ ¬B
theorem OutP.uni {A B C : Prop} {i j : Nat} (hi : i < 4) (hj : j < 4) (h : OutP A B C i) (k : OutP A B C j) : i = j := by
  match i, hi, j, hj with
  | 0, _, 0, _ | 1, _, 1, _ | 2, _, 2, _ | 3, _, 3, _ => rfl
  | 0, _, 1, _ => exact absurd k h.1
  | 0, _, 2, _ => exact absurd h.2.2 k.2.2
  | 0, _, 3, _ => exact absurd h.2.1 k.2
  | 1, _, 0, _ => exact absurd h k.1
  | 1, _, 2, _ => exact absurd h k.1
  | 1, _, 3, _ => exact absurd h k.1
  | 2, _, 0, _ => exact absurd k.2.2 h.2.2
  | 2, _, 1, _ => exact absurd k h.1
  | 2, _, 3, _ => exact absurd h.2.1 k.2
  | 3, _, 0, _ => exact absurd k.2.1 h.2
  | 3, _, 1, _ => exact absurd k h.1
  | 3, _, 2, _ => exact absurd k.2.1 h.2
def OutN (n : Nd) : Nat → Prop := OutP (Clash n.ins n.rows) (AllD n.ins n.rows n.names) (SameD n.ins n.rows)
theorem OutP.iff {A B C A' B' C' : Prop} (ha : A ↔ A') (hb : B ↔ B') (hc : C ↔ C') {i : Nat} (h : OutP A B C i) : OutP A' B' C' i := by
  rw [propext ha, propext hb, propext hc] at h
  exact h
theorem Clash.mono {ins ins' : List Str} {rs rs' : List Rw} (hi : ∀ s ∈ ins, s ∈ ins') (hr : ∀ r ∈ rs, r ∈ rs') (h : Clash ins rs) : Clash ins' rs' := by
  rcases h with ⟨s, c, c', h1, h2, h3⟩ | ⟨r, m, c, h1, h2, h3, h4⟩
  · exact .inl ⟨s, c, c', h1.mono hi hr, h2.mono hi hr, h3⟩
  · exact .inr ⟨r, m, c, hr _ h1, h2, h3.mono hi hr, h4⟩
/-- in another order -/
theorem OutN.perm {n m : Nd} (hi : ∀ s, s ∈ n.ins ↔ s ∈ m.ins) (hr : ∀ r, r ∈ n.rows ↔ r ∈ m.rows) {i : Nat} (h : OutN n i) : OutN m i := by
  have d1 : ∀ {s c}, Drv n.ins n.rows s c ↔ Drv m.ins m.rows s c := ⟨Drv.mono (fun s => (hi s).mp) fun r => (hr r).mp, Drv.mono (fun s => (hi s).mpr) fun r => (hr r).mpr⟩
  have hU : ∀ s, s ∈ n.names ↔ s ∈ m.names := fun s => by
    have ht : s ∈ n.told ↔ s ∈ m.told := by
      unfold Nd.told
      rw [List.mem_flatMap, List.mem_flatMap]
      exact ⟨fun ⟨r, h1, h2⟩ => ⟨r, (hr r).mp h1, h2⟩, fun ⟨r, h1, h2⟩ => ⟨r, (hr r).mpr h1, h2⟩⟩
    unfold Nd.names
    rw [List.mem_append, List.mem_append, hi, ht]
  refine OutP.iff ⟨Clash.mono (fun s => (hi s).mp) fun r => (hr r).mp, Clash.mono (fun s => (hi s).mpr) fun r => (hr r).mpr⟩ ⟨fun hA s hs => ?_, fun hA s hs => ?_⟩ ⟨fun hS ns hns a ha b hb c d h1 h2 => hS ns ((hr _).mpr hns) a ha b hb c d (d1.mpr h1) (d1.mpr h2), fun hS ns hns a ha b hb c d h1 h2 => hS ns ((hr _).mp hns) a ha b hb c d (d1.mp h1) (d1.mp h2)⟩ h
  · obtain ⟨c, hc⟩ := hA s ((hU s).mpr hs)
    exact ⟨c, d1.mp hc⟩
  · obtain ⟨c, hc⟩ := hA s ((hU s).mp hs)
    exact ⟨c, d1.mpr hc⟩
/-- a node under other names -/
def Nd.ren (f : Str → Str) (nm : Str) (n : Nd) : Nd := ⟨nm, n.ins.map f, n.outs.map f, n.rows.map (Rw.ren f)⟩
theorem ren_toldF {f : Str → Str} : ∀ {rs : List Rw}, (rs.map (Rw.ren f)).flatMap Rw.tells = (rs.flatMap Rw.tells).map f
  | [] => rfl
  | r :: rs => by
    rw [List.map_cons, List.flatMap_cons, List.flatMap_cons, List.map_append, ren_toldF, Rw.ren_tells]
theorem Nd.ren_names {f : Str → Str} {nm : Str} {n : Nd} : (n.ren f nm).names = n.names.map f := by
  show n.ins.map f ++ (n.rows.map (Rw.ren f)).flatMap Rw.tells = (n.ins ++ n.rows.flatMap Rw.tells).map f
  rw [ren_toldF, List.map_append]
theorem nm_in {n : Nd} (hg : n.good) : NmIn n.names n.ins n.rows := by
  refine ⟨fun s hs => List.mem_append_left _ hs, fun r hr s hs => ?_⟩
  rcases List.mem_append.mp hs with h | h
  · exact List.mem_append_right _ (List.mem_flatMap.mpr ⟨r, hr, h⟩)
  · exact (hg.row r hr).2.2 s h
theorem OutN.ren {f : Str → Str} {nm : Str} {n : Nd} (hg : n.good) (hf : ∀ a ∈ n.names, ∀ b ∈ n.names, f a = f b → a = b) {i : Nat} (h : OutN n i) : OutN (n.ren f nm) i := by
  have hU := nm_in hg
  refine OutP.iff ⟨fun hA => ?_, fun hA => ?_⟩ ⟨fun hA s hs => ?_, fun hA s hs => ?_⟩ ⟨fun hS ns hns a ha b hb c d h1 h2 => ?_, fun hS ns hns a ha b hb c d h1 h2 => ?_⟩ h
  · rcases hA with ⟨s, c, c', h1, h2, h3⟩ | ⟨r, m, c, h1, h2, h3, h4⟩
    · exact .inl ⟨f s, c.map f, c'.map f, h1.ren, h2.ren, fun e => h3 (inj_list hf (h1.inU hU).2 (h2.inU hU).2 e)⟩
    · exact .inr ⟨r.ren f, f m, c.map f, List.mem_map_of_mem h1, by rw [Rw.ren_ment]; exact List.mem_map_of_mem h2, h3.ren, by rw [Rw.ren_hand, h4]; rfl⟩
  · rcases hA with ⟨s, c, c', h1, h2, h3⟩ | ⟨r, m, c, h1, h2, h3, h4⟩
    · obtain ⟨s1, c1, e1, e2, d1⟩ := h1.unren hU hf
      obtain ⟨s2, c2, e3, e4, d2⟩ := h2.unren hU hf
      have e5 : s1 = s2 := hf _ (d1.inU hU).1 _ (d2.inU hU).1 (e1.symm.trans e3)
      subst e5
      exact .inl ⟨s1, c1, c2, d1, d2, fun e => h3 (by rw [e2, e4, e])⟩
    · obtain ⟨r1, hr1, rfl⟩ := List.mem_map.mp h1
      obtain ⟨m1, c1, e1, e2, d1⟩ := h3.unren hU hf
      rw [Rw.ren_ment] at h2
      obtain ⟨m2, hm2, e3⟩ := List.mem_map.mp h2
      have e4 : m2 = m1 := hf _ (hU.row _ hr1 _ (Rw.ment_all hm2)) _ (d1.inU hU).1 (e3.trans e1)
      subst e4
      rw [e2, Rw.ren_hand] at h4
      exact .inr ⟨r1, m2, c1, hr1, hm2, d1, Option.map_eq_none_iff.mp h4⟩
  · rw [Nd.ren_names] at hs
    obtain ⟨z, hz, rfl⟩ := List.mem_map.mp hs
    obtain ⟨c, hc⟩ := hA z hz
    exact ⟨_, hc.ren⟩
  · obtain ⟨c, hc⟩ := hA (f s) (by rw [Nd.ren_names]; exact List.mem_map_of_mem hs)
    obtain ⟨s1, c1, e1, e2, d1⟩ := Drv.unren hU hf hc
    have : s = s1 := hf _ hs _ (d1.inU hU).1 e1
    rw [this]
    exact ⟨c1, d1⟩
  · obtain ⟨r, hr, e⟩ := List.mem_map.mp hns
    cases r with
    | sm ms =>
      have e : Rw.sm (ms.map f) = Rw.sm ns := e
      injection e with e
      subst e
      obtain ⟨a1, ha1, rfl⟩ := List.mem_map.mp ha
      obtain ⟨b1, hb1, rfl⟩ := List.mem_map.mp hb
      obtain ⟨s1, c1, e1, e2, d1⟩ := h1.unren hU hf
      obtain ⟨s2, c2, e3, e4, d2⟩ := h2.unren hU hf
      have q1 : a1 = s1 := hf _ (hU.row _ hr _ (List.mem_append_right _ (once_sub ha1))) _ (d1.inU hU).1 e1
      have q2 : b1 = s2 := hf _ (hU.row _ hr _ (List.mem_append_right _ (once_sub hb1))) _ (d2.inU hU).1 e3
      subst q1 q2
      rw [e2, e4, hS ms hr a1 ha1 b1 hb1 c1 c2 d1 d2]
    | _ => cases e
  · have := hS (ns.map f) (List.mem_map.mpr ⟨_, hns, rfl⟩) (f a) (List.mem_map_of_mem ha) (f b) (List.mem_map_of_mem hb) _ _ h1.ren h2.ren
    exact inj_list hf (h1.inU hU).2 (h2.inU hU).2 this

/-! ### dict(zip(names, things)) -/
def tDictZip (K : PySem.W.Frag) (ta : L2.TA) : L2.TE := fun σ H Q => ta σ H fun vs H1 => ∃ (a b : Addr) (ks : List Key) (ys : List V), vs = [.ref a, .ref b] ∧ SqL K H1 a (ks.map kV) ∧ SqL K H1 b ys ∧ ks.length = ys.length ∧ ∀ p, H1 p = none → Q (.ref p) (upd H1 p (.dK (mergeK [] (ks.zip ys))))
theorem kv_zips {ys : List V} {ws : List Value} (h : Vals ys ws) : ∀ ks : List Key, KV (ks.zip ys) (ks.zip ws) := by
  induction h with
  | nil =>
    intro ks
    cases ks <;> exact .nil
  | cons h _ ih =>
    intro ks
    cases ks with
    | nil => exact .nil
    | cons k ks => exact .cons ⟨rfl, h⟩ (ih ks)
theorem vals_key : ∀ {ks : List Key} {us : List Value}, Vals (ks.map kV) us → ∀ {i : Nat} {u : Value}, us[i]? = some u → ∃ k, ks[i]? = some k ∧ RelV (kV k) u
  | [], us, h, i, u, e => by
    rw [List.map_nil] at h
    cases h
    cases e
  | k :: ks, us, h, i, u, e => by
    rw [List.map_cons] at h
    cases h with
    | cons h t =>
      cases i with
      | zero =>
        cases e
        exact ⟨k, rfl, h⟩
      | succ i => exact vals_key (ks := ks) t (i := i) (by simpa using e)
theorem pe_dictZip {X : Cx} {e e2 : Expr} {ta : L2.TA} {p p2 pos pos2 : Pos} (hcalm : X.calm = true) (gd : Gl X "dict") (md : X.mg "dict" = none) (gz : Gl X "zip") (mz : X.mg "zip" = none) (ha : PA X [e, e2] ta)
    (hs : starEach [e, e2] X.env = (false, eval e X.env) :: starEach [e2] X.env := by rfl) (hpl : (backTo pos2 (starEach [e2] X.env)).any (·.1) = false := by rfl)
    (ht : starEach [.Call (.Name "zip" p2) [e, e2] [] pos2] X.env = (false, eval (.Call (.Name "zip" p2) [e, e2] [] pos2) X.env) :: starEach [] X.env := by rfl) (htl : (backTo pos (starEach [] X.env)).any (·.1) = false := by rfl) :
    PE X (.Call (.Name "dict" p) [.Call (.Name "zip" p2) [e, e2] [] pos2] [] pos) (tDictZip X.K ta) := by
  refine ⟨fun pins s σ H Q I h => ?_⟩
  refine PyProof.Rows.Call_ (ld_blt (u := Value.type "dict") I gd md (by decide +kernel) (PyProof.Rows.callWith_type1 ?_ ht htl))
  refine PyProof.Rows.args_cons (PyProof.Rows.Call_ (ld_blt I gz mz PyProof.Rows.boot_zip (PyProof.Rows.callWith_type1 (L2.thn (ha.run pos2 pins s σ H _ I h) fun us s1 ⟨vs, H1, I1, r1, q1⟩ => ?_) hs hpl)))
  obtain ⟨a, b, ks, ys, ex, ga, gb, hlen, q⟩ := q1
  subst ex
  obtain ⟨u1, u2, eu, ra, rb⟩ := vals2 r1
  subst eu
  cases (show u1 = Value.ref a from ra)
  cases (show u2 = Value.ref b from rb)
  obtain ⟨w1, v1, p1, z1⟩ := I1.list ga
  obtain ⟨w2, v2, p2, z2⟩ := I1.list gb
  have D := PySem.W.ktu_apart s1.heap.objs.size a b p1.lt p2.lt
  refine PySem.call_zip_2 p1.isList p2.isList fun h' hz hTI hTO h1 h2 hsz hk => ?_
  have I2 : Inv X pins σ H1 { s1 with heap := h' } := I1.kept (t' := s1.toks) hk
  refine PyProof.Rows.args_nil ?_
  have l1 : w1.length = ks.length := by rw [← v1.length, List.length_map]
  have l2 : w2.length = ks.length := by rw [← v2.length, hlen]
  have hmin : min w1.toArray.size w2.toArray.size = ks.length := by rw [List.size_toArray, List.size_toArray, l1, l2, Nat.min_self]
  have hks : ks.length ≤ sizeLine := by rw [List.length_map] at z1; exact z1
  have rel := kv_zips v2 ks
  refine PySem.call_dict_pairs (knd := mixKind X.prog X.w) (kvs := ks.zip w2) (PySem.PairArg.zip _ _ _ _ _ a b D w1.toArray w2.toArray) (I2.ok.hd hcalm) ⟨hz, hTI, ⟨_, _, hTO⟩, h1, h2, p1.isList.at fun o x => hk _ o x, p2.isList.at fun o x => hk _ o x⟩ ⟨by rw [hmin, List.length_zip, l2, Nat.min_self], fun i key v hkv => ?_⟩ (by rw [hmin]; exact hks) fun h3 tk hd3 hk3 => ?_
  · obtain ⟨e1, e2⟩ := hkv
    obtain ⟨k, hki, rk⟩ := vals_key v1 (i := i) (u := key) (by simpa using e1)
    exact ⟨k, List.getElem?_zip_eq_some.mpr ⟨hki, by simpa using e2⟩, kV_is rk⟩
  · have hm : (h'.objs.size == sysModules) = false := beq_eq_false_iff_ne.mpr (Nat.ne_of_gt I2.big)
    have hln : (mergeK [] (ks.zip ys)).length ≤ sizeLine := by
      refine Nat.le_trans (length_mergeK _ []) ?_
      rw [List.length_nil, Nat.zero_add, List.length_zip, ← hlen, Nat.min_self]
      exact hks
    refine ⟨.ref h'.objs.size, upd H1 h'.objs.size (.dK (mergeK [] (ks.zip ys))), I2.turnedNew (t' := tk) (ch := [s1.heap.objs.size + 4, s1.heap.objs.size + 3, s1.heap.objs.size, s1.heap.objs.size + 1]) (fun c o hc x => hk3 c o hc x) (fun c hc => ?_) (Nat.le_refl _) (show ObjOk X.prog X.w _ _ _ (.dK (mergeK [] (ks.zip ys))) from ⟨hln, hm, merged [] (ks.zip w2), KV.merge rel .nil, hd3⟩), rfl, q _ (I2.hok.fresh (Nat.le_refl _))⟩
    have hc' : c = s1.heap.objs.size + 4 ∨ c = s1.heap.objs.size + 3 ∨ c = s1.heap.objs.size ∨ c = s1.heap.objs.size + 1 := by simpa using hc
    have hle : s1.heap.objs.size ≤ c := by rcases hc' with e | e | e | e <;> rw [e] <;> first | exact Nat.le_refl _ | exact Nat.le_add_right _ _
    exact I1.fpOk hle (I1.hok.fresh hle)

/-! ### != of two tuples of a word and a dict -/
end
end Toy
namespace NeT
open PySem PySem.SeqAt
open AutoSeq1 (wpAny_loadPart')
open MeetsSeq MeetsSeq2 MeetsSeq3 SeqRoads2
abbrev TpAt (s : Shared) (l : Addr) (xs : Array Value) (n : Nat) (dd : Option Addr) (sl : Array (Option Value)) : Prop := s.heap.get? l = some { cls := .type "tuple", dict := dd, data := .seq xs n, slots := sl }
section
variable {P : Program} {w : World}
theorem tup_ne (l b : Addr) (xs ys : Array Value) (n m : Nat) (d1 d2 : Option Addr) (s1 s2 : Array (Option Value)) (hs : xs.size = ys.size) :
    MeetsIn P w (Builtin.«tuple.__ne__» ⟨[.ref l, .ref b], []⟩) (fun A R s => TpAt s l xs n d1 s1 ∧ TpAt s b ys m d2 s2 ∧ (∀ j (h1 : j < xs.size) (h2 : j < ys.size), EqP P w A.in1 s xs[j] ys[j] true) ∧ R (.ok (.ret (.bool false))) s) := by
  intro A R s hh
  obtain ⟨hp, g, d, tk, os⟩ := s
  obtain ⟨gl, gb, ge, r⟩ := hh
  have f3 := AutoSeq1.sub_tuple_tuple
  have hz : (xs.toList.zip ys.toList).length = xs.size := by simp [hs]
  wp_walk using wpAny_loadPart' gl, wpAny_loadPart' gb, wpAny_forIn_list _ (fun rest b s' => b.1 = none ∧ s' = ⟨hp, g, d, tk, os⟩ ∧ ∃ i, rest = (xs.toList.zip ys.toList).drop i) _
  case turn =>
    rintro ⟨y, x⟩ rest b s' ⟨hb, rfl, i, hr⟩
    have hi : i < (xs.toList.zip ys.toList).length := by
      rcases Nat.lt_or_ge i (xs.toList.zip ys.toList).length with h | h
      · exact h
      · rw [List.drop_of_length_le h] at hr
        cases hr
    have i1 : i < xs.size := by omega
    have i2 : i < ys.size := by omega
    rw [List.drop_eq_getElem_cons hi] at hr
    injection hr with e1 e2
    have ey : y = xs[i] := by simpa using congrArg Prod.fst e1
    have ex : x = ys[i] := by simpa using congrArg Prod.snd e1
    subst ey ex
    refine wpAny_bind (ge i i1 i2 _ _ ?_)
    wp_walk
    exact ⟨rfl, rfl, i + 1, e2⟩
  case fin =>
    rintro ⟨b1, b2⟩ s' ⟨hb, rfl, i, _⟩
    simp only at hb
    subst hb
    wp_walk
    show R (.ok (.ret (.bool (xs.size != ys.size)))) _
    rw [hs, bne_self_eq_false]
    exact r
  case h =>
    exact ⟨rfl, rfl, 0, rfl⟩
theorem tups_ne {A : Around} {s : Shared} {l b : Addr} {xs ys : Array Value} (hl : s.heap.IsTuple l xs) (hb : s.heap.IsTuple b ys) (hs : xs.size = ys.size) (hu : A.units < cLine) (he : ∀ j (h1 : j < xs.size) (h2 : j < ys.size), EqP P w A.in1 s xs[j] ys[j] true) (E Q : Value → Shared → Prop) (q : Q (.bool false) s) :
    wpAny (model P w) A (richCompare .NotEq (.ref l) (.ref b)) Q E s := by
  obtain ⟨⟨c1, d1, t1, s1⟩, o1, e1, n, f1⟩ := id hl
  obtain ⟨⟨c2, d2, t2, s2⟩, o2, e2, m, f2⟩ := id hb
  simp only at e1 f1 e2 f2
  subst e1 f1 e2 f2
  have y1 : s.TypeIs (.ref l) "tuple" := ⟨_, o1, rfl⟩
  have y2 : s.TypeIs (.ref b) "tuple" := ⟨_, o2, rfl⟩
  refine wpAny_richCompare_same_room (op := .NotEq) y1 y2 F.slot_tuple_ne (call_meetsIn F.slot_tuple_ne y1 F.entry_tuple_ne (F.args_tuple_ne_2 _ _) (tup_ne l b xs ys n m d1 d2 s1 s2 hs) ?_) hu
  exact ⟨o1, o2, he, show Value.bool false ≠ Value.notImplemented ∧ Q (.bool false) s from ⟨(fun x => nomatch x), q⟩⟩
end
end NeT
namespace Toy
open PySem L2
open Evl hiding RetV RetL
section
variable {P : Program} {w : World} {K : PySem.W.Frag} {mg : Str → Option Value} {base : Heap} {Z : Adr}
/-- data that are equal -/
def EqDat (K : PySem.W.Frag) (H : Hp) (x y : V) : Prop := ∃ d e, Dp K H x d ∧ Dp K H y e ∧ SeqAt.shaped d = true ∧ SeqAt.shaped e = true ∧ PyData.eqv d e = true
/-- two dicts whose values are data that are equal -/
def EqDd (K : PySem.W.Frag) (H : Hp) (u v : V) : Prop := ∃ (d e : Addr) (ks ls : List (Key × V)), u = .ref d ∧ v = .ref e ∧ d ≠ e ∧ H d = some (.dK ks) ∧ H e = some (.dK ls) ∧ ks.length = ls.length ∧ ∀ p ∈ ks, ∃ u, valV ls p.1 = some u ∧ EqDat K H p.2 u
section
variable {X : Cx} {pins : List (Addr × Obj)} {σ : L2.St} {H : Hp} {s : Shared}
theorem eqdat_run (I : L2.Inv X pins σ H s) {A : Around} (hu : A.units + 66 < cLine) {x y : V} {v u : Value} (h : EqDat X.K H x y) (rx : RelV x v) (ry : RelV y u) : SeqAt.EqP X.prog X.w A.in1 s v u true := by
  obtain ⟨d, e, d1, d2, s1, s2, eq⟩ := h
  obtain ⟨as, r1⟩ := Dp.reads I d x v d1 rx
  obtain ⟨bs, r2⟩ := Dp.reads I e y u d2 ry
  have z := PySem.W.keq_at (A := A) r1 r2 s1 s2 (by show A.units + 1 + 64 < cLine; omega)
  rw [eq] at z
  exact z.eqP
theorem eqdd_run (I : L2.Inv X pins σ H s) {A : Around} (hu : A.units + 67 < cLine) {x y : V} {v u : Value} (h : EqDd X.K H x y) (rx : RelV x v) (ry : RelV y u) : SeqAt.EqP X.prog X.w A.in1 s v u true := by
  obtain ⟨d, e, ks, ls, rfl, rfl, hde, hd, he, hl, fk⟩ := h
  cases (show v = Value.ref d from rx)
  cases (show u = Value.ref e from ry)
  obtain ⟨_, ya, va, ra, da⟩ := (show ObjOk X.prog X.w H s.heap d (.dK ks) from I.hok d _ hd)
  obtain ⟨_, yb, vb, rb, db⟩ := (show ObjOk X.prog X.w H s.heap e (.dK ls) from I.hok e _ he)
  refine SeqAt.eqP_refs hde fun E Q q => PySem.W.rcP_dicts (A := A.in1) (knd := mixKind X.prog X.w) (r := true) ya yb da db (by show A.units + 1 < cLine; omega) (fun _ => L2.hits_run (F := EqDat X.K H) (fun x y v u h rx ry => eqdat_run I (A := A.in1) (by show A.units + 1 + 66 < cLine; omega) h rx ry) rb ra fk) E Q ?_
  have e2 : va.length = vb.length := by rw [← ra.length, ← rb.length]; exact hl
  rw [show (va.length == vb.length && true) = true from by rw [e2]; simp]
  exact q
def rNeTD (K : PySem.W.Frag) : R2 := fun x y H Q => ∃ (a b : Addr) (xs ys : List V), x = .ref a ∧ y = .ref b ∧ H a = some (.tup xs) ∧ H b = some (.tup ys) ∧ Paired (fun u v => EqDat K H u v ∨ EqDd K H u v) xs ys ∧ Q (.bl false) H
theorem op_neTD (hu : X.A.units + 68 < cLine) : OpR X (compareOp .NotEq) (rNeTD X.K) := by
  intro pins s σ H x y v u Q I rx ry h
  obtain ⟨a, b, xs, ys, rfl, rfl, ha, hb, hp, q⟩ := h
  cases (show v = Value.ref a from rx)
  cases (show u = Value.ref b from ry)
  obtain ⟨us, r1, p1, _⟩ := I.tuple (SqT.of ha)
  obtain ⟨ws, r2, p2, _⟩ := I.tuple (SqT.of hb)
  have hsz : us.toArray.size = ws.toArray.size := by
    rw [List.size_toArray, List.size_toArray, ← r1.length, ← r2.length]
    exact Paired.length hp
  refine NeT.tups_ne p1 p2 hsz (by omega) (fun j h1 h2 => ?_) _ _ ⟨.bl false, H, I, rfl, q⟩
  have k := L2.items_run (A := X.A.in1) (F := fun u v => EqDat X.K H u v ∨ EqDd X.K H u v) (fun x y v u h rx ry => h.elim (fun h => eqdat_run I (by omega) h rx ry) fun h => eqdd_run I (by omega) h rx ry) hp r1 r2 j (by simpa using h1) (by simpa using h2)
  simpa using k
end
theorem eqdat_strs {H : Hp} {p q : Addr} {c : List Str} (hp : H p = some (.tup (c.map V.str))) (hq : H q = some (.tup (c.map V.str))) (ho : (c.map V.str).all okV = true) : EqDat K H (.ref p) (.ref q) :=
  ⟨_, _, .tup (SqT.of hp) (dpAll_flat (okL_flat ho)), .tup (SqT.of hq) (dpAll_flat (okL_flat ho)), shaped_tup ho, shaped_tup ho, by rw [PyData.eqv, eqvAll_flat (okL_flat ho) (okL_flat ho)]; exact eqL_refl (okL_flat ho)⟩
theorem eqdat_str {H : Hp} {s : Str} (ho : okV (.str s) = true) : EqDat K H (.str s) (.str s) :=
  ⟨_, _, dp_flat (okV_flat ho), dp_flat (okV_flat ho), shaped_flat ho, shaped_flat ho, by rw [eqv_flat (okV_flat ho) (okV_flat ho)]; exact eqV_refl (okV_flat ho)⟩

/-! ### how a node's clocks are found, in one word -/
open TL (tl)
def outW : Nat → Str
  | 0 => "fit"
  | 1 => "clash"
  | 2 => "same"
  | _ => "none"
theorem in_clkO {S : List Stp} {z : Str} {c : List Str} (h : clkOf S z = some c) : z ∈ S.map (·.1) := by
  obtain ⟨p, hp⟩ := clk_mem h
  exact List.mem_map.mpr ⟨_, hp, rfl⟩
theorem all_D {n : Nd} {S : List Stp} (hok : SOk n S) (hc : Closed n.ins n.rows (clkOf S)) (hall : ∀ z ∈ n.names, z ∈ S.map (·.1)) : AllD n.ins n.rows n.names := fun s hs => ⟨ckOf S s, (clk_iff hok.stps hc).mp (ck_in (hall s hs)).1⟩
theorem ck_D {n : Nd} {S : List Stp} (hc : Closed n.ins n.rows (clkOf S)) {s : Str} {c : List Str} (h : Drv n.ins n.rows s c) : ckOf S s = c := by
  unfold ckOf
  rw [hc.drv h]
  rfl
theorem out_fit {n : Nd} {S : List Stp} (hok : SOk n S) (hc : Closed n.ins n.rows (clkOf S)) (hall : ∀ z ∈ n.names, z ∈ S.map (·.1)) (hsm : ∀ ns, Rw.sm ns ∈ n.rows → ∀ a ∈ ns, ∀ b ∈ ns, ckOf S a = ckOf S b) : OutN n 0 :=
  ⟨hc.no, all_D hok hc hall, fun ns hns a ha b hb c d h1 h2 => by rw [← ck_D hc h1, ← ck_D hc h2]; exact hsm ns hns a ha b hb⟩
theorem out_same {n : Nd} {S S' : List Stp} {a b : Str} (hok : SOk n S) (hc : Closed n.ins n.rows (clkOf S)) (hall : ∀ z ∈ n.names, z ∈ S.map (·.1)) (hC : ClashP n "same" S' a b) : OutN n 2 := by
  refine ⟨hc.no, all_D hok hc hall, fun hS => ?_⟩
  cases hC with
  | same h1 h2 h3 h4 _ h5 h6 h7 => exact h7 (hS _ h2 _ h3 _ h4 _ _ (h1.drv _ h5) (h1.drv _ h6))
theorem out_none {n : Nd} {S : List Stp} {i : Nat} {s : Str} (hc : Closed n.ins n.rows (clkOf S)) (hs : n.names[i]? = some s) (hno : s ∉ S.map (·.1)) : OutN n 3 :=
  ⟨hc.no, fun hA => by
    obtain ⟨c, hd⟩ := hA s (List.mem_of_getElem? hs)
    exact hno (in_clkO (hc.drv hd))⟩
/-- the word of what is found -/
def WordAt (H : Hp) (n : Nd) (f : Addr) : Prop := (∃ v, H f = some (.tup [.str "fit", v]) ∧ OutN n 0) ∨ (∃ (word : Str) (p : Addr) (xs : List V), H f = some (.tup [.str "clash", .ref p]) ∧ H p = some (.tup (.str word :: xs)) ∧ ((word = "same" ∧ OutN n 2) ∨ (word ≠ "same" ∧ OutN n 1))) ∨ ∃ v, H f = some (.tup [.str "none", v]) ∧ OutN n 3
theorem WordAt.tk {H G : Hp} {n : Nd} {f : Addr} (h : WordAt H n f) (e : TupK H G) : WordAt G n f := by
  rcases h with ⟨v, h1, h2⟩ | ⟨word, p, xs, h1, h2, h3⟩ | ⟨v, h1, h2⟩
  · exact .inl ⟨v, e _ _ h1, h2⟩
  · exact .inr (.inl ⟨word, p, xs, e _ _ h1, e _ _ h2, h3⟩)
  · exact .inr (.inr ⟨v, e _ _ h1, h2⟩)
theorem found_word {H0 H : Hp} {n : Nd} {w : Addr} (h : FoundAt H0 H n w) : WordAt H n w := by
  rcases h with ⟨S, cd, hok, hcl, hall, hsm, _, gf, _⟩ | ⟨word, S, a, b, p, hC, _, _, _, hsame, gf, hP⟩ | ⟨S, i, s, hok, hcl, hs, hno, _, gf⟩
  · exact .inl ⟨_, gf, out_fit hok hcl hall hsm⟩
  · obtain ⟨sl, gp, _⟩ := hP
    refine .inr (.inl ⟨word, p, _, gf, gp, ?_⟩)
    by_cases hw : word = "same"
    · obtain ⟨hok, hcl, hall⟩ := hsame hw
      subst hw
      exact .inl ⟨rfl, out_same hok hcl hall hC⟩
    · exact .inr ⟨hw, hC.clash hw⟩
  · exact .inr (.inr ⟨_, gf, out_none hcl hs hno⟩)
def sp_word_l : Sp := fun vs H Q _ => ∃ (n : Nd) (u : V) (f : Addr), vs = [u, .ref f] ∧ WordAt H n f ∧ ∀ k H2, k < 4 → OutN n k → Ex H H2 → Q (.str (outW k)) H2
theorem ok_word_l (T : Txt K mg Z)  : FnOk P w K mg base CX0 (3) Z.f_word_l Z.fd_word_l ["_law_told", "_law_found"] sp_word_l := by
  refine T.F_word_l.ok sc_word_l (fun vs H Q E h => ?_) (fun cdv AA outer s H vs Q E hr h => ?_)
  · obtain ⟨n, u, f, rfl, _⟩ := h
    rfl
  · obtain ⟨n, u, f, rfl, hF, k⟩ := h
    refine ⟨_, (pss_cons (ps_if (pt_cmpR op_ne (pe_ix ix_tup (pv 1) pe_int (fun _ _ => rfl)) pe_str (nomark _)) (pss_one (ps_ret (pe_ix ix_tup (pv 1) pe_int (fun _ _ => rfl)))) pss_nil)
      (pss_one (ps_ret (pe_ix ix_list (pe_lst (pa_cons pe_str (pa_cons pe_str pa_nil))) (pe_callTy call_int1 (by rfl) T.n_int (by decide +kernel) (pa_cons (pe_cmpR op_eq (pe_ix ix_tup (pe_ix ix_tup (pv 1) pe_int (fun _ _ => rfl)) pe_int (fun _ _ => rfl)) pe_str (nomark _)) pa_nil)) (fun _ _ => rfl))))), ?_⟩
    rcases hF with ⟨v, gf, hO⟩ | ⟨word, p, xs, gf, gp, hO⟩ | ⟨v, gf, hO⟩
    · walk_at "ss"
      refine c_ixT (SqT.of gf) rfl ?_
      walk_at "ss"
      rw [str_ne (x := "fit") (y := "clash") (by decide +kernel)]
      walk_at "ss"
      refine c_ixT (SqT.of gf) rfl ?_
      exact k 0 _ (by decide) hO (Ex.refl _)
    · walk_at "ss"
      refine c_ixT (SqT.of gf) rfl ?_
      walk_at "ss"
      rw [str_eq rfl]
      walk_at "ss"
      refine newL fun q H2 hq e2 g2 => ?_
      walk_at "ss"
      refine c_ixT (SqT.of (e2 _ _ gf)) rfl ?_
      walk_at "ss"
      refine c_ixT (SqT.of (e2 _ _ gp)) at_hd ?_
      walk_at "ss"
      refine .inr ⟨_, rfl, ?_⟩
      rcases hO with ⟨hw, hO⟩ | ⟨hw, hO⟩
      · rw [str_eq hw]
        refine c_ixL (SqL.of g2) rfl ?_
        exact k 2 _ (by decide) hO e2
      · rw [str_ne hw]
        refine c_ixL (SqL.of g2) rfl ?_
        exact k 1 _ (by decide) hO e2
    · walk_at "ss"
      refine c_ixT (SqT.of gf) rfl ?_
      walk_at "ss"
      rw [str_ne (x := "none") (y := "clash") (by decide +kernel)]
      walk_at "ss"
      refine c_ixT (SqT.of gf) rfl ?_
      exact k 3 _ (by decide) hO (Ex.refl _)
/-! ### names put otherwise -/
def fK (kv : List (Key × V)) (s : Str) : Str := match valV kv (.inr s) with
  | some (.str t) => t
  | _ => s
def AllS (kv : List (Key × V)) : Prop := ∀ s, ∃ t, (valV kv (.inr s)).getD (.str s) = .str t
theorem fK_get {kv : List (Key × V)} (h : AllS kv) (s : Str) : (valV kv (.inr s)).getD (.str s) = .str (fK kv s) := by
  obtain ⟨t, ht⟩ := h s
  unfold fK
  cases e : valV kv (.inr s) with
  | none => rfl
  | some v =>
    rw [e] at ht
    have : v = .str t := ht
    rw [this]
    rfl
def sp_pt (n : Nat) : Sp := fun vs H Q _ => ∃ (u : V) (d : Addr) (kv : List (Key × V)), vs = [u, .ref d] ∧ H d = some (.dK kv) ∧ AllS kv ∧ ((∃ s, u = .str s ∧ 1 ≤ n ∧ ∀ H2, Ex H H2 → Q (.str (fK kv s)) H2) ∨ ∃ (p : Addr) (ns : List Str), u = .ref p ∧ 2 ≤ n ∧ H p = some (.tup (ns.map V.str)) ∧ ns.length ≤ 2000 ∧ RetT ((ns.map (fK kv)).map V.str) H Q)
theorem ok_put_l (T : Txt K mg Z) {n : Nat} (G_put_l : FnOk P w K mg base CX0 (n + 1) Z.f_put_l Z.fd_put_l ["_law_part", "_law_names"] (sp_pt n)) : FnOk P w K mg base CX0 (n + 2) Z.f_put_l Z.fd_put_l ["_law_part", "_law_names"] (sp_pt (n + 1)) := by
  refine T.F_put_l.ok sc_put_l (fun vs H Q E h => ?_) (fun cdv AA outer s H vs Q E hr h => ?_)
  · obtain ⟨u, d, kv, rfl, _⟩ := h
    rfl
  · obtain ⟨u, d, kv, rfl, gd, hA, hcase⟩ := h
    refine ⟨_, (pss_cons (ps_if (pt_val (pe_callB call_isi (by rfl) T.n_isinstance (by decide +kernel) (pa_cons (pv 0) (pa_cons (pe_bltn (v := .ty "tuple") (by rfl) T.n_tuple (by decide +kernel) rfl) pa_nil)))) (pss_one (ps_ret (pe_callTy call_tuple_of (by rfl) T.n_tuple (by decide +kernel) (pa_cons (pe_lc (own := [("_law_one", 2)]) (g := (gName 2)) (tt := tYes) (te := (tCall (sp_pt n) [] E0 (tCons (tVar 2) (tCons (tVar 1) tNil)))) rfl sc_put_l.nd (pi_tup (pv 0)) (blkOk_by (own := [("_law_one", 2)]) (N := N_put_l) (sc := defScope s_put_l) (by decide +kernel)) (fun _ _ _ _ _ => (pg_name (i := 2) sc_put_l.nd rfl (Or.inl rfl))) (fun _ _ _ _ _ => pts_nil) (fun _ _ _ _ _ => (pe_call G_put_l (hr.mono (by omega)) rfl T.g_put_l T.F_put_l.kp T.b_put_l .nil pass0 (pa_cons (pv 2) (pa_cons (pv 1) pa_nil))))) pa_nil)))) pss_nil)
      (pss_cons (ps_if (pt_val (pe_callB call_isi (by rfl) T.n_isinstance (by decide +kernel) (pa_cons (pv 0) (pa_cons (pe_bltn (v := .ty "str") (by rfl) T.n_str (by decide +kernel) rfl) pa_nil)))) (pss_one (ps_ret (pe_dget2 (hu_of hr) (pv 1) (pv 0) (pv 0) ⟨rfl, rfl, rfl, rfl⟩))) pss_nil)
      (pss_one (ps_ret (pv 0))))), ?_⟩
    rcases hcase with ⟨s, rfl, hn, k⟩ | ⟨p, ns, rfl, hn, gp, hl, k⟩
    · walk_at "ss"
      refine isi (ty_str s) kb_st ?_
      walk_at "ss"
      refine isi (ty_str s) kb_ss ?_
      walk_at "ss"
      refine ⟨.inl ⟨_, .inl gd⟩, ?_⟩
      walk_at "ss"
      refine ⟨_, .inl ⟨kv, .inr s, .inl gd, rfl, rfl⟩, ?_⟩
      rw [fK_get hA s]
      exact k _ (Ex.refl _)
    · walk_at "ss"
      refine isi (ty_tup gp) kb_tt ?_
      walk_at "ss"
      refine ⟨⟨_, SqT.of gp⟩, lcT (fun i => (ns[i]?).bind fun s => some (.str (fK kv s))) (SqT.of gp) (by rw [List.length_map]; omega) (fun i x hx => ?_) ?_⟩
      · rw [List.getElem?_map] at hx
        obtain ⟨s, hs, rfl⟩ := Option.map_eq_some_iff.mp hx
        intro H9 e9 R hR
        walk_at "ss"
        refine ⟨_, d, kv, rfl, e9 _ _ gd, hA, .inl ⟨s, rfl, by omega, fun H2 e2 => ?_⟩⟩
        rw [hs] at hR
        exact hR _ e2
      rw [List.length_map, fm_range, fm_some]
      intro l3 A3 hl3 c3 m3
      have M3 : A3 l3 = some (.lst ((ns.map (fK kv)).map V.str)) := by rw [m3, List.map_map]; rfl
      walk_at "ss"
      refine ⟨l3, _, rfl, .inl ⟨SqL.of M3, fun q3 hq3 => ?_⟩⟩
      exact k q3 _ (fresh_back c3 hq3) (c3.trans (Ex.new hq3)) upd_same
theorem okn_pt (T : Txt K mg Z) : ∀ n, FnOk P w K mg base CX0 (n + 1) Z.f_put_l Z.fd_put_l ["_law_part", "_law_names"] (sp_pt n)
  | 0 => ⟨fun vs H Q E ⟨u, d, kv, e, _⟩ => by rw [e]; rfl, fun _ _ _ _ _ _ _ _ _ _ _ _ _ ⟨u, d, kv, _, _, _, h⟩ => by
      rcases h with ⟨_, _, h, _⟩ | ⟨_, _, _, h, _⟩
      · exact absurd h (by decide)
      · exact absurd h (by decide)⟩
  | n + 1 => ok_put_l T (okn_pt T n)
/-! ### terms under other names -/
def sp_tp (n : Nat) : Sp := fun vs H Q _ => ∃ (t : Tm) (u : V) (d : Addr) (f : Str → Str), vs = [u, .ref d] ∧ ToldAt H t u ∧ t.good ∧ t.dep ≤ n ∧ DM H d f t.flat ∧ ∀ v H2, Ex H H2 → ToldAt H2 (t.ren f) v → Q v H2
/-- a contrary or a choice as a tuple of its parts -/
theorem told_np {H : Hp} {t : Tm} {u : V} (h : ToldAt H t u) (hg : t.good) (hn : ∀ s, t ≠ .nm s) (hv : ∀ v, t ≠ .vl v) (h2 : ∀ op a b, t ≠ .two op a b) : ∃ (a : Addr) (w : Str) (vs : List V) (ps : List Tm), u = .ref a ∧ H a = some (.tup (.str w :: vs)) ∧ w ≠ "name" ∧ w ≠ "value" ∧ w ≠ "two" ∧ Paired (ToldAt H) ps vs ∧ ps.length ≤ 3 ∧ 0 < ps.length ∧
    (∀ q ∈ ps, q.good ∧ q.dep + 1 ≤ t.dep ∧ ∀ s ∈ q.flat, s ∈ t.flat) ∧ ∀ (f : Str → Str) (G : Hp) (ws : List V) (p : Addr), Paired (fun q v => ToldAt G (q.ren f) v) ps ws → G p = some (.tup (.str w :: ws)) → ToldAt G (t.ren f) (.ref p) := by
  cases t with
  | nm s => exact absurd rfl (hn s)
  | vl v => exact absurd rfl (hv v)
  | two op a b => exact absurd rfl (h2 op a b)
  | nt p =>
    obtain ⟨a, v1, rfl, ha, h1⟩ := h
    refine ⟨a, "not", [v1], [p], rfl, ha, by decide +kernel, by decide +kernel, by decide +kernel, .cons h1 .nil, by simp, by simp, fun q hq => ?_, fun f G ws pp hw hG => ?_⟩
    · rw [List.mem_singleton.mp hq]
      exact ⟨hg, Tm.dep_part (by simp [Tm.parts]), fun s hs => hs⟩
    · cases hw with
      | cons r1 t1 =>
        cases t1
        exact ⟨pp, _, rfl, hG, r1⟩
  | pk c p q =>
    obtain ⟨a, v0, v1, v2, rfl, ha, h0, h1, h3⟩ := h
    refine ⟨a, "pick", [v0, v1, v2], [c, p, q], rfl, ha, by decide +kernel, by decide +kernel, by decide +kernel, .cons h0 (.cons h1 (.cons h3 .nil)), by simp, by simp, fun z hz => ?_, fun f G ws pp hw hG => ?_⟩
    · have hz : z = c ∨ z = p ∨ z = q := by simpa using hz
      rcases hz with rfl | rfl | rfl
      · exact ⟨hg.1, Tm.dep_part (by simp [Tm.parts]), fun s hs => List.mem_append_left _ (List.mem_append_left _ hs)⟩
      · exact ⟨hg.2.1, Tm.dep_part (by simp [Tm.parts]), fun s hs => List.mem_append_left _ (List.mem_append_right _ hs)⟩
      · exact ⟨hg.2.2, Tm.dep_part (by simp [Tm.parts]), fun s hs => List.mem_append_right _ hs⟩
    · cases hw with
      | cons r0 t0 =>
        cases t0 with
        | cons r1 t1 =>
          cases t1 with
          | cons r2 t2 =>
            cases t2
            exact ⟨pp, _, _, _, rfl, hG, r0, r1, r2⟩
theorem ok_term_put_l (T : Txt K mg Z) {n : Nat} (G_term_put_l : FnOk P w K mg base CX0 (n + 1) Z.f_term_put_l Z.fd_term_put_l ["_law_term", "_law_names"] (sp_tp n)) : FnOk P w K mg base CX0 (n + 2) Z.f_term_put_l Z.fd_term_put_l ["_law_term", "_law_names"] (sp_tp (n + 1)) := by
  refine T.F_term_put_l.ok sc_term_put_l (fun vs H Q E h => ?_) (fun cdv AA outer s H vs Q E hr h => ?_)
  · obtain ⟨t, u, d, f, rfl, _⟩ := h
    rfl
  · obtain ⟨t, u, d, f, rfl, ht, hg, hd, hD, k⟩ := h
    refine ⟨_, (pss_cons (ps_if (pt_cmpR op_eq (pe_ix ix_tup (pv 0) pe_int (fun _ _ => rfl)) pe_str (nomark _)) (pss_one (ps_ret (pe_tup (pa_cons pe_str (pa_cons (pe_dget (hu_of hr) (pv 1) (pe_ix ix_tup (pv 0) pe_int (fun _ _ => rfl)) (fun _ _ => rfl)) pa_nil))))) pss_nil)
      (pss_cons (ps_if (pt_cmpR op_eq (pe_ix ix_tup (pv 0) pe_int (fun _ _ => rfl)) pe_str (nomark _)) (pss_one (ps_ret (pv 0))) pss_nil)
      (pss_cons (ps_if (pt_cmpR op_eq (pe_ix ix_tup (pv 0) pe_int (fun _ _ => rfl)) pe_str (nomark _)) (pss_one (ps_ret (pe_op op_catA (pe_slice sl_tupA (pv 0) po_none (po_some pe_int)) (pe_tup (pa_cons (pe_call G_term_put_l (hr.mono (by omega)) rfl T.g_term_put_l T.F_term_put_l.kp T.b_term_put_l .nil pass0 (pa_cons (pe_ix ix_tup (pv 0) pe_int (fun _ _ => rfl)) (pa_cons (pv 1) pa_nil))) (pa_cons (pe_call G_term_put_l (hr.mono (by omega)) rfl T.g_term_put_l T.F_term_put_l.kp T.b_term_put_l .nil pass0 (pa_cons (pe_ix ix_tup (pv 0) pe_int (fun _ _ => rfl)) (pa_cons (pv 1) pa_nil))) pa_nil)))))) pss_nil)
      (pss_one (ps_ret (pe_op op_catA (pe_slice sl_tupA (pv 0) po_none (po_some pe_int)) (pe_callTy call_tuple_of (by rfl) T.n_tuple (by decide +kernel) (pa_cons (pe_lc (own := [("_law_part", 2)]) (g := (gName 2)) (tt := tYes) (te := (tCall (sp_tp n) [] E0 (tCons (tVar 2) (tCons (tVar 1) tNil)))) rfl sc_term_put_l.nd (pi_tup (pe_slice sl_tup (pv 0) (po_some pe_int) po_none)) (blkOk_by (own := [("_law_part", 2)]) (N := N_term_put_l) (sc := defScope s_term_put_l) (by decide +kernel)) (fun _ _ _ _ _ => (pg_name (i := 2) sc_term_put_l.nd rfl (Or.inl rfl))) (fun _ _ _ _ _ => pts_nil) (fun _ _ _ _ _ => (pe_call G_term_put_l (hr.mono (by omega)) rfl T.g_term_put_l T.F_term_put_l.kp T.b_term_put_l .nil pass0 (pa_cons (pv 2) (pa_cons (pv 1) pa_nil))))) pa_nil)))))))), ?_⟩
    by_cases hn : ∃ s, t = .nm s
    · obtain ⟨s, rfl⟩ := hn
      obtain ⟨a, rfl, ha⟩ := ht
      walk_at "ss"
      refine c_ixT (SqT.of ha) rfl ?_
      walk_at "ss"
      rw [str_eq rfl]
      walk_at "ss"
      refine c_ixT (SqT.of ha) rfl ?_
      walk_at "ss"
      refine ⟨d, _, rfl, hD.get (by simp [Tm.flat]), ?_⟩
      walk_at "ss"
      exact newT fun p H2 hp e2 g2 => k _ _ e2 ⟨p, rfl, g2⟩
    · by_cases hv : ∃ v, t = .vl v
      · obtain ⟨v, rfl⟩ := hv
        have ht' := ht
        obtain ⟨a, rfl, ha⟩ := ht
        walk_at "ss"
        refine c_ixT (SqT.of ha) rfl ?_
        walk_at "ss"
        rw [str_ne (by decide +kernel)]
        walk_at "ss"
        refine c_ixT (SqT.of ha) rfl ?_
        walk_at "ss"
        rw [str_eq rfl]
        walk_at "ss"
        exact k _ _ (Ex.refl _) ht'
      · by_cases h2 : ∃ op p q, t = .two op p q
        · obtain ⟨op, p, q, rfl⟩ := h2
          obtain ⟨a, v1, v2, rfl, ha, h1, h3⟩ := ht
          have d1 : p.dep + 1 ≤ (Tm.two op p q).dep := Tm.dep_part (by simp [Tm.parts])
          have d2 : q.dep + 1 ≤ (Tm.two op p q).dep := Tm.dep_part (by simp [Tm.parts])
          walk_at "ss"
          refine c_ixT (SqT.of ha) rfl ?_
          walk_at "ss"
          rw [str_ne (by decide +kernel)]
          walk_at "ss"
          refine c_ixT (SqT.of ha) rfl ?_
          walk_at "ss"
          rw [str_ne (by decide +kernel)]
          walk_at "ss"
          refine c_ixT (SqT.of ha) rfl ?_
          walk_at "ss"
          rw [str_eq rfl]
          walk_at "ss"
          refine c_slH ha fun p1 H1 e1 g1 => ?_
          have g1 : H1 p1 = some (.tup [.str "two", .str op]) := g1
          walk_at "ss"
          refine c_ixT (SqT.of (e1 _ _ ha)) rfl ?_
          walk_at "ss"
          refine ⟨p, v1, d, f, rfl, h1.up e1, hg.2.1, by omega, (hD.up e1).sub fun s hs => List.mem_append_left _ hs, fun y1 H3 e3 t3 => ?_⟩
          walk_at "ss"
          refine c_ixT (SqT.of (e3 _ _ (e1 _ _ ha))) rfl ?_
          walk_at "ss"
          refine ⟨q, v2, d, f, rfl, (h3.up e1).up e3, hg.2.2, by omega, ((hD.up e1).up e3).sub fun s hs => List.mem_append_right _ hs, fun y2 H4 e4 t4 => ?_⟩
          walk_at "ss"
          refine newT fun p5 H5 hp5 e5 g5 => ?_
          refine c_catH (e5 _ _ (e4 _ _ (e3 _ _ g1))) g5 (by show 2 + 2 ≤ _; decide +kernel) fun p6 H6 e6 g6 => ?_
          exact k _ _ (e1.trans (e3.trans (e4.trans (e5.trans e6)))) ⟨p6, y1, y2, rfl, g6, ((t3.up e4).up e5).up e6, (t4.up e5).up e6⟩
        · obtain ⟨a, w0, vs, ps, rfl, ha, hw1, hw2, hw3, hP, hpl, hp0, hq, hmake⟩ := told_np ht hg (fun s e => hn ⟨s, e⟩) (fun v e => hv ⟨v, e⟩) (fun op x y e => h2 ⟨op, x, y, e⟩)
          walk_at "ss"
          refine c_ixT (SqT.of ha) at_hd ?_
          walk_at "ss"
          rw [str_ne hw1]
          walk_at "ss"
          refine c_ixT (SqT.of ha) at_hd ?_
          walk_at "ss"
          rw [str_ne hw2]
          walk_at "ss"
          refine c_ixT (SqT.of ha) at_hd ?_
          walk_at "ss"
          rw [str_ne hw3]
          walk_at "ss"
          have hvl := paired_len hP
          refine c_slH ha fun p1 H1 e1 g1 => ?_
          have g1 : H1 p1 = some (.tup [.str w0]) := g1
          walk_at "ss"
          refine ⟨a, _, rfl, SqT.of (e1 _ _ ha), (by
            intro z
            have h1 := z.1
            rw [show (1 : Int) = ((1 : Nat) : Int) from rfl, HT.sIx_nat, List.length_cons] at h1
            omega), fun p2 hp2 => ?_⟩
          rw [show (1 : Int) = ((1 : Nat) : Int) from rfl, cutv_drop, show (V.str w0 :: vs).drop 1 = vs from rfl]
          have e2 : Ex H1 (upd H1 p2 (.tup vs)) := Ex.new hp2
          have g2 : upd H1 p2 (.tup vs) p2 = some (.tup vs) := upd_same
          generalize upd H1 p2 (.tup vs) = H2 at e2 g2
          refine ⟨p2, rfl, ⟨_, SqT.of g2⟩, lcW walk_tup (fun G e => Evl.ex_t e (SqT.of g2)) (as := ps) hvl (by omega) (fun _ => true) (fun D q y G => ToldAt G (q.ren f) y) (fun D q y G G2 _ en h => ToldAt.keep (NL.tups en) h) ?_ ?_⟩
          · rintro D i q x hD0 hq1 hx G3 e3 ⟨o, ho⟩ R N hR hNo
            obtain ⟨q', hq', htq⟩ := paired_ix hP hx
            rw [hq1] at hq'
            cases hq'
            obtain ⟨q1, q2, q3⟩ := hq q (List.mem_of_getElem? hq1)
            walk_at "ss"
            refine ⟨q, _, d, f, rfl, htq.up (e1.trans (e2.trans e3)), q1, by omega, (hD.up (e1.trans (e2.trans e3))).sub q3, fun y1 H4 e4 t4 => ?_⟩
            exact hR rfl _ _ e4 t4
          intro ys lp H3 hys hlp e3 g3
          rw [List.filter_eq_self.mpr (fun _ _ => rfl)] at hys
          have hyl := paired_len hys
          walk_at "ss"
          refine ⟨lp, _, rfl, .inl ⟨SqL.of g3, fun p4 hp4 => ?_⟩⟩
          have e4 : Ex H3 (upd H3 p4 (.tup ys)) := Ex.new hp4
          have g4 : upd H3 p4 (.tup ys) p4 = some (.tup ys) := upd_same
          generalize upd H3 p4 (.tup ys) = H4 at e4 g4
          refine c_catH (e4 _ _ (e3 _ _ (e2 _ _ g1))) g4 (by show 1 + _ ≤ _; omega) fun p6 H6 e6 g6 => ?_
          exact k _ _ (e1.trans (e2.trans (e3.trans (e4.trans e6)))) (hmake f H6 ys p6 (paired_up (fun _ _ h => ToldAt.up (ToldAt.up h e4) e6) hys) g6)
theorem okn_tp (T : Txt K mg Z) : ∀ n, FnOk P w K mg base CX0 (n + 1) Z.f_term_put_l Z.fd_term_put_l ["_law_term", "_law_names"] (sp_tp n)
  | 0 => ⟨fun vs H Q E ⟨t, u, d, f, e, _⟩ => by rw [e]; rfl, fun _ _ _ _ _ _ _ _ _ _ _ _ _ ⟨t, u, d, f, _, _, _, h1, _⟩ => by have := t.dep_pos; omega⟩
  | n + 1 => ok_term_put_l T (okn_tp T n)
/-! ### rows under other names -/
theorem DM.fk {H : Hp} {d : Addr} {kv : List (Key × V)} {L : List Str} (h : H d = some (.dK kv)) (hL : ∀ s ∈ L, ∃ t, valV kv (.inr s) = some (.str t) ∧ goodN t) : DM H d (fK kv) L := ⟨kv, h, fun s hs => by
  obtain ⟨t, h1, h2⟩ := hL s hs
  have e : fK kv s = t := by unfold fK; rw [h1]
  rw [e]
  exact ⟨h1, h2⟩⟩
def sp_renamed_l : Sp := fun vs H Q _ => ∃ (r : Rw) (u : V) (d : Addr) (kv : List (Key × V)), vs = [u, .ref d] ∧ RowAt H r u ∧ r.good ∧ r.nocall ∧ H d = some (.dK kv) ∧ AllS kv ∧ (∀ s ∈ r.all, ∃ t, valV kv (.inr s) = some (.str t) ∧ goodN t) ∧ ∀ v H2, Ex H H2 → RowAt H2 (r.ren (fK kv)) v → Q v H2
theorem ok_renamed_l (T : Txt K mg Z)  : FnOk P w K mg base CX0 (8) Z.f_renamed_l Z.fd_renamed_l ["_law_row", "_law_names"] sp_renamed_l := by
  refine T.F_renamed_l.ok sc_renamed_l (fun vs H Q E h => ?_) (fun cdv AA outer s H vs Q E hr h => ?_)
  · obtain ⟨r, u, d, kv, rfl, _⟩ := h
    rfl
  · obtain ⟨r, u, d, kv, rfl, hr2, hg, hnc, gd, hA, hL, k⟩ := h
    have G_term_put_l := okn_tp (P := P) (w := w) (base := base) T 5
    have G_put_l := okn_pt (P := P) (w := w) (base := base) T 2
    have hD := DM.fk gd hL
    refine ⟨_, (pss_cons (ps_if (pt_cmpR op_eq (pe_ix ix_tup (pv 0) pe_int (fun _ _ => rfl)) pe_str (nomark _)) (pss_one (ps_ret (pe_tup (pa_cons pe_str (pa_cons (pe_dget (hu_of hr) (pv 1) (pe_ix ix_tup (pv 0) pe_int (fun _ _ => rfl)) (fun _ _ => rfl)) (pa_cons (pe_call G_term_put_l (hr.mono (by omega)) rfl T.g_term_put_l T.F_term_put_l.kp T.b_term_put_l .nil pass0 (pa_cons (pe_ix ix_tup (pv 0) pe_int (fun _ _ => rfl)) (pa_cons (pv 1) pa_nil))) pa_nil)))))) pss_nil)
      (pss_cons (ps_if (pt_cmpR op_eq (pe_ix ix_tup (pv 0) pe_int (fun _ _ => rfl)) pe_str (nomark _)) (pss_one (ps_ret (pe_tup (pa_cons pe_str (pa_cons (pe_call G_put_l (hr.mono (by omega)) rfl T.g_put_l T.F_put_l.kp T.b_put_l .nil pass0 (pa_cons (pe_ix ix_tup (pv 0) pe_int (fun _ _ => rfl)) (pa_cons (pv 1) pa_nil))) pa_nil))))) pss_nil)
      (pss_cons (ps_if (pt_cmpR op_eq (pe_ix ix_tup (pv 0) pe_int (fun _ _ => rfl)) pe_str (nomark _)) (pss_one (ps_ret (pe_op op_catA (pe_tup (pa_cons pe_str pa_nil)) (pe_call G_put_l (hr.mono (by omega)) rfl T.g_put_l T.F_put_l.kp T.b_put_l .nil pass0 (pa_cons (pe_slice sl_tup (pv 0) (po_some pe_int) po_none) (pa_cons (pv 1) pa_nil)))))) pss_nil)
      (pss_one (ps_ret (pe_tup (pa_cons (pe_ix ix_tup (pv 0) pe_int (fun _ _ => rfl)) (pa_cons (pe_dget (hu_of hr) (pv 1) (pe_ix ix_tup (pv 0) pe_int (fun _ _ => rfl)) (fun _ _ => rfl)) (pa_cons (pe_ix ix_tup (pv 0) pe_int (fun _ _ => rfl)) (pa_cons (pe_dget (hu_of hr) (pv 1) (pe_ix ix_tup (pv 0) pe_int (fun _ _ => rfl)) (fun _ _ => rfl)) pa_nil)))))))))), ?_⟩
    cases r with
    | pl n t =>
      obtain ⟨a, tw, rfl, ha, hw⟩ := hr2
      have h5 := hg.2.2
      walk_at "ss"
      refine c_ixT (SqT.of ha) rfl ?_
      walk_at "ss"
      rw [str_eq rfl]
      walk_at "ss"
      refine c_ixT (SqT.of ha) rfl ?_
      walk_at "ss"
      refine ⟨d, _, rfl, hD.get (by simp [Rw.all, Rw.tells]), ?_⟩
      walk_at "ss"
      refine c_ixT (SqT.of ha) rfl ?_
      walk_at "ss"
      refine ⟨t, tw, d, fK kv, rfl, hw, hg.2.1, h5, hD.sub (fun s hs => List.mem_append_right _ (flat_names hs)), fun u2 H2 e2 t2 => ?_⟩
      walk_at "ss"
      exact newT fun p3 H3 hp3 e3 g3 => k _ _ (e2.trans e3) ⟨p3, _, rfl, g3, t2.up e3⟩
    | vd kk n v x =>
      obtain ⟨a, rfl, ha⟩ := hr2
      walk_at "ss"
      refine c_ixT (SqT.of ha) rfl ?_
      walk_at "ss"
      rw [str_ne (x := vword kk) (y := "plain") (vw_no (by decide +kernel) (by decide +kernel) (by decide +kernel))]
      walk_at "ss"
      refine c_ixT (SqT.of ha) rfl ?_
      walk_at "ss"
      rw [str_ne (x := vword kk) (y := "same") (vw_no (by decide +kernel) (by decide +kernel) (by decide +kernel))]
      walk_at "ss"
      refine c_ixT (SqT.of ha) rfl ?_
      walk_at "ss"
      rw [str_ne (x := vword kk) (y := "when") (vw_no (by decide +kernel) (by decide +kernel) (by decide +kernel))]
      walk_at "ss"
      refine c_ixT (SqT.of ha) rfl ?_
      walk_at "ss"
      refine c_ixT (SqT.of ha) rfl ?_
      walk_at "ss"
      refine ⟨d, _, rfl, hD.get (by simp [Rw.all, Rw.tells]), ?_⟩
      walk_at "ss"
      refine c_ixT (SqT.of ha) rfl ?_
      walk_at "ss"
      refine c_ixT (SqT.of ha) rfl ?_
      walk_at "ss"
      refine ⟨d, _, rfl, hD.get (by simp [Rw.all, Rw.names]), ?_⟩
      walk_at "ss"
      exact newT fun p3 H3 hp3 e3 g3 => k _ _ e3 ⟨p3, rfl, g3⟩
    | wh n x y =>
      obtain ⟨a, rfl, ha⟩ := hr2
      walk_at "ss"
      refine c_ixT (SqT.of ha) rfl ?_
      walk_at "ss"
      rw [str_ne (x := "when") (y := "plain") (by decide +kernel)]
      walk_at "ss"
      refine c_ixT (SqT.of ha) rfl ?_
      walk_at "ss"
      rw [str_ne (x := "when") (y := "same") (by decide +kernel)]
      walk_at "ss"
      refine c_ixT (SqT.of ha) rfl ?_
      walk_at "ss"
      rw [str_eq rfl]
      walk_at "ss"
      refine newT fun p1 H1 hp1 e1 g1 => ?_
      walk_at "ss"
      refine ⟨a, _, rfl, SqT.of (e1 _ _ ha), (by
        intro z
        have h1 := z.1
        rw [show (1 : Int) = ((1 : Nat) : Int) from rfl, HT.sIx_nat] at h1
        simp at h1), fun p2 hp2 => ?_⟩
      rw [show (1 : Int) = ((1 : Nat) : Int) from rfl, cutv_drop, show ([V.str "when", .str n, .str x, .str y] : List V).drop 1 = [n, x, y].map V.str from rfl]
      have e2 : Ex H1 (upd H1 p2 (.tup ([n, x, y].map V.str))) := Ex.new hp2
      have g2 : upd H1 p2 (.tup ([n, x, y].map V.str)) p2 = some (.tup ([n, x, y].map V.str)) := upd_same
      generalize upd H1 p2 (.tup ([n, x, y].map V.str)) = H2 at e2 g2
      walk_at "ss"
      refine ⟨.ref p2, d, kv, rfl, e2 _ _ (e1 _ _ gd), hA, .inr ⟨p2, [n, x, y], rfl, by decide, g2, by simp, fun p3 H3 hp3 e3 g3 => ?_⟩⟩
      refine c_catH (e3 _ _ (e2 _ _ g1)) g3 (by show 1 + 3 ≤ _; decide +kernel) fun p6 H6 e6 g6 => ?_
      exact k _ _ (e1.trans (e2.trans (e3.trans e6))) ⟨p6, rfl, g6⟩
    | sm ns =>
      obtain ⟨a, p, rfl, ha, hp⟩ := hr2
      have hl := hg.2.1
      walk_at "ss"
      refine c_ixT (SqT.of ha) rfl ?_
      walk_at "ss"
      rw [str_ne (x := "same") (y := "plain") (by decide +kernel)]
      walk_at "ss"
      refine c_ixT (SqT.of ha) rfl ?_
      walk_at "ss"
      rw [str_eq rfl]
      walk_at "ss"
      refine c_ixT (SqT.of ha) rfl ?_
      walk_at "ss"
      refine ⟨.ref p, d, kv, rfl, gd, hA, .inr ⟨p, ns, rfl, by decide, hp, by omega, fun p3 H3 hp3 e3 g3 => ?_⟩⟩
      walk_at "ss"
      exact newT fun p4 H4 hp4 e4 g4 => k _ _ (e3.trans e4) ⟨p4, p3, rfl, g4, e4 _ _ g3⟩
    | cl os nd xs => exact absurd hnc id

/-! ### a row more, drawn over the clocks that are told -/
open TL (tl)
def MoK (b : Addr) (U : List Str) (ck : Str → List Str) (H : Hp) (Q : VK) : Prop := ∀ (a c : Str) (r : Rw) (c' : List Str) (u : V) (q w : Addr) (H2 : Hp), a ∈ U → c ∈ U → ck c = ck a → ((r = .wh "qq" a c ∧ c' = ck a ++ [c]) ∨ ∃ k, (k = 0 ∨ k = 2) ∧ r = .vd k "qq" (.int 3) a ∧ c' = ck a) → RowAt H2 r u → H2 q = some (.tup (c'.map V.str)) → H2 w = some (.tup [u, .ref q]) → ExB b H H2 → BoxAt H2 b → Q (.ref w) H2
def sp_more_l : Sp := fun vs H Q _ => ∃ (b cd : Addr) (u : V) (U : List Str) (ck : Str → List Str), vs = [.ref b, u, .ref cd] ∧ BoxAt H b ∧ CksAt H cd U ck ∧ U ≠ [] ∧ U.length ≤ 1000 ∧ (∀ s ∈ U, (ck s).length ≤ 1001 ∧ ∀ z ∈ ck s, goodN z) ∧ MoK b U ck H Q
theorem ok_more_l (T : Txt K mg Z) : FnOk P w K mg base CX0 2 Z.f_more_l Z.fd_more_l ["_law_well", "_law_told", "_law_clocks"] sp_more_l := by
  have G_draw_l := ok_draw_l (P := P) (w := w) (base := base) T
  refine T.F_more_l.ok sc_more_l (fun vs H Q E h => ?_) (fun cdv AA outer s H vs Q E hr h => ?_)
  · obtain ⟨b, cd, u, U, ck, rfl, _⟩ := h
    rfl
  · obtain ⟨b, cd, u, U, ck, rfl, hB, hC, hne, hU1, hcg, k⟩ := h
    refine ⟨_, (pss_cons (ps_set (i := 3) sc_more_l.nd rfl (Or.inl rfl) (pe_callTy (call_listD rfl) (by rfl) T.n_list (by decide +kernel) (pa_cons (pv 2) pa_nil)))
      (pss_cons (ps_set (i := 4) sc_more_l.nd rfl (Or.inr rfl) (pe_ix ix_list (pv 3) (pe_call G_draw_l (hr.mono (by omega)) rfl T.g_draw_l T.F_draw_l.kp T.b_draw_l .nil pass0 (pa_cons (pv 0) (pa_cons (pe_callB call_len_seq (by rfl) T.n_len (by decide +kernel) (pa_cons (pv 3) pa_nil)) pa_nil))) (fun _ _ => rfl)))
      (pss_cons (ps_setLc (i := 5) (own := [("_law_name", 6)]) (g := (gName 6)) (tt := (tTest (tOp (rEqD K) (tDGet (tVar 2) (tVar 6)) (tDGet (tVar 2) (tVar 4))))) (te := (tVar 6)) rfl sc_more_l.nd rfl rfl (sw_true rfl rfl rfl (by decide +kernel)) (pi_list (pv 3)) (blkOk_by (own := [("_law_name", 6)]) (N := N_more_l) (sc := defScope s_more_l) (by decide +kernel)) (fun _ _ _ _ _ => (pg_name (i := 6) sc_more_l.nd rfl (Or.inl rfl))) (fun _ _ _ _ _ => (pts_one (pt_cmpR (op_eqD hr.units) (pe_dget (hu_of hr) (pv 2) (pv 6) (fun _ _ => rfl)) (pe_dget (hu_of hr) (pv 2) (pv 4) (fun _ _ => rfl)) (nomark _)))) (fun _ _ _ _ _ => (pv 6)))
      (pss_cons (ps_set (i := 7) sc_more_l.nd rfl (Or.inl rfl) (pe_ix ix_list (pv 5) (pe_call G_draw_l (hr.mono (by omega)) rfl T.g_draw_l T.F_draw_l.kp T.b_draw_l .nil pass0 (pa_cons (pv 0) (pa_cons (pe_callB call_len_seq (by rfl) T.n_len (by decide +kernel) (pa_cons (pv 5) pa_nil)) pa_nil))) (fun _ _ => rfl)))
      (pss_cons (ps_set (i := 8) sc_more_l.nd rfl (Or.inl rfl) (pe_dget (hu_of hr) (pv 2) (pv 4) (fun _ _ => rfl)))
      (pss_cons (ps_if (pt_cmpR op_eq (pe_call G_draw_l (hr.mono (by omega)) rfl T.g_draw_l T.F_draw_l.kp T.b_draw_l .nil pass0 (pa_cons (pv 0) (pa_cons pe_int pa_nil))) pe_int (nomark _)) (pss_one (ps_ret (pe_tup (pa_cons (pe_tup (pa_cons pe_str (pa_cons pe_str (pa_cons (pv 4) (pa_cons (pv 7) pa_nil))))) (pa_cons (pe_op op_catA (pv 8) (pe_tup (pa_cons (pv 7) pa_nil))) pa_nil))))) pss_nil)
      (pss_one (ps_ret (pe_tup (pa_cons (pe_tup (pa_cons (pe_ix ix_list (pe_lst (pa_cons pe_str (pa_cons pe_str pa_nil))) (pe_call G_draw_l (hr.mono (by omega)) rfl T.g_draw_l T.F_draw_l.kp T.b_draw_l .nil pass0 (pa_cons (pv 0) (pa_cons pe_int pa_nil))) (fun _ _ => rfl)) (pa_cons pe_str (pa_cons pe_int (pa_cons (pv 4) pa_nil))))) (pa_cons (pv 8) pa_nil))))))))))), ?_⟩
    obtain ⟨kv, gcd, hkeys, hv⟩ := id hC
    have hU0 : 0 < U.length := List.length_pos_iff.mpr hne
    have okc : ∀ s ∈ U, ((ck s).map V.str).all okV = true := fun s hs => ok_strs (hcg s hs).2
    walk_at "ss"
    refine ⟨cd, _, rfl, .inl gcd, fun l0 hl0 => ?_⟩
    rw [keys_str hkeys]
    have e1 : Ex H (upd H l0 (.lst (U.map V.str))) := Ex.new hl0
    have g1 : upd H l0 (.lst (U.map V.str)) l0 = some (.lst (U.map V.str)) := upd_same
    generalize upd H l0 (.lst (U.map V.str)) = H1 at e1 g1
    have nl0 := fresh_nb hB hl0
    walk_at "ss"
    refine ⟨l0, _, rfl, .inl (SqL.of g1), ?_⟩
    walk_at "ss"
    refine ⟨b, _, rfl, hB.up e1, by rw [List.length_map]; omega, by rw [List.length_map]; omega, fun d H2 d0 d1 x2 b2 => ?_⟩
    obtain ⟨av, hav, havm⟩ := at_in (xs := U.map V.str) (d := d) d0 d1
    obtain ⟨a, haU, rfl⟩ := List.mem_map.mp havm
    have g2 := x2 _ _ nl0 g1
    refine c_ixL (SqL.of g2) hav ?_
    have X2 : ExB b H H2 := (ExB.of e1).trans x2
    have hC2 := hC.upB X2 hB
    obtain ⟨kv, gcd, hkeys, hv⟩ := id hC2
    obtain ⟨qa, qa1, qa2⟩ := hv a haU
    walk_at "ss"
    refine ⟨⟨_, SqL.of g2⟩, lcW walk_list (fun G e => Evl.ex_l e (SqL.of g2)) (as := U) (by rw [List.length_map]) (by rw [List.length_map]; omega) (fun s => decide (ck s = ck a)) (fun D s y G => y = .str s) (fun _ _ _ _ _ _ _ h => h) ?_ ?_⟩
    · rintro D i s x hD hs hx F2 f2 ⟨o, ho⟩ R N hY hN
      rw [List.getElem?_map, hs] at hx
      cases hx
      have hsU := List.mem_of_getElem? hs
      obtain ⟨q, q1, q2⟩ := hv s hsU
      walk_at "ss"
      refine ⟨cd, .ref q, rfl, by rw [← q1]; exact dgetK (f2 _ _ gcd), ?_⟩
      walk_at "ss"
      refine ⟨cd, .ref qa, rfl, by rw [← qa1]; exact dgetK (f2 _ _ gcd), ?_⟩
      refine c_eqT (SqT.of (f2 _ _ q2)) (SqT.of (f2 _ _ qa2)) (okc s hsU) (okc a haU) ?_
      rw [eqL_dec]
      walk_at "ss"
      refine if_cs (fun hc => ?_) (fun hc => ?_)
      · walk_at "ss"
        exact hY hc _ _ (Ex.refl _) rfl
      · exact hN hc _ (Ex.refl _)
    intro ys pl H3 hys hpl E3 gl3
    have hyv : ys = (evn U ck a).map V.str := by
      have : ∀ {l : List Str} {ys : List V}, Paired (fun s (y : V) => y = V.str s) l ys → ys = l.map V.str := by
        intro l ys h
        induction h with
        | nil => rfl
        | cons h _ ih => rw [h, ih]; rfl
      exact this hys
    rw [hyv] at gl3
    have X3 : ExB b H H3 := X2.trans (ExB.of E3)
    have B3 := b2.up E3
    have hC3 := hC2.upC E3
    have npl := fresh_nb b2 hpl
    have hev0 : 0 < (evn U ck a).length := List.length_pos_of_mem (evn_self haU)
    have hev1 : (evn U ck a).length ≤ U.length := List.length_filter_le _ _
    walk_at "ss"
    refine ⟨pl, _, rfl, .inl (SqL.of gl3), ?_⟩
    walk_at "ss"
    refine ⟨b, _, rfl, B3, by rw [List.length_map]; omega, by rw [List.length_map]; omega, fun d5 H5 d50 d51 x5 b5 => ?_⟩
    obtain ⟨cv, hcv, hcvm⟩ := at_in (xs := (evn U ck a).map V.str) (d := d5) d50 d51
    obtain ⟨cc, hcE, rfl⟩ := List.mem_map.mp hcvm
    have hcU := evn_sub hcE
    have hcc : ck cc = ck a := of_decide_eq_true (List.mem_filter.mp hcE).2
    refine c_ixL (SqL.of (x5 _ _ npl gl3)) hcv ?_
    have hC5 := hC3.upB x5 B3
    obtain ⟨kv, gcd, hkeys, hv⟩ := id hC5
    obtain ⟨qa, qa1, qa2⟩ := hv a haU
    have X5 := X3.trans x5
    walk_at "ss"
    refine ⟨cd, _, rfl, by rw [← qa1]; exact dgetK gcd, ?_⟩
    walk_at "ss"
    refine ⟨b, 2, rfl, b5, by decide, by decide, fun d6 H6 d60 d61 x6 b6 => ?_⟩
    have tk : ∀ {a : Addr} {xs : List V}, H5 a = some (.tup xs) → H6 a = some (.tup xs) := fun ha => x6 _ _ (box_ne b5 ha (fun _ _ _ z => by cases z)) ha
    have X6 := X5.trans x6
    walk_at "ss"
    refine if_cs (fun c0 => ?_) (fun c0 => ?_)
    · walk_at "ss"
      refine newT fun q7 H7 hq7 e7 g7 => ?_
      walk_at "ss"
      refine newT fun q8 H8 hq8 e8 g8 => ?_
      have hl := (hcg a haU).1
      refine c_catH ((e7.trans e8) _ _ (tk qa2)) g8 (by rw [List.length_map]; show _ + 1 ≤ _; omega) fun q9 H9 e9 g9 => ?_
      walk_at "ss"
      refine newT fun q10 H10 hq10 e10 g10 => ?_
      exact k a cc (.wh "qq" a cc) (ck a ++ [cc]) (.ref q7) q9 q10 H10 haU hcU hcc (.inl ⟨rfl, rfl⟩) ⟨q7, rfl, (e8.trans (e9.trans e10)) _ _ g7⟩ (by rw [e10 _ _ g9, List.map_append]; rfl) g10 (X6.trans (ExB.of (e7.trans (e8.trans (e9.trans e10))))) (b6.up (e7.trans (e8.trans (e9.trans e10))))
    · walk_at "ss"
      refine newL fun q7 H7 hq7 e7 g7 => ?_
      walk_at "ss"
      refine ⟨b, 2, rfl, b6.up e7, by decide, by decide, fun d8 H8 d80 d81 x8 b8 => ?_⟩
      have n7 := fresh_nb b6 hq7
      obtain ⟨kk, hk, hat⟩ : ∃ kk, (kk = 0 ∨ kk = 2) ∧ atI [V.str "before", V.str "like"] d8 = some (.str (vword kk)) := by
        have : d8 = 0 ∨ d8 = 1 := by omega
        rcases this with rfl | rfl
        · exact ⟨0, .inl rfl, rfl⟩
        · exact ⟨2, .inr rfl, rfl⟩
      refine c_ixL (SqL.of (x8 _ _ n7 g7)) hat ?_
      walk_at "ss"
      refine newT fun q9 H9 hq9 e9 g9 => ?_
      walk_at "ss"
      refine newT fun q10 H10 hq10 e10 g10 => ?_
      have qa8 : H8 qa = some (.tup ((ck a).map V.str)) := x8 _ _ (box_ne (b6.up e7) (e7 _ _ (tk qa2)) (fun _ _ _ z => by cases z)) (e7 _ _ (tk qa2))
      exact k a a (.vd kk "qq" (.int 3) a) (ck a) (.ref q9) qa q10 H10 haU haU rfl (.inr ⟨kk, hk, rfl, rfl⟩) ⟨q9, rfl, e10 _ _ g9⟩ ((e9.trans e10) _ _ qa8) g10 (X6.trans ((ExB.of e7).trans (x8.trans (ExB.of (e9.trans e10))))) (b8.up (e9.trans e10))

/-! ### a row more: what follows then (plain) -/
open TL (tl)
section
variable {U ins : List Str} {rs : List Rw} {r : Rw} {c' : List Str}
theorem drv_more (hU : NmIn U ins rs) (hq : ("qq" : Str) ∉ U) (ht : r.tells = [("qq" : Str)]) (hm : ∀ m ∈ r.ment, m ∈ U ∧ ∀ c, Drv ins rs m c → r.hand c = some c') {s : Str} {c : List Str} (d : Drv ins (rs ++ [r]) s c) : (s ∈ U ∧ Drv ins rs s c) ∨ (s = ("qq" : Str) ∧ c = c') := by
  induction d with
  | inp h => exact .inl ⟨hU.inp _ h, .inp h⟩
  | row h1 h2 h3 _ h5 ih =>
    rcases List.mem_append.mp h1 with h | h
    · rcases ih with ⟨_, i⟩ | ⟨i, _⟩
      · exact .inl ⟨hU.row _ h _ (List.mem_append_left _ (by rw [h2]; exact List.mem_singleton_self _)), .row h h2 h3 i h5⟩
      · rw [i] at h3
        exact absurd (hU.row _ h _ (Rw.ment_all h3)) hq
    · rw [List.mem_singleton.mp h] at h2 h3 h5
      rw [ht] at h2
      rcases ih with ⟨_, i⟩ | ⟨i, _⟩
      · rw [(hm _ h3).2 _ i] at h5
        exact .inr ⟨(List.head_eq_of_cons_eq h2).symm, (Option.some.inj h5).symm⟩
      · rw [i] at h3
        exact absurd (hm _ h3).1 hq
theorem drv_old {s : Str} {c : List Str} (d : Drv ins rs s c) : Drv ins (rs ++ [r]) s c := d.mono (fun _ h => h) fun _ h => List.mem_append_left _ h
end
/-- the node with a row more -/
def Nd.more (n : Nd) (r : Rw) : Nd := ⟨n.nm, n.ins, n.outs, n.rows ++ [r]⟩
theorem Nd.more_names {n : Nd} {r : Rw} (ht : r.tells = [("qq" : Str)]) : (n.more r).names = n.names ++ [("qq" : Str)] := by
  show n.ins ++ (n.rows ++ [r]).flatMap Rw.tells = (n.ins ++ n.rows.flatMap Rw.tells) ++ [("qq" : Str)]
  rw [List.flatMap_append, List.append_assoc]
  simp [ht]
theorem out_more {n : Nd} {r : Rw} {a : Str} {c c' : List Str} (hg : n.good) (hq : ("qq" : Str) ∉ n.names) (ht : r.tells = [("qq" : Str)]) (ha : a ∈ r.ment) (hda : Drv n.ins n.rows a c) (hc : r.hand c = some c') (hm : ∀ m ∈ r.ment, m ∈ n.names ∧ ∀ c, Drv n.ins n.rows m c → r.hand c = some c') (h : OutN n 0) : OutN (n.more r) 0 := by
  have hU := nm_in hg
  obtain ⟨hA, hB, hS⟩ := h
  have key : ∀ {s : Str} {c : List Str}, Drv n.ins (n.rows ++ [r]) s c → (s ∈ n.names ∧ Drv n.ins n.rows s c) ∨ (s = ("qq" : Str) ∧ c = c') := fun d => drv_more hU hq ht hm d
  refine ⟨fun hC => ?_, fun s hs => ?_, fun ns hns x hx y hy e f h1 h2 => ?_⟩
  · rcases hC with ⟨s, e, f, h1, h2, h3⟩ | ⟨r1, m, e, h1, h2, h3, h4⟩
    · rcases key h1 with ⟨u1, d1⟩ | ⟨u1, e1⟩
      · rcases key h2 with ⟨_, d2⟩ | ⟨u2, _⟩
        · exact hA (.inl ⟨s, e, f, d1, d2, h3⟩)
        · rw [u2] at u1
          exact hq u1
      · rcases key h2 with ⟨u2, _⟩ | ⟨_, e2⟩
        · rw [u1] at u2
          exact hq u2
        · exact h3 (by rw [e1, e2])
    · have hmU : ∀ {r1 : Rw}, r1 ∈ n.rows → m ∈ r1.ment → m ∈ n.names := fun h k => hU.row _ h _ (Rw.ment_all k)
      rcases List.mem_append.mp h1 with h | h
      · rcases key h3 with ⟨_, d⟩ | ⟨u, _⟩
        · exact hA (.inr ⟨r1, m, e, h, h2, d, h4⟩)
        · have := hmU h h2
          rw [u] at this
          exact hq this
      · rw [List.mem_singleton.mp h] at h2 h4
        rcases key h3 with ⟨_, d⟩ | ⟨u, _⟩
        · rw [(hm m h2).2 e d] at h4
          cases h4
        · rw [u] at h2
          exact hq (hm _ h2).1
  · rw [Nd.more_names ht] at hs
    rcases List.mem_append.mp hs with h | h
    · obtain ⟨e, d⟩ := hB s h
      exact ⟨e, drv_old d⟩
    · rw [List.mem_singleton.mp h]
      exact ⟨c', .row (List.mem_append_right _ (List.mem_singleton_self _)) ht ha (drv_old hda) hc⟩
  · have hns' : Rw.sm ns ∈ n.rows := by
      rcases List.mem_append.mp hns with h | h
      · exact h
      · rw [← List.mem_singleton.mp h] at ht
        cases ht
    have hin : ∀ {z : Str}, z ∈ ns → z ∈ n.names := fun hz => hU.row _ hns' _ (List.mem_append_right _ (once_sub hz))
    have old : ∀ {z : Str} {g : List Str}, z ∈ ns → Drv n.ins (n.rows ++ [r]) z g → Drv n.ins n.rows z g := fun hz d => by
      rcases key d with ⟨_, d⟩ | ⟨u, _⟩
      · exact d
      · have := hin hz
        rw [u] at this
        exact absurd this hq
    exact hS ns hns' x hx y hy e f (old hx h1) (old hy h2)
theorem found_fit {H0 H : Hp} {n : Nd} {w : Addr} (h : FoundAt H0 H n w) (ho : OutN n 0) : ∃ (S : List Stp) (cd : Addr), SOk n S ∧ Closed n.ins n.rows (clkOf S) ∧ (∀ z ∈ n.names, z ∈ S.map (·.1)) ∧ H0 cd = none ∧ H w = some (.tup [.str "fit", .ref cd]) ∧ CksAt H cd n.names (ckOf S) := by
  rcases h with ⟨S, cd, hok, hcl, hall, hsm, h0, gf, hC⟩ | ⟨word, S, a, b, p, hC, _, _, _, hsame, gf, hP⟩ | ⟨S, i, s, hok, hcl, hs, hno, _, gf⟩
  · exact ⟨S, cd, hok, hcl, hall, h0, gf, hC⟩
  · by_cases hw : word = "same"
    · obtain ⟨hok, hcl, hall⟩ := hsame hw
      subst hw
      exact absurd (OutP.uni (by decide) (by decide) ho (out_same hok hcl hall hC)) (by decide)
    · exact absurd (OutP.uni (i := 0) (j := 1) (by decide) (by decide) ho (hC.clash hw)) (by decide)
  · exact absurd (OutP.uni (by decide) (by decide) ho (out_none hcl hs hno)) (by decide)
/-- fit, or told by another word -/
theorem found_hd {H0 H : Hp} {n : Nd} {w : Addr} (h : FoundAt H0 H n w) : OutN n 0 ∨ ∃ (d : Str) (v : V), d ≠ "fit" ∧ H w = some (.tup [.str d, v]) := by
  rcases h with ⟨S, cd, hok, hcl, hall, hsm, h0, gf, hC⟩ | ⟨word, S, a, b, p, hC, _, _, _, hsame, gf, hP⟩ | ⟨S, i, s, hok, hcl, hs, hno, _, gf⟩
  · exact .inl (out_fit hok hcl hall hsm)
  · exact .inr ⟨"clash", _, by decide +kernel, gf⟩
  · exact .inr ⟨"none", _, by decide +kernel, gf⟩
/-- how many ways there are -/
theorem found_out {H0 H : Hp} {n : Nd} {w : Addr} (h : FoundAt H0 H n w) : ∃ k, k < 4 ∧ OutN n k := by
  rcases h with ⟨S, cd, hok, hcl, hall, hsm, h0, gf, hC⟩ | ⟨word, S, a, b, p, hC, _, _, _, hsame, gf, hP⟩ | ⟨S, i, s, hok, hcl, hs, hno, _, gf⟩
  · exact ⟨0, by decide, out_fit hok hcl hall hsm⟩
  · by_cases hw : word = "same"
    · obtain ⟨hok, hcl, hall⟩ := hsame hw
      subst hw
      exact ⟨2, by decide, out_same hok hcl hall hC⟩
    · exact ⟨1, by decide, hC.clash hw⟩
  · exact ⟨3, by decide, out_none hcl hs hno⟩
/-- clocks of names as data: two dicts alike -/
theorem like_cks {H : Hp} {d1 d2 : Addr} {U1 U2 : List Str} {k1 k2 : Str → List Str} (h1 : CksAt H d1 U1 k1) (h2 : CksAt H d2 U2 k2) (n1 : U1.Nodup) (n2 : U2.Nodup) (hU : ∀ s, s ∈ U1 ↔ s ∈ U2) (hk : ∀ s ∈ U1, k1 s = k2 s) (hg : ∀ s ∈ U1, ∀ z ∈ k1 s, goodN z) : ∃ ks ls, H d1 = some (.dK ks) ∧ H d2 = some (.dK ls) ∧ ks.length = ls.length ∧ ∀ p ∈ ks, ∃ u, valV ls p.1 = some u ∧ EqDat K H p.2 u := by
  obtain ⟨ks, g1, e1, v1⟩ := h1
  obtain ⟨ls, g2, e2, v2⟩ := h2
  have l1 : ks.length = U1.length := by simpa using congrArg List.length e1
  have l2 : ls.length = U2.length := by simpa using congrArg List.length e2
  have hp : U1.Perm U2 := (List.perm_ext_iff_of_nodup n1 n2).mpr hU
  refine ⟨ks, ls, g1, g2, by rw [l1, l2, hp.length_eq], fun p hpm => ?_⟩
  have hm : p.1 ∈ U1.map (Sum.inr : Str → Key) := by rw [← e1]; exact List.mem_map_of_mem hpm
  obtain ⟨s, hs, hse⟩ := List.mem_map.mp hm
  obtain ⟨q1, a1, a2⟩ := v1 s hs
  obtain ⟨q2, b1, b2⟩ := v2 s ((hU s).mp hs)
  have hnd : (ks.map (·.1)).Nodup := by rw [e1]; exact nd_keys n1
  have hv : p.2 = V.ref q1 := by
    have := valV_mem (k := p.1) (v := p.2) hnd hpm
    rw [← hse, a1] at this
    exact (Option.some.inj this).symm
  refine ⟨.ref q2, by rw [← hse]; exact b1, ?_⟩
  rw [hv]
  exact eqdat_strs a2 (by rw [hk s hs]; exact b2) (ok_strs (hg s hs))
theorem c_neCks {H : Hp} {Q : VK} {d1 d2 : Addr} {U1 U2 : List Str} {k1 k2 : Str → List Str} (h1 : CksAt H d1 U1 k1) (h2 : CksAt H d2 U2 k2) (n1 : U1.Nodup) (n2 : U2.Nodup) (hU : ∀ s, s ∈ U1 ↔ s ∈ U2) (hk : ∀ s ∈ U1, k1 s = k2 s) (hg : ∀ s ∈ U1, ∀ z ∈ k1 s, goodN z) (q : Q (.bl false) H) : rNeKD K (.ref d1) (.ref d2) H Q := by
  obtain ⟨ks, ls, g1, g2, hl, hp⟩ := like_cks (K := K) h1 h2 n1 n2 hU hk hg
  refine ⟨d1, d2, ks, ls, rfl, rfl, g1, g2, hl, fun p hpm => ?_, q⟩
  obtain ⟨u, h3, d, e, h4, h5, h6, h7, h8⟩ := hp p hpm
  exact ⟨u, d, e, h3, h4, h5, h6, h7, h8⟩
/-- the clocks told of a node are those that follow -/
theorem ck_drv {n : Nd} {S : List Stp} (hok : SOk n S) (hc : Closed n.ins n.rows (clkOf S)) (hall : ∀ z ∈ n.names, z ∈ S.map (·.1)) {s : Str} (hs : s ∈ n.names) : Drv n.ins n.rows s (ckOf S s) := (clk_iff hok.stps hc).mp (ck_in (hall s hs)).1
theorem ck_good {n : Nd} {S : List Stp} (hok : SOk n S) (hall : ∀ z ∈ n.names, z ∈ S.map (·.1)) (hg : n.good) {s : Str} (hs : s ∈ n.names) : (ckOf S s).length ≤ 1001 ∧ ∀ z ∈ ckOf S s, goodN z := by
  obtain ⟨_, p, hp⟩ := ck_in (hall s hs)
  obtain ⟨_, h1, h2, _⟩ := (hok.gd hg).2 _ hp
  exact ⟨h1, h2⟩
theorem c_dz {ta : L2.TA} {σ : L2.St} {H : Hp} {Q : VK} (h : ta σ H fun vs H1 => ∃ (a b : Addr) (ks : List Key) (ys : List V), vs = [.ref a, .ref b] ∧ SqL K H1 a (ks.map kV) ∧ SqL K H1 b ys ∧ ks.length = ys.length ∧ ∀ p, H1 p = none → Q (.ref p) (upd H1 p (.dK (mergeK [] (ks.zip ys))))) : tDictZip K ta σ H Q := h
theorem paired_map1 {g : Str → Str} {l : List Str} {ys : List V} (h : Paired (fun s (y : V) => y = V.str (g s)) l ys) : ys = (l.map g).map V.str := by
  induction h with
  | nil => rfl
  | cons h _ ih => rw [h, ih]; rfl
theorem name_good {n : Nd} (hg : n.good) : ∀ s ∈ n.names, goodN s := fun s hs => by
  rcases List.mem_append.mp hs with h | h
  · exact hg.inG s h
  · obtain ⟨r, hr, hsr⟩ := List.mem_flatMap.mp h
    exact Rw.good_all (hg.row r hr).1 s (List.mem_append_left _ hsr)
/-! a comprehension over the items of a dict, each thing made with a property -/
theorem lcItm {σ : L2.St} {H : Hp} {Q : VK} {g : L2.TG} {tt : L2.TT} {te : L2.TE} {vs : List Nat} {α : Type} {d : Addr} {o : Obj} {kvs : List (Key × V)} {as : List α} (hd : H d = some (.frz o (.dK kvs))) (hl : as.length = kvs.length) (hn : kvs.length ≤ 1000) (P : Addr → α → V → Hp → Prop)
    (hst : ∀ D r y G G2, ExB D G G2 → NL G G2 → P D r y G → P D r y G2)
    (ht : ∀ (D : Addr) (i : Nat) (r : α) (k : Key) (v : V) (T : Addr), H D = none → as[i]? = some r → kvs[i]? = some (k, v) → ∀ H2, Ex H H2 → H2 T = some (.tup [kV k, v]) → (∃ o, H2 D = some o) → ∀ (R : V → Hp → Prop) (N : Hp → Prop), (∀ y H3, Ex H2 H3 → P D r y H3 → R y H3) →
      g (.ref T) (wipe σ vs) H2 fun σ2 H3 => wipe σ2 vs = wipe σ vs ∧ tt σ2 H3 fun c H4 => if c = true then te σ2 H4 fun y H5 => R y H5 else N H4)
    (k : ∀ ys p H2, Paired (fun r y => P p r y H2) as ys → H p = none → Ex H H2 → H2 p = some (.lst ys) → Q (.ref p) H2) : LcI (Iti d o kvs) g tt te vs σ H Q := by
  refine fun D hD => ?_
  have ex : ∀ {G : Hp} {o : HO}, Ex H G → Ex H (upd G D o) := fun e b u hb => by rw [upd_ne (ne_of_none hb hD)]; exact e b u hb
  refine lc_it walk_items (fun i H' => i ≤ kvs.length ∧ Ex H H' ∧ ∃ ys, Paired (fun r y => P D r y H') (as.take i) ys ∧ H' D = some (.lst ys))
    ⟨Nat.zero_le _, ex (Ex.refl _), [], .nil, upd_same⟩ (fun i H' _ p => p.2.1 _ _ hd) (fun i x H' H'' hi p y => ?_) (fun H' p => ?_)
  · obtain ⟨T, x1, x2, rfl, hT, rfl, ek, ev⟩ := y
    obtain ⟨_, e1, ys, hy, hD'⟩ := p
    have hkv : kvs[i]? = some kvs[i] := List.getElem?_eq_getElem hi
    have ek : (kvs[i]?.map fun kv => kV kv.1) = some x1 := ek
    have ev : kvs[i]?.map Prod.snd = some x2 := ev
    rw [hkv] at ek ev
    cases ek
    cases ev
    have hil : i < as.length := by omega
    have hr : as[i]? = some as[i] := List.getElem?_eq_getElem hil
    have hyl : ys.length ≤ i := by
      rw [← paired_len hy, List.length_take]
      omega
    have htk : as.take (i + 1) = as.take i ++ [as[i]] := by rw [List.take_add_one, hr]; rfl
    have hTD : D ≠ T := ne_of_none hD' hT
    have eT : Ex H' (upd H' T (.tup [kV kvs[i].1, kvs[i].2])) := Ex.new hT
    have hD2 := eT _ _ hD'
    refine ht D i as[i] kvs[i].1 kvs[i].2 T hD hr hkv _ (e1.trans eT) upd_same ⟨_, hD2⟩ (fun y H4 => ∃ acc, H4 D = some (.lst acc) ∧ acc.length < sizeLine ∧ (i + 1 ≤ kvs.length ∧ Ex H (upd H4 D (.lst (acc ++ [y]))) ∧ ∃ zs, Paired (fun r z => P D r z (upd H4 D (.lst (acc ++ [y])))) (as.take (i + 1)) zs ∧ upd H4 D (.lst (acc ++ [y])) D = some (.lst zs))) (fun H4 => i + 1 ≤ kvs.length ∧ Ex H H4 ∧ ∃ zs, Paired (fun r z => P D r z H4) (as.take (i + 1)) zs ∧ H4 D = some (.lst zs)) (fun y H3 e3 py => ?_)
    · have hD3 := e3 _ _ hD2
      have eD : ExB D H3 (upd H3 D (.lst (ys ++ [y]))) := ExB.upd
      have eN : NL H3 (upd H3 D (.lst (ys ++ [y]))) := NL.upd hD3
      refine ⟨ys, hD3, Evl.sz_lt (by omega), hi, ex (e1.trans (eT.trans e3)), ys ++ [y], ?_, upd_same⟩
      rw [htk]
      exact paired_snoc (F := fun r z => P D r z (upd H3 D (HO.lst (ys ++ [y])))) (hst _ _ _ _ _ eD eN py) (paired_up (fun a b h => hst _ _ _ _ _ eD eN (hst _ _ _ _ _ (ExB.of (eT.trans e3)) (NL.of (eT.trans e3)) h)) hy)
  · obtain ⟨_, e1, ys, hy, hD'⟩ := p
    rw [← hl, List.take_length] at hy
    exact k ys D H' hy hD e1 hD'
theorem c_lcItm {td te : L2.TE} {g : L2.TG} {tt : L2.TT} {vs : List Nat} {σ : L2.St} {H : Hp} {Q : VK} (h : td σ H fun x H1 => ∃ d o kvs, x = .ref d ∧ H1 d = some (.frz o (.dK kvs)) ∧ LcI (Iti d o kvs) g tt te vs σ H1 Q) : tLc (iItems td) g tt te vs σ H Q := h
theorem itm_pairs {G : Hp} {f : Str → Str} {ck : Str → List Str} : ∀ {l : List Str} {ys : List V}, Paired (fun (s : Str) (y : V) => ∃ p q, y = .ref p ∧ G p = some (.tup [.str (f s), .ref q]) ∧ G q = some (.tup ((ck (f s)).map V.str))) l ys →
    ∃ (ps : List Addr) (kvs : List (Key × V)), ys = ps.map V.ref ∧ Paired (fun p (kv : Key × V) => SqT K G p [kV kv.1, kv.2]) ps kvs ∧ kvs.map (·.1) = (l.map f).map (Sum.inr : Str → Key) ∧ ∀ z ∈ l.map f, ∃ q, ((.inr z : Key), V.ref q) ∈ kvs ∧ G q = some (.tup ((ck z).map V.str))
  | _, _, .nil => ⟨[], [], rfl, .nil, rfl, fun x hx => by cases hx⟩
  | s :: l, _, .cons h t => by
    obtain ⟨p, q, rfl, h1, h2⟩ := h
    obtain ⟨ps, kvs, rfl, h3, h4, h5⟩ := itm_pairs t
    refine ⟨p :: ps, (.inr (f s), .ref q) :: kvs, rfl, .cons (SqT.of h1) h3, by rw [List.map_cons, h4]; rfl, fun z hz => ?_⟩
    rw [List.map_cons] at hz
    rcases List.mem_cons.mp hz with e | hz
    · rw [e]
      exact ⟨q, List.mem_cons_self, h2⟩
    · obtain ⟨x, z1, z2⟩ := h5 z hz
      exact ⟨x, List.mem_cons_of_mem _ z1, z2⟩
theorem c_listItm {H : Hp} {Q : VK} {te : L2.TE} {σ : L2.St} (h : te σ H fun x H1 => LiI.rItemsL x H1 Q) : LiI.tListItems te σ H Q := h
theorem not_qq {n : Nd} (h : ∀ s ∈ n.names, nmQ s) : ("qq" : Str) ∉ n.names := fun z => (h _ z).2 rfl

/-! ### other orders, other names, a row more: nodes that are good (plain) -/
open TL (tl)
theorem Rw.ren_all {f : Str → Str} {r : Rw} {z : Str} (h : z ∈ (r.ren f).all) : ∃ s ∈ r.all, z = f s := by
  have key : ∀ l : List Str, (∀ s ∈ l, s ∈ r.all) → z ∈ l.map f → ∃ s ∈ r.all, z = f s := fun l hl hz => by
    obtain ⟨s, hs, rfl⟩ := List.mem_map.mp hz
    exact ⟨s, hl s hs, rfl⟩
  cases r with
  | pl n t =>
    rcases List.mem_append.mp h with h | h
    · exact key [n] (fun s hs => List.mem_append_left _ hs) h
    · have h2 : z ∈ (t.ren f).flat := names_flat h
      rw [Tm.ren_flat] at h2
      exact key t.flat (fun s hs => List.mem_append_right _ (flat_names hs)) h2
  | vd k n v x =>
    rcases List.mem_append.mp h with h | h
    · exact key [n] (fun s hs => List.mem_append_left _ hs) h
    · exact key [x] (fun s hs => List.mem_append_right _ hs) h
  | wh n x y =>
    rcases List.mem_append.mp h with h | h
    · exact key [n] (fun s hs => List.mem_append_left _ hs) h
    · exact key [x, y] (fun s hs => List.mem_append_right _ (once_sub hs)) (once_mem h)
  | sm ns =>
    rcases List.mem_append.mp h with h | h
    · cases h
    · exact key ns (fun s hs => List.mem_append_right _ (once_sub hs)) (once_mem h)
  | cl os nd xs =>
    rcases List.mem_append.mp h with h | h
    · exact key os (fun s hs => List.mem_append_left _ hs) h
    · exact key xs (fun s hs => List.mem_append_right _ (once_sub hs)) (once_mem h)
theorem nodup_on {f : Str → Str} {l : List Str} (h : l.Nodup) (hf : ∀ a ∈ l, ∀ b ∈ l, f a = f b → a = b) : (l.map f).Nodup := by
  rw [List.Nodup, List.pairwise_map]
  exact List.Pairwise.imp_of_mem (fun ha hb hne e => hne (hf _ ha _ hb e)) h
theorem Rw.ren_kind {f : Str → Str} {r : Rw} : (r.ren f).kind = r.kind := by
  cases r with
  | vd k n v x => rcases k with _ | _ | k <;> rfl
  | _ => rfl
theorem Rw.ren_nocall {f : Str → Str} {r : Rw} (h : r.nocall) : (r.ren f).nocall := by cases r <;> exact h
theorem Rw.ren_pl {f : Str → Str} {r : Rw} (hk : (r.ren f).kind = 0) (h : r.kind = 0 → r.names ≠ []) : (r.ren f).names ≠ [] := by
  have h := h (by rw [← hk, Rw.ren_kind])
  cases r with
  | pl n t =>
    obtain ⟨s, hs⟩ := List.exists_mem_of_ne_nil _ h
    have h1 : f s ∈ (t.ren f).flat := by rw [Tm.ren_flat]; exact List.mem_map_of_mem (names_flat hs)
    have h2 := flat_names h1
    intro z
    rw [show (Rw.ren f (Rw.pl n t)).names = (t.ren f).names from rfl] at z
    rw [z] at h2
    cases h2
  | vd k n v x => rcases k with _ | _ | k <;> cases hk
  | _ => cases hk
theorem Nd.ren_good {f : Str → Str} {n : Nd} (hg : n.good) (hf : ∀ a ∈ n.names, ∀ b ∈ n.names, f a = f b → a = b) (hgf : ∀ s ∈ n.names, goodN (f s)) : (n.ren f "n").good := by
  have hU := nm_in hg
  have hot : ∀ s ∈ n.outs, s ∈ n.names := fun s hs => List.mem_append_right _ (hg.outG s hs).2
  refine ⟨n_ok, by show 0 < (n.ins.map f).length; rw [List.length_map]; exact hg.in0, by show (n.ins.map f).length ≤ 300; rw [List.length_map]; exact hg.in1, fun s hs => ?_, by show 0 < (n.outs.map f).length; rw [List.length_map]; exact hg.out0, by show (n.outs.map f).length ≤ 300; rw [List.length_map]; exact hg.out1, fun s hs => ?_, ?_, ?_, ?_, by show (n.rows.map (Rw.ren f)).length ≤ 300; rw [List.length_map]; exact hg.row1, fun r hr => ?_⟩
  · obtain ⟨z, hz, rfl⟩ := List.mem_map.mp hs
    exact hgf z (hU.inp z hz)
  · obtain ⟨z, hz, rfl⟩ := List.mem_map.mp hs
    refine ⟨hgf z (hot z hz), ?_⟩
    show f z ∈ (n.rows.map (Rw.ren f)).flatMap Rw.tells
    rw [ren_toldF]
    exact List.mem_map_of_mem (hg.outG z hz).2
  · exact nodup_on hg.outN fun a ha b hb => hf a (hot a ha) b (hot b hb)
  · rw [Nd.ren_names]
    exact nodup_on hg.all hf
  · rw [Nd.ren_names, List.length_map]
    exact hg.all1
  · obtain ⟨r, hr0, rfl⟩ := List.mem_map.mp hr
    obtain ⟨h1, h2, h3⟩ := hg.row r hr0
    refine ⟨Rw.ren_good h1 fun s hs => hgf s (hU.row r hr0 s hs), fun hk => Rw.ren_pl hk h2, fun s hs => ?_⟩
    obtain ⟨z, hz, rfl⟩ := Rw.ren_all (List.mem_append_right _ hs)
    rw [Nd.ren_names]
    exact List.mem_map_of_mem (hU.row r hr0 z hz)
theorem Nd.ren_nocalls {f : Str → Str} {nm : Str} {n : Nd} (h : n.nocalls) : (n.ren f nm).nocalls := fun r hr => by
  obtain ⟨r, hr0, rfl⟩ := List.mem_map.mp hr
  exact Rw.ren_nocall (h r hr0)
theorem m_ok : isName ("m" : Str) = true ∧ ("m" : Str).length ≤ 8 ∧ OkT "m" := ⟨by decide +kernel, by decide +kernel, OkT.lit (by decide +kernel)⟩
theorem perm_names {n m : Nd} (hi : m.ins.Perm n.ins) (hr : m.rows.Perm n.rows) : m.names.Perm n.names := hi.append (perm_tells hr)
theorem Nd.perm_good {n : Nd} {I : List Str} {R : List Rw} (hg : n.good) (hi : I.Perm n.ins) (hr : R.Perm n.rows) : Nd.good ⟨"m", I, n.outs, R⟩ := by
  have hp := perm_names (n := n) (m := ⟨"m", I, n.outs, R⟩) hi hr
  refine ⟨m_ok, by show 0 < I.length; rw [hi.length_eq]; exact hg.in0, by show I.length ≤ 300; rw [hi.length_eq]; exact hg.in1, fun s hs => hg.inG s (hi.mem_iff.mp hs), hg.out0, hg.out1, fun s hs => ⟨(hg.outG s hs).1, (perm_tells hr).mem_iff.mpr (hg.outG s hs).2⟩, hg.outN, hp.nodup_iff.mpr hg.all, by rw [hp.length_eq]; exact hg.all1, by show R.length ≤ 300; rw [hr.length_eq]; exact hg.row1, fun r h => ?_⟩
  obtain ⟨h1, h2, h3⟩ := hg.row r (hr.mem_iff.mp h)
  exact ⟨h1, h2, fun s hs => hp.mem_iff.mpr (h3 s hs)⟩
theorem Nd.more_good {n : Nd} {r : Rw} (hg : n.good) (hq : ("qq" : Str) ∉ n.names) (ht : r.tells = [("qq" : Str)]) (hrg : r.good) (hk : r.kind ≠ 0) (hrn : ∀ s ∈ r.names, s ∈ n.names) (h1 : n.rows.length ≤ 34) (h2 : n.names.length ≤ 35) : (n.more r).good := by
  have hN := Nd.more_names (n := n) ht
  refine ⟨hg.nm, hg.in0, hg.in1, hg.inG, hg.out0, hg.out1, fun s hs => ⟨(hg.outG s hs).1, ?_⟩, hg.outN, ?_, ?_, ?_, fun r1 hr1 => ?_⟩
  · show s ∈ (n.rows ++ [r]).flatMap Rw.tells
    rw [List.flatMap_append]
    exact List.mem_append_left _ (hg.outG s hs).2
  · rw [hN, List.nodup_append]
    exact ⟨hg.all, by simp, fun a ha b hb e => hq (by rw [← List.mem_singleton.mp hb, ← e]; exact ha)⟩
  · rw [hN, List.length_append, List.length_singleton]
    omega
  · show (n.rows ++ [r]).length ≤ 300
    rw [List.length_append, List.length_singleton]
    omega
  · rw [hN]
    rcases List.mem_append.mp hr1 with h | h
    · obtain ⟨a, b, c⟩ := hg.row r1 h
      exact ⟨a, b, fun s hs => List.mem_append_left _ (c s hs)⟩
    · rw [List.mem_singleton.mp h]
      exact ⟨hrg, fun z => absurd z hk, fun s hs => List.mem_append_left _ (hrn s hs)⟩
/-! names, and these with a q behind, in another order: one to one -/
theorem app_inj {a b q : Str} (h : a ++ q = b ++ q) : a = b := by
  have := congrArg tl h
  rw [TL.tl_append, TL.tl_append] at this
  have h2 := List.append_cancel_right this
  rw [str_tl h2]
/-- the dict of the new names -/
structure NewN (kv : List (Key × V)) (N : List Str) : Prop where
  alls : AllS kv
  get : ∀ s ∈ N, ∃ z ∈ N, valV kv (.inr s) = some (.str (z ++ "q"))
  inj : ∀ a ∈ N, ∀ b ∈ N, fK kv a = fK kv b → a = b
theorem zip_get : ∀ {N M : List Str}, N.Nodup → N.length = M.length → ∀ {i : Nat} {s t : Str}, N[i]? = some s → M[i]? = some t → valV ((N.map (Sum.inr : Str → Key)).zip (M.map V.str)) (.inr s) = some (.str t)
  | [], _, _, _, i, s, t, h, _ => by cases h
  | a :: N, [], _, h, _, _, _, _, _ => by cases h
  | a :: N, b :: M, hn, hl, i, s, t, h1, h2 => by
    obtain ⟨na, hn⟩ := List.nodup_cons.mp hn
    show valV (((Sum.inr a : Key), V.str b) :: (N.map (Sum.inr : Str → Key)).zip (M.map V.str)) (.inr s) = _
    cases i with
    | zero =>
      cases h1
      cases h2
      exact valV_pos rfl
    | succ i =>
      have hs : s ∈ N := List.mem_of_getElem? (by simpa using h1)
      rw [valV_neg fun e => na (by rw [Sum.inr.inj e]; exact hs)]
      exact zip_get hn (by simpa using hl) (i := i) (by simpa using h1) (by simpa using h2)
theorem newN_of {N M : List Str} (hn : N.Nodup) (hp : M.Perm (N.map fun s => s ++ "q")) : NewN ((N.map (Sum.inr : Str → Key)).zip (M.map V.str)) N := by
  have hl : N.length = M.length := by rw [hp.length_eq, List.length_map]
  have hMn : M.Nodup := by
    rw [hp.nodup_iff]
    exact nodup_on hn fun a _ b _ e => app_inj e
  have get : ∀ (i : Nat) (s : Str), N[i]? = some s → ∃ t, M[i]? = some t ∧ valV ((N.map (Sum.inr : Str → Key)).zip (M.map V.str)) (.inr s) = some (.str t) := fun i s h => by
    have hi := (List.getElem?_eq_some_iff.mp h).1
    exact ⟨_, List.getElem?_eq_getElem (by omega), zip_get hn hl h (List.getElem?_eq_getElem (by omega))⟩
  have val : ∀ (i : Nat) (s : Str), N[i]? = some s → M[i]? = some (fK ((N.map (Sum.inr : Str → Key)).zip (M.map V.str)) s) := fun i s h => by
    obtain ⟨t, h1, h2⟩ := get i s h
    rw [h1]
    unfold fK
    rw [h2]
  refine ⟨fun s => ?_, fun s hs => ?_, fun a ha b hb e => ?_⟩
  · by_cases hs : s ∈ N
    · obtain ⟨i, hi, rfl⟩ := List.mem_iff_getElem.mp hs
      obtain ⟨t, _, h2⟩ := get i _ (List.getElem?_eq_getElem hi)
      exact ⟨t, by rw [h2]; rfl⟩
    · refine ⟨s, ?_⟩
      have hk : ((N.map (Sum.inr : Str → Key)).zip (M.map V.str)).map (·.1) = N.map (Sum.inr : Str → Key) := List.map_fst_zip (by rw [List.length_map, List.length_map]; omega)
      rw [valV_nokey hk hs]
      rfl
  · obtain ⟨i, hi, rfl⟩ := List.mem_iff_getElem.mp hs
    obtain ⟨t, h1, h2⟩ := get i _ (List.getElem?_eq_getElem hi)
    obtain ⟨z, hz, rfl⟩ := List.mem_map.mp (hp.mem_iff.mp (List.mem_of_getElem? h1))
    exact ⟨z, hz, h2⟩
  · obtain ⟨i, hi, rfl⟩ := List.mem_iff_getElem.mp ha
    obtain ⟨j, hj, rfl⟩ := List.mem_iff_getElem.mp hb
    have h1 := val i _ (List.getElem?_eq_getElem hi)
    have h2 := val j _ (List.getElem?_eq_getElem hj)
    rw [e] at h1
    have hi' : i < M.length := by omega
    have hj' : j < M.length := by omega
    have hij : i = j := by
      have e1 : M[i] = M[j] := by
        have a1 : M[i]? = some M[i] := List.getElem?_eq_getElem hi'
        have a2 : M[j]? = some M[j] := List.getElem?_eq_getElem hj'
        rw [a1] at h1
        rw [a2] at h2
        rw [Option.some.inj h1, Option.some.inj h2]
      have hpw := List.pairwise_iff_getElem.mp hMn
      rcases Nat.lt_trichotomy i j with h | h | h
      · exact absurd e1 (hpw i j hi' hj' h)
      · exact h
      · exact absurd e1.symm (hpw j i hj' hi' h)
    subst hij
    rfl

/-! ### the law -/
open TL (tl)
def sp_law (K : PySem.W.Frag) : Sp := fun vs H Q _ => ∃ (a : Addr) (ns : List Int), vs = [.ref a] ∧ SqL K H a (ns.map V.int) ∧ ns.length ≤ 63 ∧ ∀ H', Q (.bl true) H'
theorem ok_law (T : Txt K mg Z)  : FnG P w K mg base CX0 (33) Z.f_law Z.fd_law ["_law_script"] (sp_law K) := by
  have G_cell_l := ok_cell_l (P := P) (w := w) (base := base) T
  have G_begun_l := ok_begun_l (P := P) (w := w) (base := base) T
  have G_draw_l := ok_draw_l (P := P) (w := w) (base := base) T
  have G_built_l := ok_built_l (P := P) (w := w) (base := base) T
  have G_telling_l := ok_telling_l (P := P) (w := w) (base := base) T
  have G_node_of := ok_node_of (P := P) (w := w) (base := base) T
  have G_word_l := ok_word_l (P := P) (w := w) (base := base) T
  have G_turned_l := ok_turned_l (P := P) (w := w) (base := base) T
  have G_told_names_l := ok_told_names_l (P := P) (w := w) (base := base) T
  have G_renamed_l := ok_renamed_l (P := P) (w := w) (base := base) T
  have G_more_l := ok_more_l (P := P) (w := w) (base := base) T
  refine T.F_law.okG sc_law (fun vs H Q E h => ?_) (fun cdv AA outer s H vs Q E hgd hr h => ?_)
  · obtain ⟨a, ns, rfl, _⟩ := h
    rfl
  · obtain ⟨a, ns, rfl, hS, hl, k⟩ := h
    have GMN_told := gmN_told (P := P) (w := w) (base := base) T
    have G_put_l := okn_pt (P := P) (w := w) (base := base) T 2
    refine ⟨_, (pss_cons (ps_for PassesOwn.never rfl (pi_range1 (by rfl) T.n_range (pa_cons (pe_callB (call_max2 rfl) (by rfl) T.n_max (by decide +kernel) (pa_cons pe_int (pa_cons (pe_callB (call_min2 rfl) (by rfl) T.n_min (by decide +kernel) (pa_cons (pe_callB call_len_seq (by rfl) T.n_len (by decide +kernel) (pa_cons (pv 0) pa_nil)) (pa_cons pe_int pa_nil))) pa_nil))) pa_nil)) (pg_name (i := 1) sc_law.nd rfl (Or.inl rfl)) (pss_cons (ps_set (i := 2) sc_law.nd rfl (Or.inl rfl) (pe_call G_begun_l (hr.mono (by omega)) rfl T.g_begun_l T.F_begun_l.kp T.b_begun_l .nil pass0 (pa_cons (pe_call G_cell_l (hr.mono (by omega)) rfl T.g_cell_l T.F_cell_l.kp T.b_cell_l .nil pass0 (pa_cons (pv 0) (pa_cons (pv 1) pa_nil))) pa_nil)))
      (pss_cons (ps_set (i := 3) sc_law.nd rfl (Or.inl rfl) (pe_call G_built_l (hr.mono (by omega)) rfl T.g_built_l T.F_built_l.kp T.b_built_l .nil pass0 (pa_cons (pv 2) (pa_cons (pe_cmpR op_eq (pe_call G_draw_l (hr.mono (by omega)) rfl T.g_draw_l T.F_draw_l.kp T.b_draw_l .nil pass0 (pa_cons (pv 2) (pa_cons pe_int pa_nil))) pe_int (nomark _)) pa_nil))))
      (pss_cons (ps_set (i := 4) sc_law.nd rfl (Or.inl rfl) (pe_callG hgd G_telling_l (hr.mono (by omega)) rfl T.g_telling_l T.F_telling_l.kp T.b_telling_l pass0 (pa_cons (pe_gcst (v := .ref Z.f_clocks_of) rfl ⟨_, T.g_clocks_of, rfl⟩) (pa_cons (pe_call G_node_of (hr.mono (by omega)) rfl T.g_node_of T.F_node_of.kp T.b_node_of .nil pass0 (pa_cons (pv 3) pa_nil)) pa_nil))))
      (Evl.pss_cut (ps_for PassesOwn.never rfl (pi_range1 (by rfl) T.n_range (pa_cons pe_int pa_nil)) (pg_name (i := 5) sc_law.nd rfl (Or.inl rfl)) (pss_cons (ps_set (i := 6) sc_law.nd rfl (Or.inl rfl) (pe_callTy call_tuple_of (by rfl) T.n_tuple (by decide +kernel) (pa_cons (pe_call G_turned_l (hr.mono (by omega)) rfl T.g_turned_l T.F_turned_l.kp T.b_turned_l .nil pass0 (pa_cons (pv 2) (pa_cons (pe_ix ix_tup (pv 3) pe_int (fun _ _ => rfl)) pa_nil))) pa_nil)))
      (pss_cons (ps_set (i := 7) sc_law.nd rfl (Or.inl rfl) (pe_callTy call_tuple_of (by rfl) T.n_tuple (by decide +kernel) (pa_cons (pe_call G_turned_l (hr.mono (by omega)) rfl T.g_turned_l T.F_turned_l.kp T.b_turned_l .nil pass0 (pa_cons (pv 2) (pa_cons (pe_ix ix_tup (pv 3) pe_int (fun _ _ => rfl)) pa_nil))) pa_nil)))
      (pss_cons (ps_set (i := 8) sc_law.nd rfl (Or.inl rfl) (pe_callG hgd G_telling_l (hr.mono (by omega)) rfl T.g_telling_l T.F_telling_l.kp T.b_telling_l pass0 (pa_cons (pe_gcst (v := .ref Z.f_clocks_of) rfl ⟨_, T.g_clocks_of, rfl⟩) (pa_cons (pe_call G_node_of (hr.mono (by omega)) rfl T.g_node_of T.F_node_of.kp T.b_node_of .nil pass0 (pa_cons (pe_tup (pa_cons pe_str (pa_cons (pv 6) (pa_cons (pe_ix ix_tup (pv 3) pe_int (fun _ _ => rfl)) (pa_cons (pv 7) pa_nil))))) pa_nil)) pa_nil))))
      (Evl.pss_cut (ps_if (pt_cmpR op_ne (pe_call G_word_l (hr.mono (by omega)) rfl T.g_word_l T.F_word_l.kp T.b_word_l .nil pass0 (pa_cons (pv 3) (pa_cons (pv 8) pa_nil))) (pe_call G_word_l (hr.mono (by omega)) rfl T.g_word_l T.F_word_l.kp T.b_word_l .nil pass0 (pa_cons (pv 3) (pa_cons (pv 4) pa_nil))) (nomark _)) (pss_one (ps_ret pe_bl)) pss_nil)
      (pss_one (ps_if (PW.pt (pw_and (pt_cmpR op_eq (pe_ix ix_tup (pv 4) pe_int (fun _ _ => rfl)) pe_str (nomark _)) (pw_and1 (pt_cmpR (op_neKD (hu66 hr)) (pe_ix ix_tup (pv 8) pe_int (fun _ _ => rfl)) (pe_ix ix_tup (pv 4) pe_int (fun _ _ => rfl)) (nomark _))))) (pss_one (ps_ret pe_bl)) pss_nil)))))))
      (pss_cons (ps_set (i := 9) sc_law.nd rfl (Or.inl rfl) (pe_op op_cat (pe_callTy call_list_of (by rfl) T.n_list (by decide +kernel) (pa_cons (pe_ix ix_tup (pv 3) pe_int (fun _ _ => rfl)) pa_nil)) (pe_call G_told_names_l (hr.mono (by omega)) rfl T.g_told_names_l T.F_told_names_l.kp T.b_told_names_l .nil pass0 (pa_cons (pe_ix ix_tup (pv 3) pe_int (fun _ _ => rfl)) pa_nil))))
      (pss_cons (ps_set (i := 10) sc_law.nd rfl (Or.inr rfl) ((pe_dictZip rfl (by rfl) T.n_dict (by rfl) T.n_zip (pa_cons (pv 9) (pa_cons (pe_call G_turned_l (hr.mono (by omega)) rfl T.g_turned_l T.F_turned_l.kp T.b_turned_l .nil pass0 (pa_cons (pv 2) (pa_cons (pe_lc (own := [("_law_name", 11)]) (g := (gName 11)) (tt := tYes) (te := (tOp (fun x y H Q => ∃ i j, x = .str i ∧ y = .str j ∧ i.length + j.length ≤ sizeLine ∧ Q (.str (i ++ j)) H) (tVar 11) (tC (.str "q")))) rfl sc_law.nd (pi_list (pv 9)) (blkOk_by (own := [("_law_name", 11)]) (N := N_law) (sc := defScope s_law) (by decide +kernel)) (fun _ _ _ _ _ => (pg_name (i := 11) sc_law.nd rfl (Or.inl rfl))) (fun _ _ _ _ _ => pts_nil) (fun _ _ _ _ _ => (pe_op op_add_str (pv 11) pe_str))) pa_nil))) pa_nil)))))
      (pss_cons (ps_set (i := 7) sc_law.nd rfl (Or.inl rfl) (pe_callTy call_tuple_of (by rfl) T.n_tuple (by decide +kernel) (pa_cons (pe_lc (own := [("_law_row", 12)]) (g := (gName 12)) (tt := tYes) (te := (tCall sp_renamed_l [] E0 (tCons (tVar 12) (tCons (tVar 10) tNil)))) rfl sc_law.nd (pi_tup (pe_ix ix_tup (pv 3) pe_int (fun _ _ => rfl))) (blkOk_by (own := [("_law_row", 12)]) (N := N_law) (sc := defScope s_law) (by decide +kernel)) (fun _ _ _ _ _ => (pg_name (i := 12) sc_law.nd rfl (Or.inl rfl))) (fun _ _ _ _ _ => pts_nil) (fun _ _ _ _ _ => (pe_call G_renamed_l (hr.mono (by omega)) rfl T.g_renamed_l T.F_renamed_l.kp T.b_renamed_l .nil pass0 (pa_cons (pv 12) (pa_cons (pv 10) pa_nil))))) pa_nil)))
      (pss_cons (ps_set (i := 8) sc_law.nd rfl (Or.inl rfl) (pe_callG hgd G_telling_l (hr.mono (by omega)) rfl T.g_telling_l T.F_telling_l.kp T.b_telling_l pass0 (pa_cons (pe_gcst (v := .ref Z.f_clocks_of) rfl ⟨_, T.g_clocks_of, rfl⟩) (pa_cons (pe_call G_node_of (hr.mono (by omega)) rfl T.g_node_of T.F_node_of.kp T.b_node_of .nil pass0 (pa_cons (pe_tup (pa_cons pe_str (pa_cons (pe_call G_put_l (hr.mono (by omega)) rfl T.g_put_l T.F_put_l.kp T.b_put_l .nil pass0 (pa_cons (pe_ix ix_tup (pv 3) pe_int (fun _ _ => rfl)) (pa_cons (pv 10) pa_nil))) (pa_cons (pe_call G_put_l (hr.mono (by omega)) rfl T.g_put_l T.F_put_l.kp T.b_put_l .nil pass0 (pa_cons (pe_ix ix_tup (pv 3) pe_int (fun _ _ => rfl)) (pa_cons (pv 10) pa_nil))) (pa_cons (pv 7) pa_nil))))) pa_nil)) pa_nil))))
      (Evl.pss_cut (ps_if (pt_cmpR op_ne (pe_call G_word_l (hr.mono (by omega)) rfl T.g_word_l T.F_word_l.kp T.b_word_l .nil pass0 (pa_cons (pv 3) (pa_cons (pv 8) pa_nil))) (pe_call G_word_l (hr.mono (by omega)) rfl T.g_word_l T.F_word_l.kp T.b_word_l .nil pass0 (pa_cons (pv 3) (pa_cons (pv 4) pa_nil))) (nomark _)) (pss_one (ps_ret pe_bl)) pss_nil)
      (pss_one (ps_if (pt_cmpR op_eq (pe_ix ix_tup (pv 4) pe_int (fun _ _ => rfl)) pe_str (nomark _)) (pss_cons (ps_set (i := 13) sc_law.nd rfl (Or.inl rfl) (pe_callTy (call_dictP rfl) (by rfl) T.n_dict (by decide +kernel) (pa_cons (pe_lock (pe_lc (own := [("_law_name", 11), ("_law_clock", 14)]) (g := (gTup K 2 (gCons (gName 11) (gCons (gName 14) gNil)))) (tt := tYes) (te := (tTup (tCons (tDGet (tVar 10) (tVar 11)) (tCons (tCall (sp_pt 2) [] E0 (tCons (tVar 14) (tCons (tVar 10) tNil))) tNil)))) rfl sc_law.nd (pi_items (pe_ix ix_tup (pv 4) pe_int (fun _ _ => rfl))) (blkOk_by (own := [("_law_name", 11), ("_law_clock", 14)]) (N := N_law) (sc := defScope s_law) (by decide +kernel)) (fun _ _ _ _ _ => (pg_tup (by rfl) (pgs_cons (pg_name (i := 11) sc_law.nd rfl (Or.inl rfl)) (pgs_cons (pg_name (i := 14) sc_law.nd rfl (Or.inl rfl)) pgs_nil)))) (fun _ _ _ _ _ => pts_nil) (fun _ _ _ _ _ => (pe_tup (pa_cons (pe_dget (hu_of hr) (pv 10) (pv 11) (fun _ _ => rfl)) (pa_cons (pe_call G_put_l (hr.mono (by omega)) rfl T.g_put_l T.F_put_l.kp T.b_put_l .nil pass0 (pa_cons (pv 14) (pa_cons (pv 10) pa_nil))) pa_nil)))))) pa_nil)))
      (pss_cons (ps_asg (pe_call G_more_l (hr.mono (by omega)) rfl T.g_more_l T.F_more_l.kp T.b_more_l .nil pass0 (pa_cons (pv 2) (pa_cons (pv 3) (pa_cons (pe_ix ix_tup (pv 4) pe_int (fun _ _ => rfl)) pa_nil)))) (pg_tup (by rfl) (pgs_cons (pg_name (i := 12) sc_law.nd rfl (Or.inl rfl)) (pgs_cons (pg_name (i := 14) sc_law.nd rfl (Or.inl rfl)) pgs_nil))))
      (pss_cons (ps_set (i := 15) sc_law.nd rfl (Or.inl rfl) (pe_callG hgd G_telling_l (hr.mono (by omega)) rfl T.g_telling_l T.F_telling_l.kp T.b_telling_l pass0 (pa_cons (pe_gcst (v := .ref Z.f_clocks_of) rfl ⟨_, T.g_clocks_of, rfl⟩) (pa_cons (pe_call G_node_of (hr.mono (by omega)) rfl T.g_node_of T.F_node_of.kp T.b_node_of .nil pass0 (pa_cons (pe_op op_catA (pe_slice sl_tupA (pv 3) po_none (po_some pe_int)) (pe_tup (pa_cons (pe_op op_catA (pe_ix ix_tup (pv 3) pe_int (fun _ _ => rfl)) (pe_tup (pa_cons (pv 12) pa_nil))) pa_nil))) pa_nil)) pa_nil))))
      (pss_one (ps_if (PW.pt (pw_or (pt_cmpR (op_neKD (hu66 hr)) (pe_ix ix_tup (pv 8) pe_int (fun _ _ => rfl)) (pv 13) (nomark _)) (pw_or1 (pt_cmpR (op_neTD (hu68 hr)) (pv 15) (pe_tup (pa_cons pe_str (pa_cons (pe_callTy (call_dictP rfl) (by rfl) T.n_dict (by decide +kernel) (pa_cons (pe_op op_cat (LiI.pe_listItems rfl (pe_ix ix_tup (pv 4) pe_int (fun _ _ => rfl)) rfl T.n_list (by decide +kernel)) (pe_lst (pa_cons (pe_tup (pa_cons pe_str (pa_cons (pv 14) pa_nil))) pa_nil))) pa_nil)) pa_nil))) (nomark _))))) (pss_one (ps_ret pe_bl)) pss_nil))))) pss_nil))))))))))))
      (pss_one (ps_ret pe_bl))), ?_⟩
    walk_at "ss"
    refine ⟨_, _, rfl, .inl hS, ?_⟩
    walk_at "ss"
    refine ⟨_, _, rfl, ?_⟩
    walk_at "ss"
    refine ⟨_, _, rfl, ?_⟩
    walk_at "ss"
    refine ⟨by split <;> split <;> omega, by split <;> split <;> omega, ?_⟩
    refine forR (fun i σ' G => (∃ v1 v2 v3 v4 v5 v6 v7 v8 v9 v10 v11 v12 v13 v14 v15, σ' = [some (.ref a), v1, v2, v3, v4, v5, v6, v7, v8, v9, v10, v11, v12, v13, v14, v15]) ∧ Ex H G) ⟨⟨_, _, _, _, _, _, _, _, _, _, _, _, _, _, _, rfl⟩, Ex.refl _⟩ ?_ ?_
    · rintro i σ' G hi ⟨⟨v1, v2, v3, v4, v5, v6, v7, v8, v9, v10, v11, v12, v13, v14, v15, rfl⟩, e⟩
      walk_at "ss"
      refine ⟨_, _, _, rfl, ex_l e hS, by omega, fun c => ?_⟩
      walk_at "ss"
      refine ⟨_, rfl, fun b G1 hb f1 hB => ?_⟩
      walk_at "ss"
      refine ⟨b, 2, rfl, hB, by decide, by decide, fun d G2 d0 d1 x2 b2 => ?_⟩
      walk_at "ss"
      refine ⟨b, _, rfl, b2, fun n u G3 hT hg hnc ⟨hnq, hr34, hn35⟩ x3 b3 => ?_⟩
      walk_at "ss"
      refine ⟨u, n, rfl, hT, hg, fun v G4 e4 hv => ?_⟩
      have hN := hv.at_
      walk_at "ss"
      refine ⟨n, v, rfl, hN, hg, hnc, fun f G5 e5 hF => ?_⟩
      have hT5 := hT.up (e4.trans e5)
      have b5 := b3.up (e4.trans e5)
      have X5 : ExB b G1 G5 := x2.trans (x3.trans (ExB.of (e4.trans e5)))
      have hU := nm_in hg
      have hnd := hg.all
      have ha1 := hg.all1
      have hr1 := hg.row1
      have hi1 := hg.in1
      have ho1 := hg.out1
      obtain ⟨ta, pI, pO, pR, us, rfl, gta, gpI, gpO, gpR, hrw⟩ := hT5
      have husl := paired_len hrw
      have hW5 := found_word hF
      have hz : (n.rows.zip us).map Prod.snd = us := List.map_snd_zip (Nat.le_of_eq husl.symm)
      walk_at "ss"
      refine c_cut (M := fun σ' G => (∃ v5 v6 v7 v8 v9 v10 v11 v12 v13 v14 v15, σ' = [some (.ref a), some (.int (i : Int)), some (.ref b), some (.ref ta), some (.ref f), v5, v6, v7, v8, v9, v10, v11, v12, v13, v14, v15]) ∧ ExB b G5 G ∧ BoxAt G b) ?_ ?_
      · walk_at "ss"
        refine ⟨by omega, by omega, ?_⟩
        refine forR (n := 3) (fun j σ' G => (∃ v5 v6 v7 v8 v9 v10 v11 v12 v13 v14 v15, σ' = [some (.ref a), some (.int (i : Int)), some (.ref b), some (.ref ta), some (.ref f), v5, v6, v7, v8, v9, v10, v11, v12, v13, v14, v15]) ∧ ExB b G5 G ∧ BoxAt G b) ⟨⟨_, _, _, _, _, _, _, _, _, _, _, rfl⟩, ExB.refl _ _, b5⟩ ?_ ?_
        · rintro j σ' G hj ⟨⟨v5, v6, v7, v8, v9, v10, v11, v12, v13, v14, v15, rfl⟩, xG, bG⟩
          have tk : ∀ {a : Addr} {xs : List V}, G5 a = some (.tup xs) → G a = some (.tup xs) := fun ha => xG _ _ (box_ne b5 ha (fun _ _ _ z => by cases z)) ha
          walk_at "ss"
          refine c_ixT (SqT.of (tk gta)) rfl ?_
          walk_at "ss"
          refine ⟨Str, V.str, b, pI, n.ins, rfl, bG, .inr (tk gpI), hi1, fun I p1 H1 hpI hp1 x1 b1 g1 => ?_⟩
          walk_at "ss"
          refine ⟨p1, _, rfl, .inl ⟨SqL.of g1, fun q2 hq2 => ?_⟩⟩
          have e2 : Ex H1 (upd H1 q2 (.tup (I.map V.str))) := Ex.new hq2
          have g2 : upd H1 q2 (.tup (I.map V.str)) q2 = some (.tup (I.map V.str)) := upd_same
          generalize upd H1 q2 (.tup (I.map V.str)) = H2 at e2 g2
          have b2 := b1.up e2
          have tk2 : ∀ {a : Addr} {xs : List V}, G a = some (.tup xs) → H2 a = some (.tup xs) := fun ha => e2 _ _ (x1 _ _ (box_ne bG ha (fun _ _ _ z => by cases z)) ha)
          walk_at "ss"
          refine c_ixT (SqT.of (tk2 (tk gta))) rfl ?_
          walk_at "ss"
          refine ⟨Rw × V, Prod.snd, b, pR, n.rows.zip us, rfl, b2, .inr (by rw [hz]; exact tk2 (tk gpR)), by rw [List.length_zip]; omega, fun ms p3 H3 hpR hp3 x3 b3 g3 => ?_⟩
          walk_at "ss"
          refine ⟨p3, _, rfl, .inl ⟨SqL.of g3, fun q4 hq4 => ?_⟩⟩
          have e4 : Ex H3 (upd H3 q4 (.tup (ms.map Prod.snd))) := Ex.new hq4
          have g4 : upd H3 q4 (.tup (ms.map Prod.snd)) q4 = some (.tup (ms.map Prod.snd)) := upd_same
          generalize upd H3 q4 (.tup (ms.map Prod.snd)) = H4 at e4 g4
          have b4 := b3.up e4
          have tk4 : ∀ {a : Addr} {xs : List V}, H2 a = some (.tup xs) → H4 a = some (.tup xs) := fun ha => e4 _ _ (x3 _ _ (box_ne b2 ha (fun _ _ _ z => by cases z)) ha)
          obtain ⟨hP4, hpm⟩ := turned_rows (paired_up (fun _ _ h => h.tu fun _ _ ha => tk4 (tk2 (tk ha))) hrw) hpR
          walk_at "ss"
          refine c_ixT (SqT.of (tk4 (tk2 (tk gta)))) rfl ?_
          walk_at "ss"
          refine newT fun q5 H5 hq5 e5 g5 => ?_
          have hgm := Nd.perm_good hg hpI hpm
          have hcm : Nd.nocalls ⟨"m", I, n.outs, ms.map Prod.fst⟩ := fun r hr => hnc r (hpm.mem_iff.mp hr)
          walk_at "ss"
          refine ⟨.ref q5, ⟨"m", I, n.outs, ms.map Prod.fst⟩, rfl, ⟨q5, q2, pO, q4, ms.map Prod.snd, rfl, g5, e5 _ _ (tk4 g2), e5 _ _ (tk4 (tk2 (tk gpO))), e5 _ _ g4, paired_up (fun _ _ h => h.up e5) hP4⟩, hgm, fun v2 H6 e6 hv2 => ?_⟩
          walk_at "ss"
          refine ⟨_, v2, rfl, hv2.at_, hgm, hcm, fun o H7 e7 hF2 => ?_⟩
          have e57 := e5.trans (e6.trans e7)
          have b7 := b4.up e57
          have tk7 : TupK G5 H7 := fun _ _ ha => e57 _ _ (tk4 (tk2 (tk ha)))
          have X57 : ExB b G5 H7 := xG.trans (x1.trans ((ExB.of e2).trans (x3.trans (ExB.of (e4.trans e57)))))
          have hOm : ∀ {q : Nat}, OutN n q → OutN ⟨"m", I, n.outs, ms.map Prod.fst⟩ q := fun h => h.perm (fun s => hpI.mem_iff.symm) fun r => hpm.mem_iff.symm
          walk_at "ss"
          refine c_cut (M := fun σ' G' => σ' = [some (.ref a), some (.int (i : Int)), some (.ref b), some (.ref ta), some (.ref f), some (.int (j : Int)), some (.ref q2), some (.ref q4), some (.ref o), v9, v10, v11, v12, v13, v14, v15] ∧ Ex H7 G') ?_ ?_
          · walk_at "ss"
            refine ⟨_, _, o, rfl, found_word hF2, fun k2 H8 hk2 hO2 e8 => ?_⟩
            walk_at "ss"
            refine ⟨_, _, f, rfl, (hW5.tk tk7).tk (TupK.of e8), fun k1 H9 hk1 hO1 e9 => ?_⟩
            have hkk : k2 = k1 := OutP.uni hk2 hk1 hO2 (hOm hO1)
            subst hkk
            walk_at "ss"
            refine if_ff (by rw [decide_eq_true rfl]; rfl) ?_
            walk_at "ss"
            exact e8.trans e9
          rintro σ' H9 ⟨rfl, e9⟩
          walk_at "ss"
          rcases found_hd hF with h0 | ⟨dw, vw, hdw, gdw⟩
          · obtain ⟨S, cd, hok, hcl, hall, _, gf, hC⟩ := found_fit hF h0
            obtain ⟨S', cd', hok', hcl', hall', _, gf', hC'⟩ := found_fit hF2 (hOm h0)
            have hp := perm_names (n := n) (m := ⟨"m", I, n.outs, ms.map Prod.fst⟩) hpI hpm
            refine c_ixT (SqT.of (e9 _ _ (tk7 _ _ gf))) rfl ?_
            walk_at "ss"
            rw [str_eq rfl]
            walk_at "ss"
            refine c_ixT (SqT.of (e9 _ _ gf')) rfl ?_
            walk_at "ss"
            refine c_ixT (SqT.of (e9 _ _ (tk7 _ _ gf))) rfl ?_
            refine c_neCks (hC'.upC e9) ((hC.upB X57 b5).upC e9) hgm.all hnd (fun s => hp.mem_iff) (fun s hs => ?_) (fun s hs => (ck_good hok' hall' hgm hs).2) ?_
            · have h1 := ck_drv hok' hcl' hall' hs
              exact (ck_D hcl (h1.mono (fun s => hpI.mem_iff.mp) fun r => hpm.mem_iff.mp)).symm
            walk_at "ss"
            exact ⟨⟨_, _, _, _, _, _, _, _, _, _, _, rfl⟩, X57.trans (ExB.of e9), b7.up e9⟩
          · refine c_ixT (SqT.of (e9 _ _ (tk7 _ _ gdw))) rfl ?_
            walk_at "ss"
            rw [str_ne hdw]
            walk_at "ss"
            exact ⟨⟨_, _, _, _, _, _, _, _, _, _, _, rfl⟩, X57.trans (ExB.of e9), b7.up e9⟩
        · rintro σ' G ⟨⟨v5, v6, v7, v8, v9, v10, v11, v12, v13, v14, v15, rfl⟩, xG, bG⟩
          walk_at "ss"
          exact ⟨⟨_, _, _, _, _, _, _, _, _, _, _, rfl⟩, xG, bG⟩
      rintro σ' G6 ⟨⟨v5, v6, v7, v8, v9, v10, v11, v12, v13, v14, v15, rfl⟩, x6, b6⟩
      have tk : ∀ {a : Addr} {xs : List V}, G5 a = some (.tup xs) → G6 a = some (.tup xs) := fun ha => x6 _ _ (box_ne b5 ha (fun _ _ _ z => by cases z)) ha
      walk_at "ss"
      refine c_ixT (SqT.of (tk gta)) rfl ?_
      walk_at "ss"
      refine ⟨_, _, rfl, .inr (SqT.of (tk gpI)), fun l1 hl1 => ?_⟩
      have e1 : Ex G6 (upd G6 l1 (.lst (n.ins.map V.str))) := Ex.new hl1
      have g1 : upd G6 l1 (.lst (n.ins.map V.str)) l1 = some (.lst (n.ins.map V.str)) := upd_same
      generalize upd G6 l1 (.lst (n.ins.map V.str)) = H1 at e1 g1
      walk_at "ss"
      refine c_ixT (SqT.of (e1 _ _ (tk gta))) rfl ?_
      walk_at "ss"
      refine ⟨pR, n.rows, us, rfl, .inr (e1 _ _ (tk gpR)), paired_up (fun _ _ h => (h.tu fun _ _ ha => tk ha).up e1) hrw, hr1, hnc, fun l2 H2 hl2 e2 g2 => ?_⟩
      refine c_cat (e2 _ _ g1) g2 (fun l3 H3 hl3 e3 g3 => ?_) (by rw [List.length_map, List.length_map]; show n.ins.length + n.told.length ≤ _; have : n.ins.length + n.told.length = n.names.length := (List.length_append).symm; omega)
      have g3 : H3 l3 = some (.lst (n.names.map V.str)) := by rw [g3, ← List.map_append]; rfl
      have e13 := e1.trans (e2.trans e3)
      walk_at "ss"
      refine c_dz ?_
      walk_at "ss"
      refine ⟨⟨_, SqL.of g3⟩, lcW walk_list (fun G e => Evl.ex_l e (SqL.of g3)) (as := n.names) (by rw [List.length_map]) (by rw [List.length_map]; omega) (fun _ => true) (fun D s y G => y = .str (s ++ "q")) (fun _ _ _ _ _ _ _ h => h) ?_ ?_⟩
      · rintro D i s x hD hs hx F2 f2 ⟨o, ho⟩ R N hY hN
        rw [List.getElem?_map, hs] at hx
        cases hx
        walk_at "ss"
        have hsl := (name_good hg s (List.mem_of_getElem? hs)).2.1
        exact ⟨Evl.sz_of (by rw [show ("q" : Str).length = 1 from by decide +kernel]; omega), hY rfl _ _ (Ex.refl _) rfl⟩
      intro ys l4 H4 hys hl4 e4 g4
      rw [List.filter_eq_self.mpr (fun _ _ => rfl)] at hys
      rw [paired_map1 hys] at g4
      have e14 := e13.trans e4
      have b14 := b6.up e14
      have n3 := fresh_nb (b6.up (e1.trans e2)) hl3
      walk_at "ss"
      refine ⟨Str, V.str, b, l4, n.names.map (fun s => s ++ "q"), rfl, b14, .inl g4, by rw [List.length_map]; omega, fun M l5 H5 hM hl5 x5 b5' g5 => ?_⟩
      have hlM : M.length = n.names.length := by rw [hM.length_eq, List.length_map]
      have tk5 : ∀ {a : Addr} {xs : List V}, G6 a = some (.tup xs) → H5 a = some (.tup xs) := fun ha => x5 _ _ (box_ne b14 (e14 _ _ ha) (fun _ _ _ z => by cases z)) (e14 _ _ ha)
      walk_at "ss"
      refine ⟨l3, l5, n.names.map (Sum.inr : Str → Key), M.map V.str, rfl, SqL.of (by rw [List.map_map]; exact x5 _ _ n3 (e4 _ _ g3)), SqL.of g5, by rw [List.length_map, List.length_map]; omega, fun dz hdz => ?_⟩
      have hkz : ((n.names.map (Sum.inr : Str → Key)).zip (M.map V.str)).map (·.1) = n.names.map (Sum.inr : Str → Key) := List.map_fst_zip (by rw [List.length_map, List.length_map]; omega)
      rw [mergeK_nodup _ [] (by rw [List.nil_append, hkz]; exact nd_keys hnd), List.nil_append]
      have hNew := newN_of hnd hM
      generalize hkv : (n.names.map (Sum.inr : Str → Key)).zip (M.map V.str) = kv at hNew
      have e6 : Ex H5 (upd H5 dz (.dK kv)) := Ex.new hdz
      have g6 : upd H5 dz (.dK kv) dz = some (.dK kv) := upd_same
      generalize upd H5 dz (.dK kv) = H6 at e6 g6
      have hget : ∀ s ∈ n.names, ∃ t, valV kv (.inr s) = some (.str t) ∧ goodN t := fun s hs => by
        obtain ⟨z, hz, h1⟩ := hNew.get s hs
        exact ⟨_, h1, (hnq z hz).1⟩
      have hfg : ∀ s ∈ n.names, goodN (fK kv s) := fun s hs => by
        obtain ⟨t, h1, h2⟩ := hget s hs
        have e : fK kv s = t := by unfold fK; rw [h1]
        rw [e]; exact h2
      have tk6 : ∀ {a : Addr} {xs : List V}, G5 a = some (.tup xs) → H6 a = some (.tup xs) := fun ha => e6 _ _ (tk5 (tk ha))
      have b6' := b5'.up e6
      have X06 : ExB b G5 H6 := x6.trans ((ExB.of e14).trans (x5.trans (ExB.of e6)))
      clear hys g4 g3 g2 g1 e13 e4 e3 e2 e1 g5
      walk_at "ss"
      refine c_ixT (SqT.of (tk6 gta)) rfl ?_
      refine ⟨pR, rfl, ⟨_, SqT.of (tk6 gpR)⟩, lcW walk_tup (fun G e => Evl.ex_t e (SqT.of (tk6 gpR))) (as := n.rows) husl (by omega) (fun _ => true) (fun D r y G => RowAt G (r.ren (fK kv)) y) (fun D r y G G2 _ en h => h.nl en) ?_ ?_⟩
      · rintro D i r x hD hr hx F2 f2 ⟨o, ho⟩ R N hY hN
        obtain ⟨r', hr', hRow⟩ := paired_ix hrw hx
        rw [hr] at hr'
        cases hr'
        have hrm := List.mem_of_getElem? hr
        walk_at "ss"
        exact ⟨r, x, dz, kv, rfl, (hRow.tu fun _ _ ha => tk6 ha).up f2, (hg.row r hrm).1, hnc r hrm, f2 _ _ g6, hNew.alls, fun s hs => hget s (hU.row r hrm s hs), fun y H7 e7 h7 => hY rfl _ _ e7 h7⟩
      intro ys l7 H7 hys hl7 e7 g7
      rw [List.filter_eq_self.mpr (fun _ _ => rfl)] at hys
      walk_at "ss"
      refine ⟨l7, _, rfl, .inl ⟨SqL.of g7, fun q8 hq8 => ?_⟩⟩
      have e8 : Ex H7 (upd H7 q8 (.tup ys)) := Ex.new hq8
      have g8 : upd H7 q8 (.tup ys) q8 = some (.tup ys) := upd_same
      generalize upd H7 q8 (.tup ys) = H8 at e8 g8
      have e78 := e7.trans e8
      walk_at "ss"
      refine c_ixT (SqT.of (e78 _ _ (tk6 gta))) rfl ?_
      walk_at "ss"
      refine ⟨.ref pI, dz, kv, rfl, e78 _ _ g6, hNew.alls, .inr ⟨pI, n.ins, rfl, by decide, e78 _ _ (tk6 gpI), by omega, fun q9 H9 hq9 e9 g9 => ?_⟩⟩
      walk_at "ss"
      refine c_ixT (SqT.of (e9 _ _ (e78 _ _ (tk6 gta)))) rfl ?_
      walk_at "ss"
      refine ⟨.ref pO, dz, kv, rfl, e9 _ _ (e78 _ _ g6), hNew.alls, .inr ⟨pO, n.outs, rfl, by decide, e9 _ _ (e78 _ _ (tk6 gpO)), by omega, fun q10 H10 hq10 e10 g10 => ?_⟩⟩
      walk_at "ss"
      refine newT fun q11 H11 hq11 e11 g11 => ?_
      have hgr := Nd.ren_good hg hNew.inj hfg
      have hcr : (n.ren (fK kv) "n").nocalls := Nd.ren_nocalls hnc
      have e911 := e9.trans (e10.trans e11)
      walk_at "ss"
      refine ⟨.ref q11, n.ren (fK kv) "n", rfl, ⟨q11, q9, q10, q8, ys, rfl, g11, (e10.trans e11) _ _ g9, e11 _ _ g10, e911 _ _ g8, paired_mapL (paired_up (fun _ _ h => (h.up e8).up e911) hys)⟩, hgr, fun v3 H12 e12 hv3 => ?_⟩
      walk_at "ss"
      refine ⟨_, v3, rfl, hv3.at_, hgr, hcr, fun o H13 e13 hF3 => ?_⟩
      have e713 := e78.trans (e911.trans (e12.trans e13))
      have tk13 : TupK G5 H13 := fun _ _ ha => e713 _ _ (tk6 ha)
      have X13 : ExB b G5 H13 := X06.trans (ExB.of e713)
      have b13 := b6'.up e713
      have g13 := e713 _ _ g6
      have hOr : ∀ {q : Nat}, OutN n q → OutN (n.ren (fK kv) "n") q := fun h => h.ren hg hNew.inj
      walk_at "ss"
      refine c_cut (M := fun σ' G' => σ' = [some (.ref a), some (.int (i : Int)), some (.ref b), some (.ref ta), some (.ref f), v5, v6, some (.ref q8), some (.ref o), some (.ref l3), some (.ref dz), v11, v12, v13, v14, v15] ∧ Ex H13 G') ?_ ?_
      · walk_at "ss"
        refine ⟨_, _, o, rfl, found_word hF3, fun k2 H14 hk2 hO2 e14 => ?_⟩
        walk_at "ss"
        refine ⟨_, _, f, rfl, (hW5.tk tk13).tk (TupK.of e14), fun k1 H15 hk1 hO1 e15 => ?_⟩
        have hkk : k2 = k1 := OutP.uni hk2 hk1 hO2 (hOr hO1)
        subst hkk
        walk_at "ss"
        refine if_ff (by rw [decide_eq_true rfl]; rfl) ?_
        walk_at "ss"
        exact e14.trans e15
      rintro σ' H14 ⟨rfl, e14'⟩
      have tk14 : ∀ {a : Addr} {xs : List V}, G5 a = some (.tup xs) → H14 a = some (.tup xs) := fun ha => e14' _ _ (tk13 _ _ ha)
      have X14 : ExB b G5 H14 := X13.trans (ExB.of e14')
      have b14' := b13.up e14'
      have g14 := e14' _ _ g13
      have eH : ∀ {G : Hp}, ExB b G5 G → Ex H G := fun x => e.trans (ExB.tot f1 hb (X5.trans x))
      walk_at "ss"
      rcases found_hd hF with h0 | ⟨dw, vw, hdw, gdw⟩
      rotate_left
      · refine c_ixT (SqT.of (tk14 gdw)) rfl ?_
        walk_at "ss"
        rw [str_ne hdw]
        walk_at "ss"
        exact ⟨⟨_, _, _, _, _, _, _, _, _, _, _, _, _, _, _, rfl⟩, eH X14⟩
      obtain ⟨S, cd, hok, hcl, hall, _, gf, hC⟩ := found_fit hF h0
      obtain ⟨S3, cd3, hok3, hcl3, hall3, _, gf3, hC3⟩ := found_fit hF3 (hOr h0)
      have hC14 := hC.upB X14 b5
      have hC34 := hC3.upC e14'
      obtain ⟨kc, gkc, hkc, hkv2⟩ := id hC14
      have hkcl : kc.length = n.names.length := by simpa using congrArg List.length hkc
      refine c_ixT (SqT.of (tk14 gf)) rfl ?_
      walk_at "ss"
      rw [str_eq rfl]
      walk_at "ss"
      refine c_lockE gkc trivial fun od => ?_
      have nzc : dz ≠ cd := by
        obtain ⟨_, q1, _⟩ := hC.upB (x6.trans ((ExB.of e14).trans x5)) b5
        exact (ne_of_none q1 hdz).symm
      have hck3 : ∀ s ∈ n.names, ckOf S3 (fK kv s) = (ckOf S s).map (fK kv) := fun s hs => ck_D hcl3 (Drv.ren (ck_drv hok hcl hall hs))
      have gz : upd H14 cd (.frz od (.dK kc)) cd = some (.frz od (.dK kc)) := upd_same
      have gd : upd H14 cd (.frz od (.dK kc)) dz = some (.dK kv) := by rw [upd_ne nzc]; exact g14
      have tkz : ∀ {a : Addr} {xs : List V}, H14 a = some (.tup xs) → upd H14 cd (.frz od (.dK kc)) a = some (.tup xs) := fun ha => by rw [upd_ne (ne_of ha gkc (fun z => by cases z))]; exact ha
      have hknd : (kc.map (·.1)).Nodup := by rw [hkc]; exact nd_keys hnd
      refine c_lcItm ?_
      walk_at "ss"
      refine c_ixT (SqT.of (tkz (tk14 gf))) rfl ?_
      refine ⟨cd, od, kc, rfl, gz, lcItm (as := n.names) gz hkcl.symm (by omega) (fun D s y G => ∃ p q, y = .ref p ∧ G p = some (.tup [.str (fK kv s), .ref q]) ∧ G q = some (.tup ((ckOf S3 (fK kv s)).map V.str))) (fun D s y G G2 _ en ⟨p, q, h1, h2, h3⟩ => ⟨p, q, h1, NL.tup en h2, NL.tup en h3⟩) ?_ ?_⟩
      · rintro D i s key val T' hD hs hkv H15 e15 hT' ⟨o, ho⟩ R N hY
        have hsN := List.mem_of_getElem? hs
        have hk1 : (kc.map (·.1))[i]? = some key := by rw [List.getElem?_map, hkv]; rfl
        rw [hkc, List.getElem?_map, hs] at hk1
        have hk2 : key = Sum.inr s := (Option.some.inj hk1).symm
        subst hk2
        obtain ⟨p, q1, q2⟩ := hkv2 s hsN
        have hv := valV_mem hknd (List.mem_of_getElem? hkv)
        rw [q1] at hv
        have hv2 : val = .ref p := (Option.some.inj hv).symm
        subst hv2
        refine c_gTup (SqT.of hT') rfl ?_
        walk_at "ss"
        refine ⟨dz, _, rfl, (DM.fk (L := n.names) (e15 _ _ gd) hget).get hsN, ?_⟩
        walk_at "ss"
        have hcg := ck_good hok hall hg hsN
        refine ⟨.ref p, dz, kv, rfl, e15 _ _ gd, hNew.alls, .inr ⟨p, ckOf S s, rfl, by decide, e15 _ _ (tkz q2), by omega, fun q5 H16 hq5 e16 g16 => ?_⟩⟩
        walk_at "ss"
        refine newT fun p6 H17 hp6 e17 g17 => ?_
        exact hY _ _ (e16.trans e17) ⟨p6, q5, rfl, g17, by rw [hck3 s hsN]; exact e17 _ _ g16⟩
      intro ys2 pl H15 hys2 hpl e15 g15
      refine ⟨e15 _ _ gz, ?_⟩
      have hplc : pl ≠ cd := by
        intro z
        subst z
        rw [gz] at hpl
        cases hpl
      have E15 : Ex H14 (upd H15 cd (.dK kc)) := ex_unlock gkc e15
      have g15' : upd H15 cd (.dK kc) pl = some (.lst ys2) := by rw [upd_ne hplc]; exact g15
      have tk15 : ∀ {a : Addr} {xs : List V}, H15 a = some (.tup xs) → upd H15 cd (.dK kc) a = some (.tup xs) := fun ha => by rw [upd_ne (ne_of ha (e15 _ _ gz) (fun z => by cases z))]; exact ha
      have hys3 : Paired (fun (s : Str) (y : V) => ∃ p q, y = V.ref p ∧ upd H15 cd (HO.dK kc) p = some (HO.tup [V.str (fK kv s), V.ref q]) ∧ upd H15 cd (HO.dK kc) q = some (HO.tup ((ckOf S3 (fK kv s)).map V.str))) n.names ys2 := paired_up (fun s y h => by
        obtain ⟨p, q, h1, h2, h3⟩ := h
        exact ⟨p, q, h1, tk15 h2, tk15 h3⟩) hys2
      generalize upd H15 cd (.dK kc) = H16 at E15 g15' hys3
      obtain ⟨ps, kvs, rfl, hps, hkeys, hmem⟩ := itm_pairs (K := K) (ck := ckOf S3) hys3
      have hnd3 := hgr.all
      rw [Nd.ren_names] at hnd3
      have hknd3 : (kvs.map (·.1)).Nodup := by rw [hkeys]; exact nd_keys hnd3
      walk_at "ss"
      refine ⟨pl, ps, kvs, rfl, SqL.of g15', hps, fun kd hkd => ?_⟩
      rw [mergeK_nodup _ [] (by rw [List.nil_append]; exact hknd3), List.nil_append]
      have e17 : Ex H16 (upd H16 kd (.dK kvs)) := Ex.new hkd
      have g17 : upd H16 kd (.dK kvs) kd = some (.dK kvs) := upd_same
      generalize upd H16 kd (.dK kvs) = H17 at e17 g17
      have hDue : CksAt H17 kd (n.names.map (fK kv)) (ckOf S3) := ⟨kvs, g17, hkeys, fun s hs => by
        obtain ⟨q, q1, q2⟩ := hmem s hs
        exact ⟨q, valV_mem hknd3 q1, e17 _ _ q2⟩⟩
      have E17 := E15.trans e17
      have hC17 := hC14.upC E17
      have b17 := b14'.up E17
      have tk17 : ∀ {a : Addr} {xs : List V}, G5 a = some (.tup xs) → H17 a = some (.tup xs) := fun ha => E17 _ _ (tk14 ha)
      have hne : n.names ≠ [] := fun z => by
        have h := (List.append_eq_nil_iff.mp (show n.ins ++ n.told = [] from z)).1
        have h2 := hg.in0
        rw [h] at h2
        exact absurd h2 (by decide)
      walk_at "ss"
      refine c_ixT (SqT.of (tk17 gf)) rfl ?_
      refine ⟨b, cd, _, n.names, ckOf S, rfl, b17, hC17, hne, ha1, fun s hs => ck_good hok hall hg hs, fun a' c1 r c2 u2 q18 w18 H18 ha' hc1 hcc hr hRow gq18 gw18 x18 b18 => ?_⟩
      have hqq := not_qq hnq
      have gna := name_good hg a' ha'
      have gnc := name_good hg c1 hc1
      have gqq : goodN "qq" := ⟨by decide +kernel, by decide +kernel, OkT.lit (by decide +kernel)⟩
      have ht : r.tells = [("qq" : Str)] := by
        rcases hr with ⟨rfl, _⟩ | ⟨kk, _, rfl, _⟩ <;> rfl
      have hrg : r.good ∧ r.nocall ∧ r.kind ≠ 0 ∧ (∀ s ∈ r.names, s ∈ n.names) ∧ a' ∈ r.ment ∧ (∀ m ∈ r.ment, m ∈ n.names ∧ ckOf S m = ckOf S a') ∧ r.hand (ckOf S a') = some c2 := by
        rcases hr with ⟨rfl, rfl⟩ | ⟨kk, hkk, rfl, rfl⟩
        · refine ⟨⟨gqq, gna, gnc⟩, trivial, (fun z => by cases z), fun s hs => ?_, by simp [Rw.ment], fun m hm => ?_, rfl⟩
          · have h := once_mem hs
            have h : s = a' ∨ s = c1 := by simpa using h
            rcases h with h | h <;> rw [h]
            · exact ha'
            · exact hc1
          · have h : m = a' ∨ m = c1 := by simpa [Rw.ment] using hm
            rcases h with h | h <;> rw [h]
            · exact ⟨ha', rfl⟩
            · exact ⟨hc1, hcc⟩
        · refine ⟨?_, trivial, ?_, fun s hs => ?_, by simp [Rw.ment], fun m hm => ?_, ?_⟩
          · rcases hkk with rfl | rfl
            · exact ⟨by decide, gqq, rfl, gna⟩
            · exact ⟨by decide, gqq, rfl, gna⟩
          · rcases hkk with rfl | rfl <;> exact fun z => by cases z
          · have h : s = a' := by simpa [Rw.names] using hs
            rw [h]; exact ha'
          · have h : m = a' := by simpa [Rw.ment] using hm
            rw [h]; exact ⟨ha', rfl⟩
          · rcases hkk with rfl | rfl <;> rfl
      obtain ⟨hr_g, hr_nc, hr_k, hr_n, hr_a, hr_m, hr_h⟩ := hrg
      have hda := ck_drv hok hcl hall ha'
      have hmD : ∀ m ∈ r.ment, m ∈ n.names ∧ ∀ c, Drv n.ins n.rows m c → r.hand c = some c2 := fun m hm => ⟨(hr_m m hm).1, fun c hc => by rw [← ck_D hcl hc, (hr_m m hm).2]; exact hr_h⟩
      have hgM := Nd.more_good hg hqq ht hr_g hr_k hr_n hr34 hn35
      have hcM : (n.more r).nocalls := fun r1 h1 => by
        rcases List.mem_append.mp h1 with h | h
        · exact hnc r1 h
        · rw [List.mem_singleton.mp h]; exact hr_nc
      have hOM := out_more hg hqq ht hr_a hda hr_h hmD h0
      have tk18 : ∀ {a : Addr} {xs : List V}, G5 a = some (.tup xs) → H18 a = some (.tup xs) := fun ha => x18 _ _ (box_ne b17 (tk17 ha) (fun _ _ _ z => by cases z)) (tk17 ha)
      refine c_gTup (SqT.of gw18) rfl ?_
      walk_at "ss"
      refine c_slH (tk18 gta) fun p19 H19 e19 g19 => ?_
      have g19 : H19 p19 = some (.tup [.str n.nm, .ref pI, .ref pO]) := g19
      walk_at "ss"
      refine c_ixT (SqT.of (e19 _ _ (tk18 gta))) rfl ?_
      walk_at "ss"
      refine newT fun p20 H20 hp20 e20 g20 => ?_
      refine c_catH (e20 _ _ (e19 _ _ (tk18 gpR))) g20 (by show _ + 1 ≤ _; omega) fun p21 H21 e21 g21 => ?_
      walk_at "ss"
      refine newT fun p22 H22 hp22 e22 g22 => ?_
      have e1922 := e20.trans (e21.trans e22)
      refine c_catH (e1922 _ _ g19) g22 (by show 3 + 1 ≤ _; decide +kernel) fun p23 H23 e23 g23 => ?_
      have e1823 := e19.trans (e1922.trans e23)
      walk_at "ss"
      refine ⟨.ref p23, n.more r, rfl, ⟨p23, pI, pO, p21, us ++ [u2], rfl, g23, e1823 _ _ (tk18 gpI), e1823 _ _ (tk18 gpO), (e22.trans e23) _ _ g21, paired_snoc (F := RowAt H23) (hRow.up e1823) (paired_up (fun _ _ h => (h.tu fun _ _ ha => tk18 ha).up e1823) hrw)⟩, hgM, fun v4 H24 e24 hv4 => ?_⟩
      walk_at "ss"
      refine ⟨_, v4, rfl, hv4.at_, hgM, hcM, fun o4 H25 e25 hF4 => ?_⟩
      obtain ⟨S4, cd4, hok4, hcl4, hall4, _, gf4, hC4⟩ := found_fit hF4 hOM
      have e1825 := e1823.trans (e24.trans e25)
      have X1725 : ExB b H17 H25 := x18.trans (ExB.of e1825)
      have X25 : ExB b G5 H25 := X14.trans ((ExB.of E17).trans X1725)
      have b25 := b18.up e1825
      walk_at "ss"
      refine c_ixT (SqT.of (X1725 _ _ (box_ne b17 (E17 _ _ (e14' _ _ gf3)) (fun _ _ _ z => by cases z)) (E17 _ _ (e14' _ _ gf3)))) rfl ?_
      walk_at "ss"
      have hC3e := (hC34.upC E17).upB X1725 b17
      rw [Nd.ren_names] at hC3e
      refine c_neCks hC3e (hDue.upB X1725 b17) hnd3 hnd3 (fun s => Iff.rfl) (fun s hs => rfl) (fun s hs => (ck_good hok3 hall3 hgr (by rw [Nd.ren_names]; exact hs)).2) ?_
      walk_at "ss"
      have hC25 := hC.upB X25 b5
      obtain ⟨k5, gk5, hk5, hv5⟩ := id hC25
      have hk5l : k5.length = n.names.length := by simpa using congrArg List.length hk5
      have tk25 : ∀ {a : Addr} {xs : List V}, G5 a = some (.tup xs) → H25 a = some (.tup xs) := fun ha => X25 _ _ (box_ne b5 ha (fun _ _ _ z => by cases z)) ha
      refine c_ixT (SqT.of (tk25 gf)) rfl ?_
      refine ⟨cd, k5, rfl, gk5, fun H26 p26 ts e26 hp26 hts hpts g26 hP26 => ?_⟩
      have e26 : Ex H25 H26 := e26
      have htl := paired_len hP26
      walk_at "ss"
      refine newT fun p27 H27 hp27 e27 g27 => ?_
      walk_at "ss"
      refine newL fun p28 H28 hp28 e28 g28 => ?_
      have e2628 := e27.trans e28
      refine c_cat (e2628 _ _ g26) g28 (fun p29 H29 hp29 e29 g29 => ?_) (by rw [List.length_map]; show _ + 1 ≤ _; omega)
      walk_at "ss"
      have e2529 := e26.trans (e2628.trans e29)
      have hqk : (Sum.inr ("qq" : Str) : Key) ∉ k5.map (·.1) := by
        rw [hk5]
        intro hm
        obtain ⟨z, hz, e⟩ := List.mem_map.mp hm
        cases Sum.inr.inj e
        exact hqq hz
      have hkk5 : (k5 ++ [((Sum.inr ("qq" : Str) : Key), V.ref q18)]).map (·.1) = (n.names ++ [("qq" : Str)]).map (Sum.inr : Str → Key) := by rw [List.map_append, hk5, List.map_append]; rfl
      have hnM := hgM.all
      rw [Nd.more_names ht] at hnM
      refine ⟨p29, ts ++ [p27], k5 ++ [((Sum.inr ("qq" : Str) : Key), V.ref q18)], rfl, SqL.of (by rw [g29, List.map_append]; rfl), paired_snoc (F := fun p (kv : Key × V) => SqT K H29 p [kV kv.1, kv.2]) (SqT.of ((e28.trans e29) _ _ g27)) (paired_up (fun p kv h => SqT.of ((e2628.trans e29) _ _ h)) hP26), fun kd2 hkd2 => ?_⟩
      rw [mergeK_nodup _ [] (by rw [List.nil_append, hkk5]; exact nd_keys hnM), List.nil_append]
      have e30 : Ex H29 (upd H29 kd2 (.dK (k5 ++ [((Sum.inr ("qq" : Str) : Key), V.ref q18)]))) := Ex.new hkd2
      have g30 : upd H29 kd2 (.dK (k5 ++ [((Sum.inr ("qq" : Str) : Key), V.ref q18)])) kd2 = some (.dK (k5 ++ [((Sum.inr ("qq" : Str) : Key), V.ref q18)])) := upd_same
      generalize upd H29 kd2 (.dK (k5 ++ [((Sum.inr ("qq" : Str) : Key), V.ref q18)])) = H30 at e30 g30
      have e2530 := e2529.trans e30
      have hck4 : ∀ s ∈ n.names, ckOf S4 s = ckOf S s := fun s hs => ck_D hcl4 (drv_old (ck_drv hok hcl hall hs))
      have hckq : ckOf S4 "qq" = c2 := ck_D hcl4 (.row (List.mem_append_right _ (List.mem_singleton_self _)) ht hr_a (drv_old hda) hr_h)
      have hNewC : CksAt H30 kd2 (n.names ++ [("qq" : Str)]) (ckOf S4) := ⟨_, g30, hkk5, fun s hs => by
        rcases List.mem_append.mp hs with h | h
        · obtain ⟨q, q1, q2⟩ := hv5 s h
          exact ⟨q, by rw [valV_snoc_old (fun e => hqq (by rw [Sum.inr.inj e]; exact h))]; exact q1, by rw [hck4 s h]; exact e2530 _ _ q2⟩
        · rw [List.mem_singleton.mp h]
          exact ⟨q18, valV_snoc_new hqk, by rw [hckq]; exact e2530 _ _ (e1825 _ _ gq18)⟩⟩
      have hnkd : cd4 ≠ kd2 := by
        obtain ⟨_, q1, _⟩ := hC4
        exact ne_of_none (e2529 _ _ q1) hkd2
      walk_at "ss"
      refine newT fun p31 H31 hp31 e31 g31 => ?_
      have hC4e := hC4.upC (e2530.trans e31)
      rw [Nd.more_names ht] at hC4e
      obtain ⟨ks, ls, gks, gls, hlen, hlike⟩ := like_cks (K := K) hC4e (hNewC.upC e31) hnM hnM (fun s => Iff.rfl) (fun s _ => rfl) (fun s hs => (ck_good hok4 hall4 hgM (by rw [Nd.more_names ht]; exact hs)).2)
      refine ⟨o4, p31, _, _, rfl, rfl, (e2530.trans e31) _ _ gf4, g31, .cons (.inl (eqdat_str (by decide +kernel))) (.cons (.inr ⟨cd4, kd2, ks, ls, rfl, rfl, hnkd, gks, gls, hlen, hlike⟩) .nil), ?_⟩
      walk_at "ss"
      exact ⟨⟨_, _, _, _, _, _, _, _, _, _, _, _, _, _, _, rfl⟩, eH (X25.trans (ExB.of (e2530.trans e31)))⟩
    · rintro σ' G ⟨⟨v1, v2, v3, v4, v5, v6, v7, v8, v9, v10, v11, v12, v13, v14, v15, rfl⟩, e⟩
      walk_at "ss"
      exact k G

end
theorem facts2 {P : Program} {w : World} {K : PySem.W.Frag} {h : Heap} {mg : Str → Option Value} {fa : Addr} (X : K.In h) (G : h.Ns mainGlobals mg) (hfa : mg "law" = some (.ref fa)) (c : He.SaysD faL fnL K) (hex : (exs K).all id = true) : ∃ fd : FuncData, (∀ (s : Shared) (v : Value), BindsTo s fd ⟨[v], []⟩ [("_law_script", v)]) ∧ ∀ base : Heap, K.In base → base.Ns mainGlobals mg → FnG P w K mg base CX0 33 fa fd ["_law_script"] (sp_law K) := by
  obtain ⟨fd0, D0⟩ := c.def_ 0 (d := d_NoFit_init) rfl
  have F0 : Fun K "__init__" "NoFit.__init__" s_NoFit_init (He.fAd K ("NoFit", some "__init__")) fd0 := fun_ofD D0
  have b0 := F0.binds (ps := ["self", "paper"]) fun _ _ _ _ _ _ us hl => match us, hl with | [_, _], _ => rfl
  obtain ⟨fd1, D1⟩ := c.def_ 1 (d := d_NoClock_init) rfl
  have F1 : Fun K "__init__" "NoClock.__init__" s_NoClock_init (He.fAd K ("NoClock", some "__init__")) fd1 := fun_ofD D1
  have b1 := F1.binds (ps := ["self", "name"]) fun _ _ _ _ _ _ us hl => match us, hl with | [_, _], _ => rfl
  obtain ⟨fd2, D2⟩ := c.def_ 2 (d := d_names_within) rfl
  have F2 : Fun K "names_within" "names_within" s_names_within (He.fAd K ("names_within", none)) fd2 := fun_ofD D2
  have b2 := F2.binds (ps := ["term"]) fun _ _ _ _ _ _ us hl => match us, hl with | [_], _ => rfl
  obtain ⟨fd3, D3⟩ := c.def_ 3 (d := d_mentioned) rfl
  have F3 : Fun K "mentioned" "mentioned" s_mentioned (He.fAd K ("mentioned", none)) fd3 := fun_ofD D3
  have b3 := F3.binds (ps := ["row"]) fun _ _ _ _ _ _ us hl => match us, hl with | [_], _ => rfl
  obtain ⟨fd4, D4⟩ := c.def_ 4 (d := d_clock_given) rfl
  have F4 : Fun K "clock_given" "clock_given" s_clock_given (He.fAd K ("clock_given", none)) fd4 := fun_ofD D4
  have b4 := F4.binds (ps := ["row", "clock"]) fun _ _ _ _ _ _ us hl => match us, hl with | [_, _], _ => rfl
  obtain ⟨fd5, D5⟩ := c.def_ 5 (d := d_named_rows) rfl
  have F5 : Fun K "named_rows" "named_rows" s_named_rows (He.fAd K ("named_rows", none)) fd5 := fun_ofD D5
  have b5 := F5.binds (ps := ["node"]) fun _ _ _ _ _ _ us hl => match us, hl with | [_], _ => rfl
  obtain ⟨fd6, D6⟩ := c.def_ 6 (d := d_names_told) rfl
  have F6 : Fun K "names_told" "names_told" s_names_told (He.fAd K ("names_told", none)) fd6 := fun_ofD D6
  have b6 := F6.binds (ps := ["node"]) fun _ _ _ _ _ _ us hl => match us, hl with | [_], _ => rfl
  obtain ⟨fd7, D7⟩ := c.def_ 7 (d := d_steps_of) rfl
  have F7 : Fun K "steps_of" "steps_of" s_steps_of (He.fAd K ("steps_of", none)) fd7 := fun_ofD D7
  have b7 := F7.binds (ps := ["node"]) fun _ _ _ _ _ _ us hl => match us, hl with | [_], _ => rfl
  obtain ⟨fd8, D8⟩ := c.def_ 8 (d := d_fitted) rfl
  have F8 : Fun K "fitted" "fitted" s_fitted (He.fAd K ("fitted", none)) fd8 := fun_ofD D8
  have b8 := F8.binds (ps := ["node"]) fun _ _ _ _ _ _ us hl => match us, hl with | [_], _ => rfl
  obtain ⟨fd9, D9⟩ := c.def_ 9 (d := d_clocks_of) rfl
  have F9 : Fun K "clocks_of" "clocks_of" s_clocks_of (He.fAd K ("clocks_of", none)) fd9 := fun_ofD D9
  have b9 := F9.binds (ps := ["node"]) fun _ _ _ _ _ _ us hl => match us, hl with | [_], _ => rfl
  obtain ⟨fd10, D10⟩ := c.def_ 10 (d := d_is_whole) rfl
  have F10 : Fun K "is_whole" "is_whole" s_is_whole (He.fAd K ("is_whole", none)) fd10 := fun_ofD D10
  have b10 := F10.binds (ps := ["thing"]) fun _ _ _ _ _ _ us hl => match us, hl with | [_], _ => rfl
  obtain ⟨fd11, D11⟩ := c.def_ 11 (d := d_is_within) rfl
  have F11 : Fun K "is_within" "is_within" s_is_within (He.fAd K ("is_within", none)) fd11 := fun_ofD D11
  have b11 := F11.binds (ps := ["thing", "low", "high"]) fun _ _ _ _ _ _ us hl => match us, hl with | [_, _, _], _ => rfl
  obtain ⟨fd12, D12⟩ := c.def_ 12 (d := d_is_name) rfl
  have F12 : Fun K "is_name" "is_name" s_is_name (He.fAd K ("is_name", none)) fd12 := fun_ofD D12
  have b12 := F12.binds (ps := ["thing"]) fun _ _ _ _ _ _ us hl => match us, hl with | [_], _ => rfl
  obtain ⟨fd13, D13⟩ := c.def_ 13 (d := d_is_pointed) rfl
  have F13 : Fun K "is_pointed" "is_pointed" s_is_pointed (He.fAd K ("is_pointed", none)) fd13 := fun_ofD D13
  have b13 := F13.binds (ps := ["thing"]) fun _ _ _ _ _ _ us hl => match us, hl with | [_], _ => rfl
  obtain ⟨fd14, D14⟩ := c.def_ 14 (d := d_is_value) rfl
  have F14 : Fun K "is_value" "is_value" s_is_value (He.fAd K ("is_value", none)) fd14 := fun_ofD D14
  have b14 := F14.binds (ps := ["thing"]) fun _ _ _ _ _ _ us hl => match us, hl with | [_], _ => rfl
  obtain ⟨fd15, D15⟩ := c.def_ 15 (d := d_ops_told) rfl
  have F15 : Fun K "ops_told" "ops_told" s_ops_told (He.fAd K ("ops_told", none)) fd15 := fun_ofD D15
  have b15 := F15.binds (ps := []) fun _ _ _ _ _ _ us hl => match us, hl with | [], _ => rfl
  obtain ⟨fd16, D16⟩ := c.def_ 16 (d := d_Term_parts) rfl
  have F16 : Fun K "parts" "Term.parts" s_Term_parts (He.fAd K ("Term", some "parts")) fd16 := fun_ofD D16
  have b16 := F16.binds (ps := ["self"]) fun _ _ _ _ _ _ us hl => match us, hl with | [_], _ => rfl
  obtain ⟨fd17, D17⟩ := c.def_ 17 (d := d_Term_names) rfl
  have F17 : Fun K "names" "Term.names" s_Term_names (He.fAd K ("Term", some "names")) fd17 := fun_ofD D17
  have b17 := F17.binds (ps := ["self"]) fun _ _ _ _ _ _ us hl => match us, hl with | [_], _ => rfl
  obtain ⟨fd18, D18⟩ := c.def_ 18 (d := d_Term_levels) rfl
  have F18 : Fun K "levels" "Term.levels" s_Term_levels (He.fAd K ("Term", some "levels")) fd18 := fun_ofD D18
  have b18 := F18.binds (ps := ["self"]) fun _ _ _ _ _ _ us hl => match us, hl with | [_], _ => rfl
  obtain ⟨fd19, D19⟩ := c.def_ 19 (d := d_need_term) rfl
  have F19 : Fun K "need_term" "need_term" s_need_term (He.fAd K ("need_term", none)) fd19 := fun_ofD D19
  have b19 := F19.binds (ps := ["thing"]) fun _ _ _ _ _ _ us hl => match us, hl with | [_], _ => rfl
  obtain ⟨fd20, D20⟩ := c.def_ 20 (d := d_Name_init) rfl
  have F20 : Fun K "__init__" "Name.__init__" s_Name_init (He.fAd K ("Name", some "__init__")) fd20 := fun_ofD D20
  have b20 := F20.binds (ps := ["self", "name"]) fun _ _ _ _ _ _ us hl => match us, hl with | [_, _], _ => rfl
  obtain ⟨fd21, D21⟩ := c.def_ 21 (d := d_Name_names) rfl
  have F21 : Fun K "names" "Name.names" s_Name_names (He.fAd K ("Name", some "names")) fd21 := fun_ofD D21
  have b21 := F21.binds (ps := ["self"]) fun _ _ _ _ _ _ us hl => match us, hl with | [_], _ => rfl
  obtain ⟨fd22, D22⟩ := c.def_ 22 (d := d_Name_told) rfl
  have F22 : Fun K "told" "Name.told" s_Name_told (He.fAd K ("Name", some "told")) fd22 := fun_ofD D22
  have b22 := F22.binds (ps := ["self"]) fun _ _ _ _ _ _ us hl => match us, hl with | [_], _ => rfl
  obtain ⟨fd23, D23⟩ := c.def_ 23 (d := d_Value_init) rfl
  have F23 : Fun K "__init__" "Value.__init__" s_Value_init (He.fAd K ("Value", some "__init__")) fd23 := fun_ofD D23
  have b23 := F23.binds (ps := ["self", "value"]) fun _ _ _ _ _ _ us hl => match us, hl with | [_, _], _ => rfl
  obtain ⟨fd24, D24⟩ := c.def_ 24 (d := d_Value_told) rfl
  have F24 : Fun K "told" "Value.told" s_Value_told (He.fAd K ("Value", some "told")) fd24 := fun_ofD D24
  have b24 := F24.binds (ps := ["self"]) fun _ _ _ _ _ _ us hl => match us, hl with | [_], _ => rfl
  obtain ⟨fd25, D25⟩ := c.def_ 25 (d := d_Two_init) rfl
  have F25 : Fun K "__init__" "Two.__init__" s_Two_init (He.fAd K ("Two", some "__init__")) fd25 := fun_ofD D25
  have b25 := F25.binds (ps := ["self", "op", "one", "other"]) fun _ _ _ _ _ _ us hl => match us, hl with | [_, _, _, _], _ => rfl
  obtain ⟨fd26, D26⟩ := c.def_ 26 (d := d_Two_parts) rfl
  have F26 : Fun K "parts" "Two.parts" s_Two_parts (He.fAd K ("Two", some "parts")) fd26 := fun_ofD D26
  have b26 := F26.binds (ps := ["self"]) fun _ _ _ _ _ _ us hl => match us, hl with | [_], _ => rfl
  obtain ⟨fd27, D27⟩ := c.def_ 27 (d := d_Two_told) rfl
  have F27 : Fun K "told" "Two.told" s_Two_told (He.fAd K ("Two", some "told")) fd27 := fun_ofD D27
  have b27 := F27.binds (ps := ["self"]) fun _ _ _ _ _ _ us hl => match us, hl with | [_], _ => rfl
  obtain ⟨fd28, D28⟩ := c.def_ 28 (d := d_Not_init) rfl
  have F28 : Fun K "__init__" "Not.__init__" s_Not_init (He.fAd K ("Not", some "__init__")) fd28 := fun_ofD D28
  have b28 := F28.binds (ps := ["self", "one"]) fun _ _ _ _ _ _ us hl => match us, hl with | [_, _], _ => rfl
  obtain ⟨fd29, D29⟩ := c.def_ 29 (d := d_Not_parts) rfl
  have F29 : Fun K "parts" "Not.parts" s_Not_parts (He.fAd K ("Not", some "parts")) fd29 := fun_ofD D29
  have b29 := F29.binds (ps := ["self"]) fun _ _ _ _ _ _ us hl => match us, hl with | [_], _ => rfl
  obtain ⟨fd30, D30⟩ := c.def_ 30 (d := d_Not_told) rfl
  have F30 : Fun K "told" "Not.told" s_Not_told (He.fAd K ("Not", some "told")) fd30 := fun_ofD D30
  have b30 := F30.binds (ps := ["self"]) fun _ _ _ _ _ _ us hl => match us, hl with | [_], _ => rfl
  obtain ⟨fd31, D31⟩ := c.def_ 31 (d := d_Pick_init) rfl
  have F31 : Fun K "__init__" "Pick.__init__" s_Pick_init (He.fAd K ("Pick", some "__init__")) fd31 := fun_ofD D31
  have b31 := F31.binds (ps := ["self", "by", "one", "other"]) fun _ _ _ _ _ _ us hl => match us, hl with | [_, _, _, _], _ => rfl
  obtain ⟨fd32, D32⟩ := c.def_ 32 (d := d_Pick_parts) rfl
  have F32 : Fun K "parts" "Pick.parts" s_Pick_parts (He.fAd K ("Pick", some "parts")) fd32 := fun_ofD D32
  have b32 := F32.binds (ps := ["self"]) fun _ _ _ _ _ _ us hl => match us, hl with | [_], _ => rfl
  obtain ⟨fd33, D33⟩ := c.def_ 33 (d := d_Pick_told) rfl
  have F33 : Fun K "told" "Pick.told" s_Pick_told (He.fAd K ("Pick", some "told")) fd33 := fun_ofD D33
  have b33 := F33.binds (ps := ["self"]) fun _ _ _ _ _ _ us hl => match us, hl with | [_], _ => rfl
  obtain ⟨fd34, D34⟩ := c.def_ 34 (d := d_simple_of) rfl
  have F34 : Fun K "simple_of" "simple_of" s_simple_of (He.fAd K ("simple_of", none)) fd34 := fun_ofD D34
  have b34 := F34.binds (ps := ["word", "thing"]) fun _ _ _ _ _ _ us hl => match us, hl with | [_, _], _ => rfl
  obtain ⟨fd35, D35⟩ := c.def_ 35 (d := d_made_of_told) rfl
  have F35 : Fun K "made_of_told" "made_of_told" s_made_of_told (He.fAd K ("made_of_told", none)) fd35 := fun_ofD D35
  have b35 := F35.binds (ps := ["told", "left"]) fun _ _ _ _ _ _ us hl => match us, hl with | [_, _], _ => rfl
  obtain ⟨fd36, D36⟩ := c.def_ 36 (d := d_term_of) rfl
  have F36 : Fun K "term_of" "term_of" s_term_of (He.fAd K ("term_of", none)) fd36 := fun_ofD D36
  have b36 := F36.binds (ps := ["told"]) fun _ _ _ _ _ _ us hl => match us, hl with | [_], _ => rfl
  obtain ⟨fd37, D37⟩ := c.def_ 37 (d := d_each_once) rfl
  have F37 : Fun K "each_once" "each_once" s_each_once (He.fAd K ("each_once", none)) fd37 := fun_ofD D37
  have b37 := F37.binds (ps := ["names"]) fun _ _ _ _ _ _ us hl => match us, hl with | [_], _ => rfl
  obtain ⟨fd38, D38⟩ := c.def_ 38 (d := d_Equation_init) rfl
  have F38 : Fun K "__init__" "Equation.__init__" s_Equation_init (He.fAd K ("Equation", some "__init__")) fd38 := fun_ofD D38
  have b38 := F38.binds (ps := ["self", "row"]) fun _ _ _ _ _ _ us hl => match us, hl with | [_, _], _ => rfl
  obtain ⟨fd39, D39⟩ := c.def_ 39 (d := d_Equation_told) rfl
  have F39 : Fun K "told" "Equation.told" s_Equation_told (He.fAd K ("Equation", some "told")) fd39 := fun_ofD D39
  have b39 := F39.binds (ps := ["self"]) fun _ _ _ _ _ _ us hl => match us, hl with | [_], _ => rfl
  obtain ⟨fd40, D40⟩ := c.def_ 40 (d := d_Equation_tells) rfl
  have F40 : Fun K "tells" "Equation.tells" s_Equation_tells (He.fAd K ("Equation", some "tells")) fd40 := fun_ofD D40
  have b40 := F40.binds (ps := ["self"]) fun _ _ _ _ _ _ us hl => match us, hl with | [_], _ => rfl
  obtain ⟨fd41, D41⟩ := c.def_ 41 (d := d_Equation_names) rfl
  have F41 : Fun K "names" "Equation.names" s_Equation_names (He.fAd K ("Equation", some "names")) fd41 := fun_ofD D41
  have b41 := F41.binds (ps := ["self"]) fun _ _ _ _ _ _ us hl => match us, hl with | [_], _ => rfl
  obtain ⟨fd42, D42⟩ := c.def_ 42 (d := d_Equation_term) rfl
  have F42 : Fun K "term" "Equation.term" s_Equation_term (He.fAd K ("Equation", some "term")) fd42 := fun_ofD D42
  have b42 := F42.binds (ps := ["self"]) fun _ _ _ _ _ _ us hl => match us, hl with | [_], _ => rfl
  obtain ⟨fd43, D43⟩ := c.def_ 43 (d := d_Plain_init) rfl
  have F43 : Fun K "__init__" "Plain.__init__" s_Plain_init (He.fAd K ("Plain", some "__init__")) fd43 := fun_ofD D43
  have b43 := F43.binds (ps := ["self", "row"]) fun _ _ _ _ _ _ us hl => match us, hl with | [_, _], _ => rfl
  obtain ⟨fd44, D44⟩ := c.def_ 44 (d := d_Plain_names) rfl
  have F44 : Fun K "names" "Plain.names" s_Plain_names (He.fAd K ("Plain", some "names")) fd44 := fun_ofD D44
  have b44 := F44.binds (ps := ["self"]) fun _ _ _ _ _ _ us hl => match us, hl with | [_], _ => rfl
  obtain ⟨fd45, D45⟩ := c.def_ 45 (d := d_Plain_term) rfl
  have F45 : Fun K "term" "Plain.term" s_Plain_term (He.fAd K ("Plain", some "term")) fd45 := fun_ofD D45
  have b45 := F45.binds (ps := ["self"]) fun _ _ _ _ _ _ us hl => match us, hl with | [_], _ => rfl
  obtain ⟨fd46, D46⟩ := c.def_ 46 (d := d_When_names) rfl
  have F46 : Fun K "names" "When.names" s_When_names (He.fAd K ("When", some "names")) fd46 := fun_ofD D46
  have b46 := F46.binds (ps := ["self"]) fun _ _ _ _ _ _ us hl => match us, hl with | [_], _ => rfl
  obtain ⟨fd47, D47⟩ := c.def_ 47 (d := d_Same_tells) rfl
  have F47 : Fun K "tells" "Same.tells" s_Same_tells (He.fAd K ("Same", some "tells")) fd47 := fun_ofD D47
  have b47 := F47.binds (ps := ["self"]) fun _ _ _ _ _ _ us hl => match us, hl with | [_], _ => rfl
  obtain ⟨fd48, D48⟩ := c.def_ 48 (d := d_Same_names) rfl
  have F48 : Fun K "names" "Same.names" s_Same_names (He.fAd K ("Same", some "names")) fd48 := fun_ofD D48
  have b48 := F48.binds (ps := ["self"]) fun _ _ _ _ _ _ us hl => match us, hl with | [_], _ => rfl
  obtain ⟨fd49, D49⟩ := c.def_ 49 (d := d_Call_tells) rfl
  have F49 : Fun K "tells" "Call.tells" s_Call_tells (He.fAd K ("Call", some "tells")) fd49 := fun_ofD D49
  have b49 := F49.binds (ps := ["self"]) fun _ _ _ _ _ _ us hl => match us, hl with | [_], _ => rfl
  obtain ⟨fd50, D50⟩ := c.def_ 50 (d := d_Call_names) rfl
  have F50 : Fun K "names" "Call.names" s_Call_names (He.fAd K ("Call", some "names")) fd50 := fun_ofD D50
  have b50 := F50.binds (ps := ["self"]) fun _ _ _ _ _ _ us hl => match us, hl with | [_], _ => rfl
  obtain ⟨fd51, D51⟩ := c.def_ 51 (d := d_are_pointed) rfl
  have F51 : Fun K "are_pointed" "are_pointed" s_are_pointed (He.fAd K ("are_pointed", none)) fd51 := fun_ofD D51
  have b51 := F51.binds (ps := ["thing", "least"]) fun _ _ _ _ _ _ us hl => match us, hl with | [_, _], _ => rfl
  obtain ⟨fd52, D52⟩ := c.def_ 52 (d := d_is_valued) rfl
  have F52 : Fun K "is_valued" "is_valued" s_is_valued (He.fAd K ("is_valued", none)) fd52 := fun_ofD D52
  have b52 := F52.binds (ps := ["row"]) fun _ _ _ _ _ _ us hl => match us, hl with | [_], _ => rfl
  obtain ⟨fd53, D53⟩ := c.def_ 53 (d := d_plain_of) rfl
  have F53 : Fun K "plain_of" "plain_of" s_plain_of (He.fAd K ("plain_of", none)) fd53 := fun_ofD D53
  have b53 := F53.binds (ps := ["row"]) fun _ _ _ _ _ _ us hl => match us, hl with | [_], _ => rfl
  obtain ⟨fd54, D54⟩ := c.def_ 54 (d := d_valued_of) rfl
  have F54 : Fun K "valued_of" "valued_of" s_valued_of (He.fAd K ("valued_of", none)) fd54 := fun_ofD D54
  have b54 := F54.binds (ps := ["row"]) fun _ _ _ _ _ _ us hl => match us, hl with | [_], _ => rfl
  obtain ⟨fd55, D55⟩ := c.def_ 55 (d := d_call_of) rfl
  have F55 : Fun K "call_of" "call_of" s_call_of (He.fAd K ("call_of", none)) fd55 := fun_ofD D55
  have b55 := F55.binds (ps := ["row"]) fun _ _ _ _ _ _ us hl => match us, hl with | [_], _ => rfl
  obtain ⟨fd56, D56⟩ := c.def_ 56 (d := d_made_of) rfl
  have F56 : Fun K "made_of" "made_of" s_made_of (He.fAd K ("made_of", none)) fd56 := fun_ofD D56
  have b56 := F56.binds (ps := ["row"]) fun _ _ _ _ _ _ us hl => match us, hl with | [_], _ => rfl
  obtain ⟨fd57, D57⟩ := c.def_ 57 (d := d_equation_of) rfl
  have F57 : Fun K "equation_of" "equation_of" s_equation_of (He.fAd K ("equation_of", none)) fd57 := fun_ofD D57
  have b57 := F57.binds (ps := ["told"]) fun _ _ _ _ _ _ us hl => match us, hl with | [_], _ => rfl
  obtain ⟨fd58, D58⟩ := c.def_ 58 (d := d_need_names) rfl
  have F58 : Fun K "need_names" "need_names" s_need_names (He.fAd K ("need_names", none)) fd58 := fun_ofD D58
  have b58 := F58.binds (ps := ["things"]) fun _ _ _ _ _ _ us hl => match us, hl with | [_], _ => rfl
  obtain ⟨fd59, D59⟩ := c.def_ 59 (d := d_equations_of) rfl
  have F59 : Fun K "equations_of" "equations_of" s_equations_of (He.fAd K ("equations_of", none)) fd59 := fun_ofD D59
  have b59 := F59.binds (ps := ["rows"]) fun _ _ _ _ _ _ us hl => match us, hl with | [_], _ => rfl
  obtain ⟨fd60, D60⟩ := c.def_ 60 (d := d_Node_init) rfl
  have F60 : Fun K "__init__" "Node.__init__" s_Node_init (He.fAd K ("Node", some "__init__")) fd60 := fun_ofD D60
  have b60 := F60.binds (ps := ["self", "name", "inputs", "outs", "rows"]) fun _ _ _ _ _ _ us hl => match us, hl with | [_, _, _, _, _], _ => rfl
  obtain ⟨fd61, D61⟩ := c.def_ 61 (d := d_Node_take_tellers) rfl
  have F61 : Fun K "take_tellers" "Node.take_tellers" s_Node_take_tellers (He.fAd K ("Node", some "take_tellers")) fd61 := fun_ofD D61
  have b61 := F61.binds (ps := ["self"]) fun _ _ _ _ _ _ us hl => match us, hl with | [_], _ => rfl
  obtain ⟨fd62, D62⟩ := c.def_ 62 (d := d_Node_need_told) rfl
  have F62 : Fun K "need_told" "Node.need_told" s_Node_need_told (He.fAd K ("Node", some "need_told")) fd62 := fun_ofD D62
  have b62 := F62.binds (ps := ["self"]) fun _ _ _ _ _ _ us hl => match us, hl with | [_], _ => rfl
  obtain ⟨fd63, D63⟩ := c.def_ 63 (d := d_Node_told) rfl
  have F63 : Fun K "told" "Node.told" s_Node_told (He.fAd K ("Node", some "told")) fd63 := fun_ofD D63
  have b63 := F63.binds (ps := ["self"]) fun _ _ _ _ _ _ us hl => match us, hl with | [_], _ => rfl
  obtain ⟨fd64, D64⟩ := c.def_ 64 (d := d_node_of) rfl
  have F64 : Fun K "node_of" "node_of" s_node_of (He.fAd K ("node_of", none)) fd64 := fun_ofD D64
  have b64 := F64.binds (ps := ["told"]) fun _ _ _ _ _ _ us hl => match us, hl with | [_], _ => rfl
  obtain ⟨fd65, D65⟩ := c.def_ 65 (d := d_cell_l) rfl
  have F65 : Fun K "_law_cell" "_law_cell" s_cell_l (He.fAd K ("_law_cell", none)) fd65 := fun_ofD D65
  have b65 := F65.binds (ps := ["_law_script", "_law_k"]) fun _ _ _ _ _ _ us hl => match us, hl with | [_, _], _ => rfl
  obtain ⟨fd66, D66⟩ := c.def_ 66 (d := d_begun_l) rfl
  have F66 : Fun K "_law_begun" "_law_begun" s_begun_l (He.fAd K ("_law_begun", none)) fd66 := fun_ofD D66
  have b66 := F66.binds (ps := ["_law_cell_here"]) fun _ _ _ _ _ _ us hl => match us, hl with | [_], _ => rfl
  obtain ⟨fd67, D67⟩ := c.def_ 67 (d := d_draw_l) rfl
  have F67 : Fun K "_law_draw" "_law_draw" s_draw_l (He.fAd K ("_law_draw", none)) fd67 := fun_ofD D67
  have b67 := F67.binds (ps := ["_law_well", "_law_many"]) fun _ _ _ _ _ _ us hl => match us, hl with | [_, _], _ => rfl
  obtain ⟨fd68, D68⟩ := c.def_ 68 (d := d_named_all_l) rfl
  have F68 : Fun K "_law_named_all" "_law_named_all" s_named_all_l (He.fAd K ("_law_named_all", none)) fd68 := fun_ofD D68
  have b68 := F68.binds (ps := ["_law_well", "_law_many"]) fun _ _ _ _ _ _ us hl => match us, hl with | [_, _], _ => rfl
  obtain ⟨fd69, D69⟩ := c.def_ 69 (d := d_formed_l) rfl
  have F69 : Fun K "_law_formed" "_law_formed" s_formed_l (He.fAd K ("_law_formed", none)) fd69 := fun_ofD D69
  have b69 := F69.binds (ps := ["_law_well", "_law_names"]) fun _ _ _ _ _ _ us hl => match us, hl with | [_, _], _ => rfl
  obtain ⟨fd70, D70⟩ := c.def_ 70 (d := d_some_value_l) rfl
  have F70 : Fun K "_law_some_value" "_law_some_value" s_some_value_l (He.fAd K ("_law_some_value", none)) fd70 := fun_ofD D70
  have b70 := F70.binds (ps := ["_law_well"]) fun _ _ _ _ _ _ us hl => match us, hl with | [_], _ => rfl
  obtain ⟨fd71, D71⟩ := c.def_ 71 (d := d_grown_l) rfl
  have F71 : Fun K "_law_grown" "_law_grown" s_grown_l (He.fAd K ("_law_grown", none)) fd71 := fun_ofD D71
  have b71 := F71.binds (ps := ["_law_well", "_law_x", "_law_clocks", "_law_form"]) fun _ _ _ _ _ _ us hl => match us, hl with | [_, _, _, _], _ => rfl
  obtain ⟨fd72, D72⟩ := c.def_ 72 (d := d_row_list_l) rfl
  have F72 : Fun K "_law_row_list" "_law_row_list" s_row_list_l (He.fAd K ("_law_row_list", none)) fd72 := fun_ofD D72
  have b72 := F72.binds (ps := ["_law_well", "_law_inputs", "_law_free", "_law_many"]) fun _ _ _ _ _ _ us hl => match us, hl with | [_, _, _, _], _ => rfl
  obtain ⟨fd73, D73⟩ := c.def_ 73 (d := d_spoilt_l) rfl
  have F73 : Fun K "_law_spoilt" "_law_spoilt" s_spoilt_l (He.fAd K ("_law_spoilt", none)) fd73 := fun_ofD D73
  have b73 := F73.binds (ps := ["_law_well", "_law_rows", "_law_names"]) fun _ _ _ _ _ _ us hl => match us, hl with | [_, _, _], _ => rfl
  obtain ⟨fd74, D74⟩ := c.def_ 74 (d := d_turned_l) rfl
  have F74 : Fun K "_law_turned" "_law_turned" s_turned_l (He.fAd K ("_law_turned", none)) fd74 := fun_ofD D74
  have b74 := F74.binds (ps := ["_law_well", "_law_rows"]) fun _ _ _ _ _ _ us hl => match us, hl with | [_, _], _ => rfl
  obtain ⟨fd75, D75⟩ := c.def_ 75 (d := d_told_names_l) rfl
  have F75 : Fun K "_law_told_names" "_law_told_names" s_told_names_l (He.fAd K ("_law_told_names", none)) fd75 := fun_ofD D75
  have b75 := F75.binds (ps := ["_law_rows"]) fun _ _ _ _ _ _ us hl => match us, hl with | [_], _ => rfl
  obtain ⟨fd76, D76⟩ := c.def_ 76 (d := d_built_l) rfl
  have F76 : Fun K "_law_built" "_law_built" s_built_l (He.fAd K ("_law_built", none)) fd76 := fun_ofD D76
  have b76 := F76.binds (ps := ["_law_well", "_law_spoils"]) fun _ _ _ _ _ _ us hl => match us, hl with | [_, _], _ => rfl
  obtain ⟨fd77, D77⟩ := c.def_ 77 (d := d_telling_l) rfl
  have F77 : Fun K "_law_telling" "_law_telling" s_telling_l (He.fAd K ("_law_telling", none)) fd77 := fun_ofD D77
  have b77 := F77.binds (ps := ["_law_deed", "_law_node"]) fun _ _ _ _ _ _ us hl => match us, hl with | [_, _], _ => rfl
  obtain ⟨fd78, D78⟩ := c.def_ 78 (d := d_word_l) rfl
  have F78 : Fun K "_law_word" "_law_word" s_word_l (He.fAd K ("_law_word", none)) fd78 := fun_ofD D78
  have b78 := F78.binds (ps := ["_law_told", "_law_found"]) fun _ _ _ _ _ _ us hl => match us, hl with | [_, _], _ => rfl
  obtain ⟨fd79, D79⟩ := c.def_ 79 (d := d_put_l) rfl
  have F79 : Fun K "_law_put" "_law_put" s_put_l (He.fAd K ("_law_put", none)) fd79 := fun_ofD D79
  have b79 := F79.binds (ps := ["_law_part", "_law_names"]) fun _ _ _ _ _ _ us hl => match us, hl with | [_, _], _ => rfl
  obtain ⟨fd80, D80⟩ := c.def_ 80 (d := d_renamed_l) rfl
  have F80 : Fun K "_law_renamed" "_law_renamed" s_renamed_l (He.fAd K ("_law_renamed", none)) fd80 := fun_ofD D80
  have b80 := F80.binds (ps := ["_law_row", "_law_names"]) fun _ _ _ _ _ _ us hl => match us, hl with | [_, _], _ => rfl
  obtain ⟨fd81, D81⟩ := c.def_ 81 (d := d_term_put_l) rfl
  have F81 : Fun K "_law_term_put" "_law_term_put" s_term_put_l (He.fAd K ("_law_term_put", none)) fd81 := fun_ofD D81
  have b81 := F81.binds (ps := ["_law_term", "_law_names"]) fun _ _ _ _ _ _ us hl => match us, hl with | [_, _], _ => rfl
  obtain ⟨fd82, D82⟩ := c.def_ 82 (d := d_more_l) rfl
  have F82 : Fun K "_law_more" "_law_more" s_more_l (He.fAd K ("_law_more", none)) fd82 := fun_ofD D82
  have b82 := F82.binds (ps := ["_law_well", "_law_told", "_law_clocks"]) fun _ _ _ _ _ _ us hl => match us, hl with | [_, _, _], _ => rfl
  obtain ⟨fd83, D83⟩ := c.def_ 83 (d := d_law) rfl
  have F83 : Fun K "law" "law" s_law (He.fAd K ("law", none)) fd83 := fun_ofD D83
  have b83 := F83.binds (ps := ["_law_script"]) fun _ _ _ _ _ _ us hl => match us, hl with | [_], _ => rfl
  obtain ⟨t_LETTERS, k_LETTERS⟩ := He.str_ok X G (c.fact 80 (f := .str "LETTERS" "abcdefghijklmnopqrstuvwxyz") rfl)
  obtain ⟨t_LONGEST, k_LONGEST⟩ := He.int_ok X G (c.fact 81 (f := .int "LONGEST" (8)) rfl)
  obtain ⟨t_MOST, k_MOST⟩ := He.int_ok X G (c.fact 82 (f := .int "MOST" (1000000000)) rfl)
  obtain ⟨t_MOST_LEVELS, k_MOST_LEVELS⟩ := He.int_ok X G (c.fact 83 (f := .int "MOST_LEVELS" (5)) rfl)
  obtain ⟨t_MOST_SIGNS, k_MOST_SIGNS⟩ := He.int_ok X G (c.fact 84 (f := .int "MOST_SIGNS" (80)) rfl)
  obtain ⟨t_TOLD_THINGS, k_TOLD_THINGS⟩ := He.int_ok X G (c.fact 87 (f := .int "TOLD_THINGS" (4)) rfl)
  have e := hfa.symm.trans (He.glo_ok X G (c.fact 47 (f := .glo "law") rfl))
  cases e
  have T : Txt K mg ⟨(He.fAd K ("NoFit", some "__init__")), fd0, (He.fAd K ("NoClock", some "__init__")), fd1, (He.fAd K ("names_within", none)), fd2, (He.fAd K ("mentioned", none)), fd3, (He.fAd K ("clock_given", none)), fd4, (He.fAd K ("named_rows", none)), fd5, (He.fAd K ("names_told", none)), fd6, (He.fAd K ("steps_of", none)), fd7, (He.fAd K ("fitted", none)), fd8, (He.fAd K ("clocks_of", none)), fd9, (He.fAd K ("is_whole", none)), fd10, (He.fAd K ("is_within", none)), fd11, (He.fAd K ("is_name", none)), fd12, (He.fAd K ("is_pointed", none)), fd13, (He.fAd K ("is_value", none)), fd14, (He.fAd K ("ops_told", none)), fd15, (He.fAd K ("Term", some "parts")), fd16, (He.fAd K ("Term", some "names")), fd17, (He.fAd K ("Term", some "levels")), fd18, (He.fAd K ("need_term", none)), fd19, (He.fAd K ("Name", some "__init__")), fd20, (He.fAd K ("Name", some "names")), fd21, (He.fAd K ("Name", some "told")), fd22, (He.fAd K ("Value", some "__init__")), fd23, (He.fAd K ("Value", some "told")), fd24, (He.fAd K ("Two", some "__init__")), fd25, (He.fAd K ("Two", some "parts")), fd26, (He.fAd K ("Two", some "told")), fd27, (He.fAd K ("Not", some "__init__")), fd28, (He.fAd K ("Not", some "parts")), fd29, (He.fAd K ("Not", some "told")), fd30, (He.fAd K ("Pick", some "__init__")), fd31, (He.fAd K ("Pick", some "parts")), fd32, (He.fAd K ("Pick", some "told")), fd33, (He.fAd K ("simple_of", none)), fd34, (He.fAd K ("made_of_told", none)), fd35, (He.fAd K ("term_of", none)), fd36, (He.fAd K ("each_once", none)), fd37, (He.fAd K ("Equation", some "__init__")), fd38, (He.fAd K ("Equation", some "told")), fd39, (He.fAd K ("Equation", some "tells")), fd40, (He.fAd K ("Equation", some "names")), fd41, (He.fAd K ("Equation", some "term")), fd42, (He.fAd K ("Plain", some "__init__")), fd43, (He.fAd K ("Plain", some "names")), fd44, (He.fAd K ("Plain", some "term")), fd45, (He.fAd K ("When", some "names")), fd46, (He.fAd K ("Same", some "tells")), fd47, (He.fAd K ("Same", some "names")), fd48, (He.fAd K ("Call", some "tells")), fd49, (He.fAd K ("Call", some "names")), fd50, (He.fAd K ("are_pointed", none)), fd51, (He.fAd K ("is_valued", none)), fd52, (He.fAd K ("plain_of", none)), fd53, (He.fAd K ("valued_of", none)), fd54, (He.fAd K ("call_of", none)), fd55, (He.fAd K ("made_of", none)), fd56, (He.fAd K ("equation_of", none)), fd57, (He.fAd K ("need_names", none)), fd58, (He.fAd K ("equations_of", none)), fd59, (He.fAd K ("Node", some "__init__")), fd60, (He.fAd K ("Node", some "take_tellers")), fd61, (He.fAd K ("Node", some "need_told")), fd62, (He.fAd K ("Node", some "told")), fd63, (He.fAd K ("node_of", none)), fd64, (He.fAd K ("_law_cell", none)), fd65, (He.fAd K ("_law_begun", none)), fd66, (He.fAd K ("_law_draw", none)), fd67, (He.fAd K ("_law_named_all", none)), fd68, (He.fAd K ("_law_formed", none)), fd69, (He.fAd K ("_law_some_value", none)), fd70, (He.fAd K ("_law_grown", none)), fd71, (He.fAd K ("_law_row_list", none)), fd72, (He.fAd K ("_law_spoilt", none)), fd73, (He.fAd K ("_law_turned", none)), fd74, (He.fAd K ("_law_told_names", none)), fd75, (He.fAd K ("_law_built", none)), fd76, (He.fAd K ("_law_telling", none)), fd77, (He.fAd K ("_law_word", none)), fd78, (He.fAd K ("_law_put", none)), fd79, (He.fAd K ("_law_renamed", none)), fd80, (He.fAd K ("_law_term_put", none)), fd81, (He.fAd K ("_law_more", none)), fd82, (He.fAd K ("law", none)), fd83, (He.ga K "OPS"), (He.ga K "OWN"), (He.ga K "BeatError"), (He.ga K "NoFit"), (He.ga K "NoClock"), (He.ga K "Term"), (He.ga K "Name"), (He.ga K "Value"), (He.ga K "Two"), (He.ga K "Not"), (He.ga K "Pick"), (He.ga K "Equation"), (He.ga K "Plain"), (He.ga K "Before"), (He.ga K "When"), (He.ga K "Hold"), (He.ga K "Like"), (He.ga K "Same"), (He.ga K "Call"), (He.ga K "Node")⟩ := ⟨F0,
    b0,
    F1,
    b1,
    F2,
    b2,
    (He.glo_ok X G (c.fact 0 (f := .glo "names_within") rfl)),
    F3,
    b3,
    (He.glo_ok X G (c.fact 1 (f := .glo "mentioned") rfl)),
    F4,
    b4,
    (He.glo_ok X G (c.fact 2 (f := .glo "clock_given") rfl)),
    F5,
    b5,
    (He.glo_ok X G (c.fact 3 (f := .glo "named_rows") rfl)),
    F6,
    b6,
    (He.glo_ok X G (c.fact 4 (f := .glo "names_told") rfl)),
    F7,
    b7,
    (He.glo_ok X G (c.fact 5 (f := .glo "steps_of") rfl)),
    F8,
    b8,
    (He.glo_ok X G (c.fact 6 (f := .glo "fitted") rfl)),
    F9,
    b9,
    (He.glo_ok X G (c.fact 7 (f := .glo "clocks_of") rfl)),
    F10,
    b10,
    (He.glo_ok X G (c.fact 8 (f := .glo "is_whole") rfl)),
    F11,
    b11,
    (He.glo_ok X G (c.fact 9 (f := .glo "is_within") rfl)),
    F12,
    b12,
    (He.glo_ok X G (c.fact 10 (f := .glo "is_name") rfl)),
    F13,
    b13,
    (He.glo_ok X G (c.fact 11 (f := .glo "is_pointed") rfl)),
    F14,
    b14,
    (He.glo_ok X G (c.fact 12 (f := .glo "is_value") rfl)),
    F15,
    b15,
    (He.glo_ok X G (c.fact 13 (f := .glo "ops_told") rfl)),
    F16,
    b16,
    (allAt hex 0 (b := PySem.W.isFn K (.ref (He.fAd K ("Term", some "parts")))) rfl),
    F17,
    b17,
    (allAt hex 1 (b := PySem.W.isFn K (.ref (He.fAd K ("Term", some "names")))) rfl),
    F18,
    b18,
    (allAt hex 2 (b := PySem.W.isFn K (.ref (He.fAd K ("Term", some "levels")))) rfl),
    F19,
    b19,
    (He.glo_ok X G (c.fact 14 (f := .glo "need_term") rfl)),
    F20,
    b20,
    (allAt hex 3 (b := PySem.W.isFn K (.ref (He.fAd K ("Name", some "__init__")))) rfl),
    F21,
    b21,
    (allAt hex 4 (b := PySem.W.isFn K (.ref (He.fAd K ("Name", some "names")))) rfl),
    F22,
    b22,
    (allAt hex 5 (b := PySem.W.isFn K (.ref (He.fAd K ("Name", some "told")))) rfl),
    F23,
    b23,
    (allAt hex 6 (b := PySem.W.isFn K (.ref (He.fAd K ("Value", some "__init__")))) rfl),
    F24,
    b24,
    (allAt hex 7 (b := PySem.W.isFn K (.ref (He.fAd K ("Value", some "told")))) rfl),
    F25,
    b25,
    (allAt hex 8 (b := PySem.W.isFn K (.ref (He.fAd K ("Two", some "__init__")))) rfl),
    F26,
    b26,
    (allAt hex 9 (b := PySem.W.isFn K (.ref (He.fAd K ("Two", some "parts")))) rfl),
    F27,
    b27,
    (allAt hex 10 (b := PySem.W.isFn K (.ref (He.fAd K ("Two", some "told")))) rfl),
    F28,
    b28,
    (allAt hex 11 (b := PySem.W.isFn K (.ref (He.fAd K ("Not", some "__init__")))) rfl),
    F29,
    b29,
    (allAt hex 12 (b := PySem.W.isFn K (.ref (He.fAd K ("Not", some "parts")))) rfl),
    F30,
    b30,
    (allAt hex 13 (b := PySem.W.isFn K (.ref (He.fAd K ("Not", some "told")))) rfl),
    F31,
    b31,
    (allAt hex 14 (b := PySem.W.isFn K (.ref (He.fAd K ("Pick", some "__init__")))) rfl),
    F32,
    b32,
    (allAt hex 15 (b := PySem.W.isFn K (.ref (He.fAd K ("Pick", some "parts")))) rfl),
    F33,
    b33,
    (allAt hex 16 (b := PySem.W.isFn K (.ref (He.fAd K ("Pick", some "told")))) rfl),
    F34,
    b34,
    (He.glo_ok X G (c.fact 15 (f := .glo "simple_of") rfl)),
    F35,
    b35,
    (He.glo_ok X G (c.fact 16 (f := .glo "made_of_told") rfl)),
    F36,
    b36,
    (He.glo_ok X G (c.fact 17 (f := .glo "term_of") rfl)),
    F37,
    b37,
    (He.glo_ok X G (c.fact 18 (f := .glo "each_once") rfl)),
    F38,
    b38,
    (allAt hex 17 (b := PySem.W.isFn K (.ref (He.fAd K ("Equation", some "__init__")))) rfl),
    F39,
    b39,
    (allAt hex 18 (b := PySem.W.isFn K (.ref (He.fAd K ("Equation", some "told")))) rfl),
    F40,
    b40,
    (allAt hex 19 (b := PySem.W.isFn K (.ref (He.fAd K ("Equation", some "tells")))) rfl),
    F41,
    b41,
    (allAt hex 20 (b := PySem.W.isFn K (.ref (He.fAd K ("Equation", some "names")))) rfl),
    F42,
    b42,
    (allAt hex 21 (b := PySem.W.isFn K (.ref (He.fAd K ("Equation", some "term")))) rfl),
    F43,
    b43,
    (allAt hex 22 (b := PySem.W.isFn K (.ref (He.fAd K ("Plain", some "__init__")))) rfl),
    F44,
    b44,
    (allAt hex 23 (b := PySem.W.isFn K (.ref (He.fAd K ("Plain", some "names")))) rfl),
    F45,
    b45,
    (allAt hex 24 (b := PySem.W.isFn K (.ref (He.fAd K ("Plain", some "term")))) rfl),
    F46,
    b46,
    (allAt hex 25 (b := PySem.W.isFn K (.ref (He.fAd K ("When", some "names")))) rfl),
    F47,
    b47,
    (allAt hex 26 (b := PySem.W.isFn K (.ref (He.fAd K ("Same", some "tells")))) rfl),
    F48,
    b48,
    (allAt hex 27 (b := PySem.W.isFn K (.ref (He.fAd K ("Same", some "names")))) rfl),
    F49,
    b49,
    (allAt hex 28 (b := PySem.W.isFn K (.ref (He.fAd K ("Call", some "tells")))) rfl),
    F50,
    b50,
    (allAt hex 29 (b := PySem.W.isFn K (.ref (He.fAd K ("Call", some "names")))) rfl),
    F51,
    b51,
    (He.glo_ok X G (c.fact 19 (f := .glo "are_pointed") rfl)),
    F52,
    b52,
    (He.glo_ok X G (c.fact 20 (f := .glo "is_valued") rfl)),
    F53,
    b53,
    (He.glo_ok X G (c.fact 21 (f := .glo "plain_of") rfl)),
    F54,
    b54,
    (He.glo_ok X G (c.fact 22 (f := .glo "valued_of") rfl)),
    F55,
    b55,
    (He.glo_ok X G (c.fact 23 (f := .glo "call_of") rfl)),
    F56,
    b56,
    (He.glo_ok X G (c.fact 24 (f := .glo "made_of") rfl)),
    F57,
    b57,
    (He.glo_ok X G (c.fact 25 (f := .glo "equation_of") rfl)),
    F58,
    b58,
    (He.glo_ok X G (c.fact 26 (f := .glo "need_names") rfl)),
    F59,
    b59,
    (He.glo_ok X G (c.fact 27 (f := .glo "equations_of") rfl)),
    F60,
    b60,
    (allAt hex 30 (b := PySem.W.isFn K (.ref (He.fAd K ("Node", some "__init__")))) rfl),
    F61,
    b61,
    (allAt hex 31 (b := PySem.W.isFn K (.ref (He.fAd K ("Node", some "take_tellers")))) rfl),
    F62,
    b62,
    (allAt hex 32 (b := PySem.W.isFn K (.ref (He.fAd K ("Node", some "need_told")))) rfl),
    F63,
    b63,
    (allAt hex 33 (b := PySem.W.isFn K (.ref (He.fAd K ("Node", some "told")))) rfl),
    F64,
    b64,
    (He.glo_ok X G (c.fact 28 (f := .glo "node_of") rfl)),
    F65,
    b65,
    (He.glo_ok X G (c.fact 29 (f := .glo "_law_cell") rfl)),
    F66,
    b66,
    (He.glo_ok X G (c.fact 30 (f := .glo "_law_begun") rfl)),
    F67,
    b67,
    (He.glo_ok X G (c.fact 31 (f := .glo "_law_draw") rfl)),
    F68,
    b68,
    (He.glo_ok X G (c.fact 32 (f := .glo "_law_named_all") rfl)),
    F69,
    b69,
    (He.glo_ok X G (c.fact 33 (f := .glo "_law_formed") rfl)),
    F70,
    b70,
    (He.glo_ok X G (c.fact 34 (f := .glo "_law_some_value") rfl)),
    F71,
    b71,
    (He.glo_ok X G (c.fact 35 (f := .glo "_law_grown") rfl)),
    F72,
    b72,
    (He.glo_ok X G (c.fact 36 (f := .glo "_law_row_list") rfl)),
    F73,
    b73,
    (He.glo_ok X G (c.fact 37 (f := .glo "_law_spoilt") rfl)),
    F74,
    b74,
    (He.glo_ok X G (c.fact 38 (f := .glo "_law_turned") rfl)),
    F75,
    b75,
    (He.glo_ok X G (c.fact 39 (f := .glo "_law_told_names") rfl)),
    F76,
    b76,
    (He.glo_ok X G (c.fact 40 (f := .glo "_law_built") rfl)),
    F77,
    b77,
    (He.glo_ok X G (c.fact 41 (f := .glo "_law_telling") rfl)),
    F78,
    b78,
    (He.glo_ok X G (c.fact 42 (f := .glo "_law_word") rfl)),
    F79,
    b79,
    (He.glo_ok X G (c.fact 43 (f := .glo "_law_put") rfl)),
    F80,
    b80,
    (He.glo_ok X G (c.fact 44 (f := .glo "_law_renamed") rfl)),
    F81,
    b81,
    (He.glo_ok X G (c.fact 45 (f := .glo "_law_term_put") rfl)),
    F82,
    b82,
    (He.glo_ok X G (c.fact 46 (f := .glo "_law_more") rfl)),
    F83,
    b83,
    (He.glo_ok X G (c.fact 47 (f := .glo "law") rfl)),
    (He.glo_ok X G (c.fact 48 (f := .glo "BeatError") rfl)),
    (allAt hex 34 (b := baseB K (He.ga K "BeatError")) rfl),
    (allAt hex 35 (b := PySem.W.excIn K (He.ga K "BeatError") [.type "ValueError", .type "Exception", .type "BaseException", .type "object"] "ValueError.__new__") rfl),
    (allAt hex 36 (b := PySem.W.keepIn K (.ref (He.ga K "BeatError"))) rfl),
    (allAt hex 37 (b := icB K (He.ga K "BeatError")) rfl),
    (He.glo_ok X G (c.fact 49 (f := .glo "NoFit") rfl)),
    (allAt hex 38 (b := exB K (He.ga K "NoFit") ["paper"]) rfl),
    (of_decide_eq_true (allAt hex 39 (b := decide (PySem.W.findIn K (.ref (He.ga K "NoFit")) "__init__" = some (some (.ref (He.fAd K ("NoFit", some "__init__")))))) rfl)),
    (of_decide_eq_true (allAt hex 40 (b := decide (PySem.W.typeIn K (.ref (He.fAd K ("NoFit", some "__init__"))) = some (.type "function"))) rfl)),
    (He.glo_ok X G (c.fact 50 (f := .glo "NoClock") rfl)),
    (allAt hex 41 (b := exB K (He.ga K "NoClock") ["name"]) rfl),
    (of_decide_eq_true (allAt hex 42 (b := decide (PySem.W.findIn K (.ref (He.ga K "NoClock")) "__init__" = some (some (.ref (He.fAd K ("NoClock", some "__init__")))))) rfl)),
    (of_decide_eq_true (allAt hex 43 (b := decide (PySem.W.typeIn K (.ref (He.fAd K ("NoClock", some "__init__"))) = some (.type "function"))) rfl)),
    (He.glo_ok X G (c.fact 51 (f := .glo "Term") rfl)),
    (He.glo_ok X G (c.fact 52 (f := .glo "Name") rfl)),
    (allAt hex 44 (b := tcB K (He.ga K "Name") ["name"]) rfl),
    (of_decide_eq_true (allAt hex 45 (b := decide (PySem.W.findIn K (.ref (He.ga K "Name")) "__init__" = some (some (.ref (He.fAd K ("Name", some "__init__")))))) rfl)),
    (of_decide_eq_true (allAt hex 46 (b := decide (PySem.W.findIn K (.ref (He.ga K "Name")) "parts" = some (some (.ref (He.fAd K ("Term", some "parts")))))) rfl)),
    (of_decide_eq_true (allAt hex 47 (b := decide (PySem.W.findIn K (.ref (He.ga K "Name")) "names" = some (some (.ref (He.fAd K ("Name", some "names")))))) rfl)),
    (of_decide_eq_true (allAt hex 48 (b := decide (PySem.W.findIn K (.ref (He.ga K "Name")) "levels" = some (some (.ref (He.fAd K ("Term", some "levels")))))) rfl)),
    (of_decide_eq_true (allAt hex 49 (b := decide (PySem.W.findIn K (.ref (He.ga K "Name")) "told" = some (some (.ref (He.fAd K ("Name", some "told")))))) rfl)),
    (He.glo_ok X G (c.fact 53 (f := .glo "Value") rfl)),
    (allAt hex 50 (b := tcB K (He.ga K "Value") ["amount"]) rfl),
    (of_decide_eq_true (allAt hex 51 (b := decide (PySem.W.findIn K (.ref (He.ga K "Value")) "__init__" = some (some (.ref (He.fAd K ("Value", some "__init__")))))) rfl)),
    (of_decide_eq_true (allAt hex 52 (b := decide (PySem.W.findIn K (.ref (He.ga K "Value")) "parts" = some (some (.ref (He.fAd K ("Term", some "parts")))))) rfl)),
    (of_decide_eq_true (allAt hex 53 (b := decide (PySem.W.findIn K (.ref (He.ga K "Value")) "names" = some (some (.ref (He.fAd K ("Term", some "names")))))) rfl)),
    (of_decide_eq_true (allAt hex 54 (b := decide (PySem.W.findIn K (.ref (He.ga K "Value")) "levels" = some (some (.ref (He.fAd K ("Term", some "levels")))))) rfl)),
    (of_decide_eq_true (allAt hex 55 (b := decide (PySem.W.findIn K (.ref (He.ga K "Value")) "told" = some (some (.ref (He.fAd K ("Value", some "told")))))) rfl)),
    (He.glo_ok X G (c.fact 54 (f := .glo "Two") rfl)),
    (allAt hex 56 (b := tcB K (He.ga K "Two") ["op", "one", "second"]) rfl),
    (of_decide_eq_true (allAt hex 57 (b := decide (PySem.W.findIn K (.ref (He.ga K "Two")) "__init__" = some (some (.ref (He.fAd K ("Two", some "__init__")))))) rfl)),
    (of_decide_eq_true (allAt hex 58 (b := decide (PySem.W.findIn K (.ref (He.ga K "Two")) "parts" = some (some (.ref (He.fAd K ("Two", some "parts")))))) rfl)),
    (of_decide_eq_true (allAt hex 59 (b := decide (PySem.W.findIn K (.ref (He.ga K "Two")) "names" = some (some (.ref (He.fAd K ("Term", some "names")))))) rfl)),
    (of_decide_eq_true (allAt hex 60 (b := decide (PySem.W.findIn K (.ref (He.ga K "Two")) "levels" = some (some (.ref (He.fAd K ("Term", some "levels")))))) rfl)),
    (of_decide_eq_true (allAt hex 61 (b := decide (PySem.W.findIn K (.ref (He.ga K "Two")) "told" = some (some (.ref (He.fAd K ("Two", some "told")))))) rfl)),
    (He.glo_ok X G (c.fact 55 (f := .glo "Not") rfl)),
    (allAt hex 62 (b := tcB K (He.ga K "Not") ["one"]) rfl),
    (of_decide_eq_true (allAt hex 63 (b := decide (PySem.W.findIn K (.ref (He.ga K "Not")) "__init__" = some (some (.ref (He.fAd K ("Not", some "__init__")))))) rfl)),
    (of_decide_eq_true (allAt hex 64 (b := decide (PySem.W.findIn K (.ref (He.ga K "Not")) "parts" = some (some (.ref (He.fAd K ("Not", some "parts")))))) rfl)),
    (of_decide_eq_true (allAt hex 65 (b := decide (PySem.W.findIn K (.ref (He.ga K "Not")) "names" = some (some (.ref (He.fAd K ("Term", some "names")))))) rfl)),
    (of_decide_eq_true (allAt hex 66 (b := decide (PySem.W.findIn K (.ref (He.ga K "Not")) "levels" = some (some (.ref (He.fAd K ("Term", some "levels")))))) rfl)),
    (of_decide_eq_true (allAt hex 67 (b := decide (PySem.W.findIn K (.ref (He.ga K "Not")) "told" = some (some (.ref (He.fAd K ("Not", some "told")))))) rfl)),
    (He.glo_ok X G (c.fact 56 (f := .glo "Pick") rfl)),
    (allAt hex 68 (b := tcB K (He.ga K "Pick") ["by", "one", "second"]) rfl),
    (of_decide_eq_true (allAt hex 69 (b := decide (PySem.W.findIn K (.ref (He.ga K "Pick")) "__init__" = some (some (.ref (He.fAd K ("Pick", some "__init__")))))) rfl)),
    (of_decide_eq_true (allAt hex 70 (b := decide (PySem.W.findIn K (.ref (He.ga K "Pick")) "parts" = some (some (.ref (He.fAd K ("Pick", some "parts")))))) rfl)),
    (of_decide_eq_true (allAt hex 71 (b := decide (PySem.W.findIn K (.ref (He.ga K "Pick")) "names" = some (some (.ref (He.fAd K ("Term", some "names")))))) rfl)),
    (of_decide_eq_true (allAt hex 72 (b := decide (PySem.W.findIn K (.ref (He.ga K "Pick")) "levels" = some (some (.ref (He.fAd K ("Term", some "levels")))))) rfl)),
    (of_decide_eq_true (allAt hex 73 (b := decide (PySem.W.findIn K (.ref (He.ga K "Pick")) "told" = some (some (.ref (He.fAd K ("Pick", some "told")))))) rfl)),
    (He.glo_ok X G (c.fact 57 (f := .glo "Equation") rfl)),
    (allAt hex 74 (b := tcB K (He.ga K "Equation") ["told_row"]) rfl),
    (of_decide_eq_true (allAt hex 75 (b := decide (PySem.W.findIn K (.ref (He.ga K "Equation")) "__init__" = some (some (.ref (He.fAd K ("Equation", some "__init__")))))) rfl)),
    (of_decide_eq_true (allAt hex 76 (b := decide (PySem.W.findIn K (.ref (He.ga K "Equation")) "names" = some (some (.ref (He.fAd K ("Equation", some "names")))))) rfl)),
    (of_decide_eq_true (allAt hex 77 (b := decide (PySem.W.findIn K (.ref (He.ga K "Equation")) "told" = some (some (.ref (He.fAd K ("Equation", some "told")))))) rfl)),
    (of_decide_eq_true (allAt hex 78 (b := decide (PySem.W.findIn K (.ref (He.ga K "Equation")) "tells" = some (some (.ref (He.fAd K ("Equation", some "tells")))))) rfl)),
    (of_decide_eq_true (allAt hex 79 (b := decide (PySem.W.findIn K (.ref (He.ga K "Equation")) "term" = some (some (.ref (He.fAd K ("Equation", some "term")))))) rfl)),
    (He.glo_ok X G (c.fact 58 (f := .glo "Plain") rfl)),
    (allAt hex 80 (b := tcB K (He.ga K "Plain") ["told_row", "kept_term"]) rfl),
    (of_decide_eq_true (allAt hex 81 (b := decide (PySem.W.findIn K (.ref (He.ga K "Plain")) "__init__" = some (some (.ref (He.fAd K ("Plain", some "__init__")))))) rfl)),
    (of_decide_eq_true (allAt hex 82 (b := decide (PySem.W.findIn K (.ref (He.ga K "Plain")) "names" = some (some (.ref (He.fAd K ("Plain", some "names")))))) rfl)),
    (of_decide_eq_true (allAt hex 83 (b := decide (PySem.W.findIn K (.ref (He.ga K "Plain")) "told" = some (some (.ref (He.fAd K ("Equation", some "told")))))) rfl)),
    (of_decide_eq_true (allAt hex 84 (b := decide (PySem.W.findIn K (.ref (He.ga K "Plain")) "tells" = some (some (.ref (He.fAd K ("Equation", some "tells")))))) rfl)),
    (of_decide_eq_true (allAt hex 85 (b := decide (PySem.W.findIn K (.ref (He.ga K "Plain")) "term" = some (some (.ref (He.fAd K ("Plain", some "term")))))) rfl)),
    (He.glo_ok X G (c.fact 59 (f := .glo "Before") rfl)),
    (allAt hex 86 (b := tcB K (He.ga K "Before") ["told_row"]) rfl),
    (of_decide_eq_true (allAt hex 87 (b := decide (PySem.W.findIn K (.ref (He.ga K "Before")) "__init__" = some (some (.ref (He.fAd K ("Equation", some "__init__")))))) rfl)),
    (of_decide_eq_true (allAt hex 88 (b := decide (PySem.W.findIn K (.ref (He.ga K "Before")) "names" = some (some (.ref (He.fAd K ("Equation", some "names")))))) rfl)),
    (of_decide_eq_true (allAt hex 89 (b := decide (PySem.W.findIn K (.ref (He.ga K "Before")) "told" = some (some (.ref (He.fAd K ("Equation", some "told")))))) rfl)),
    (of_decide_eq_true (allAt hex 90 (b := decide (PySem.W.findIn K (.ref (He.ga K "Before")) "tells" = some (some (.ref (He.fAd K ("Equation", some "tells")))))) rfl)),
    (of_decide_eq_true (allAt hex 91 (b := decide (PySem.W.findIn K (.ref (He.ga K "Before")) "term" = some (some (.ref (He.fAd K ("Equation", some "term")))))) rfl)),
    (He.glo_ok X G (c.fact 60 (f := .glo "When") rfl)),
    (allAt hex 92 (b := tcB K (He.ga K "When") ["told_row"]) rfl),
    (of_decide_eq_true (allAt hex 93 (b := decide (PySem.W.findIn K (.ref (He.ga K "When")) "__init__" = some (some (.ref (He.fAd K ("Equation", some "__init__")))))) rfl)),
    (of_decide_eq_true (allAt hex 94 (b := decide (PySem.W.findIn K (.ref (He.ga K "When")) "names" = some (some (.ref (He.fAd K ("When", some "names")))))) rfl)),
    (of_decide_eq_true (allAt hex 95 (b := decide (PySem.W.findIn K (.ref (He.ga K "When")) "told" = some (some (.ref (He.fAd K ("Equation", some "told")))))) rfl)),
    (of_decide_eq_true (allAt hex 96 (b := decide (PySem.W.findIn K (.ref (He.ga K "When")) "tells" = some (some (.ref (He.fAd K ("Equation", some "tells")))))) rfl)),
    (of_decide_eq_true (allAt hex 97 (b := decide (PySem.W.findIn K (.ref (He.ga K "When")) "term" = some (some (.ref (He.fAd K ("Equation", some "term")))))) rfl)),
    (He.glo_ok X G (c.fact 61 (f := .glo "Hold") rfl)),
    (allAt hex 98 (b := tcB K (He.ga K "Hold") ["told_row"]) rfl),
    (of_decide_eq_true (allAt hex 99 (b := decide (PySem.W.findIn K (.ref (He.ga K "Hold")) "__init__" = some (some (.ref (He.fAd K ("Equation", some "__init__")))))) rfl)),
    (of_decide_eq_true (allAt hex 100 (b := decide (PySem.W.findIn K (.ref (He.ga K "Hold")) "names" = some (some (.ref (He.fAd K ("Equation", some "names")))))) rfl)),
    (of_decide_eq_true (allAt hex 101 (b := decide (PySem.W.findIn K (.ref (He.ga K "Hold")) "told" = some (some (.ref (He.fAd K ("Equation", some "told")))))) rfl)),
    (of_decide_eq_true (allAt hex 102 (b := decide (PySem.W.findIn K (.ref (He.ga K "Hold")) "tells" = some (some (.ref (He.fAd K ("Equation", some "tells")))))) rfl)),
    (of_decide_eq_true (allAt hex 103 (b := decide (PySem.W.findIn K (.ref (He.ga K "Hold")) "term" = some (some (.ref (He.fAd K ("Equation", some "term")))))) rfl)),
    (He.glo_ok X G (c.fact 62 (f := .glo "Like") rfl)),
    (allAt hex 104 (b := tcB K (He.ga K "Like") ["told_row"]) rfl),
    (of_decide_eq_true (allAt hex 105 (b := decide (PySem.W.findIn K (.ref (He.ga K "Like")) "__init__" = some (some (.ref (He.fAd K ("Equation", some "__init__")))))) rfl)),
    (of_decide_eq_true (allAt hex 106 (b := decide (PySem.W.findIn K (.ref (He.ga K "Like")) "names" = some (some (.ref (He.fAd K ("Equation", some "names")))))) rfl)),
    (of_decide_eq_true (allAt hex 107 (b := decide (PySem.W.findIn K (.ref (He.ga K "Like")) "told" = some (some (.ref (He.fAd K ("Equation", some "told")))))) rfl)),
    (of_decide_eq_true (allAt hex 108 (b := decide (PySem.W.findIn K (.ref (He.ga K "Like")) "tells" = some (some (.ref (He.fAd K ("Equation", some "tells")))))) rfl)),
    (of_decide_eq_true (allAt hex 109 (b := decide (PySem.W.findIn K (.ref (He.ga K "Like")) "term" = some (some (.ref (He.fAd K ("Equation", some "term")))))) rfl)),
    (He.glo_ok X G (c.fact 63 (f := .glo "Same") rfl)),
    (allAt hex 110 (b := tcB K (He.ga K "Same") ["told_row"]) rfl),
    (of_decide_eq_true (allAt hex 111 (b := decide (PySem.W.findIn K (.ref (He.ga K "Same")) "__init__" = some (some (.ref (He.fAd K ("Equation", some "__init__")))))) rfl)),
    (of_decide_eq_true (allAt hex 112 (b := decide (PySem.W.findIn K (.ref (He.ga K "Same")) "names" = some (some (.ref (He.fAd K ("Same", some "names")))))) rfl)),
    (of_decide_eq_true (allAt hex 113 (b := decide (PySem.W.findIn K (.ref (He.ga K "Same")) "told" = some (some (.ref (He.fAd K ("Equation", some "told")))))) rfl)),
    (of_decide_eq_true (allAt hex 114 (b := decide (PySem.W.findIn K (.ref (He.ga K "Same")) "tells" = some (some (.ref (He.fAd K ("Same", some "tells")))))) rfl)),
    (of_decide_eq_true (allAt hex 115 (b := decide (PySem.W.findIn K (.ref (He.ga K "Same")) "term" = some (some (.ref (He.fAd K ("Equation", some "term")))))) rfl)),
    (He.glo_ok X G (c.fact 64 (f := .glo "Call") rfl)),
    (allAt hex 116 (b := tcB K (He.ga K "Call") ["told_row"]) rfl),
    (of_decide_eq_true (allAt hex 117 (b := decide (PySem.W.findIn K (.ref (He.ga K "Call")) "__init__" = some (some (.ref (He.fAd K ("Equation", some "__init__")))))) rfl)),
    (of_decide_eq_true (allAt hex 118 (b := decide (PySem.W.findIn K (.ref (He.ga K "Call")) "names" = some (some (.ref (He.fAd K ("Call", some "names")))))) rfl)),
    (of_decide_eq_true (allAt hex 119 (b := decide (PySem.W.findIn K (.ref (He.ga K "Call")) "told" = some (some (.ref (He.fAd K ("Equation", some "told")))))) rfl)),
    (of_decide_eq_true (allAt hex 120 (b := decide (PySem.W.findIn K (.ref (He.ga K "Call")) "tells" = some (some (.ref (He.fAd K ("Call", some "tells")))))) rfl)),
    (of_decide_eq_true (allAt hex 121 (b := decide (PySem.W.findIn K (.ref (He.ga K "Call")) "term" = some (some (.ref (He.fAd K ("Equation", some "term")))))) rfl)),
    (He.glo_ok X G (c.fact 65 (f := .glo "Node") rfl)),
    (allAt hex 122 (b := tcB K (He.ga K "Node") ["name", "kept_inputs", "kept_outs", "kept_rows", "tellers"]) rfl),
    (of_decide_eq_true (allAt hex 123 (b := decide (PySem.W.findIn K (.ref (He.ga K "Node")) "__init__" = some (some (.ref (He.fAd K ("Node", some "__init__")))))) rfl)),
    (of_decide_eq_true (allAt hex 124 (b := decide (PySem.W.findIn K (.ref (He.ga K "Node")) "told" = some (some (.ref (He.fAd K ("Node", some "told")))))) rfl)),
    (of_decide_eq_true (allAt hex 125 (b := decide (PySem.W.findIn K (.ref (He.ga K "Node")) "take_tellers" = some (some (.ref (He.fAd K ("Node", some "take_tellers")))))) rfl)),
    (of_decide_eq_true (allAt hex 126 (b := decide (PySem.W.findIn K (.ref (He.ga K "Node")) "need_told" = some (some (.ref (He.fAd K ("Node", some "need_told")))))) rfl)),
    (allAt hex 127 (b := difB [(He.ga K "Name"), (He.ga K "Value"), (He.ga K "Two"), (He.ga K "Not"), (He.ga K "Pick")]) rfl),
    (allAt hex 128 (b := subB K (He.ga K "Name") (He.ga K "Term")) rfl),
    (allAt hex 129 (b := subB K (He.ga K "Value") (He.ga K "Term")) rfl),
    (allAt hex 130 (b := subB K (He.ga K "Two") (He.ga K "Term")) rfl),
    (allAt hex 131 (b := subB K (He.ga K "Not") (He.ga K "Term")) rfl),
    (allAt hex 132 (b := subB K (He.ga K "Pick") (He.ga K "Term")) rfl),
    (allAt hex 133 (b := difB [(He.ga K "Plain"), (He.ga K "Name"), (He.ga K "Value"), (He.ga K "Two"), (He.ga K "Not"), (He.ga K "Pick")]) rfl),
    (allAt hex 134 (b := difB [(He.ga K "Plain"), (He.ga K "Before"), (He.ga K "Hold"), (He.ga K "Like"), (He.ga K "When"), (He.ga K "Same"), (He.ga K "Call")]) rfl),
    (allAt hex 135 (b := difB [(He.ga K "Node"), (He.ga K "Name"), (He.ga K "Value"), (He.ga K "Two"), (He.ga K "Not"), (He.ga K "Pick")]) rfl),
    (allAt hex 136 (b := difB [(He.ga K "Node"), (He.ga K "Plain"), (He.ga K "Before"), (He.ga K "Hold"), (He.ga K "Like"), (He.ga K "When"), (He.ga K "Same"), (He.ga K "Call")]) rfl),
    (allAt hex 137 (b := kitTab K [(He.ga K "Plain"), (He.ga K "Before"), (He.ga K "Hold"), (He.ga K "Like"), (He.ga K "When"), (He.ga K "Same"), (He.ga K "Call")] (He.ga K "Equation")) rfl),
    (allAt hex 138 (b := cmB K (He.ga K "Equation") (He.fAd K ("Equation", some "__init__")) "__init__") rfl),
    (of_decide_eq_true (allAt hex 139 (b := decide (PySem.W.exmOne K (.ref (He.ga K "NoFit")) (.ref (He.ga K "NoFit")) = some true)) rfl)),
    (of_decide_eq_true (allAt hex 140 (b := decide (PySem.W.exmOne K (.ref (He.ga K "NoClock")) (.ref (He.ga K "NoFit")) = some false)) rfl)),
    (of_decide_eq_true (allAt hex 141 (b := decide (PySem.W.exmOne K (.ref (He.ga K "NoClock")) (.ref (He.ga K "NoClock")) = some true)) rfl)),
    (of_decide_eq_true (allAt hex 142 (b := decide (PySem.W.kitOne K (.ref (He.ga K "NoFit")) (.ref (He.ga K "NoClock")) = some false)) rfl)),
    (of_decide_eq_true (allAt hex 143 (b := decide (PySem.W.kitOne K (.ref (He.ga K "NoFit")) (.ref (He.ga K "BeatError")) = some true)) rfl)),
    (of_decide_eq_true (allAt hex 144 (b := decide (PySem.W.kitOne K (.ref (He.ga K "NoFit")) (.type "ValueError") = some true)) rfl)),
    (He.free_ok X G (c.fact 66 (f := .free "ValueError") rfl)),
    (He.free_ok X G (c.fact 67 (f := .free "all") rfl)),
    (He.free_ok X G (c.fact 68 (f := .free "bool") rfl)),
    (He.free_ok X G (c.fact 69 (f := .free "dict") rfl)),
    (He.free_ok X G (c.fact 70 (f := .free "int") rfl)),
    (He.free_ok X G (c.fact 71 (f := .free "isinstance") rfl)),
    (He.free_ok X G (c.fact 72 (f := .free "len") rfl)),
    (He.free_ok X G (c.fact 73 (f := .free "list") rfl)),
    (He.free_ok X G (c.fact 74 (f := .free "max") rfl)),
    (He.free_ok X G (c.fact 75 (f := .free "min") rfl)),
    (He.free_ok X G (c.fact 76 (f := .free "range") rfl)),
    (He.free_ok X G (c.fact 77 (f := .free "str") rfl)),
    (He.free_ok X G (c.fact 78 (f := .free "tuple") rfl)),
    (He.free_ok X G (c.fact 79 (f := .free "zip") rfl)),
    ⟨_, k_LETTERS, ⟨_, rfl⟩⟩,
    ⟨_, k_LONGEST, ⟨_, rfl⟩⟩,
    ⟨_, k_MOST, ⟨_, rfl⟩⟩,
    ⟨_, k_MOST_LEVELS, ⟨_, rfl⟩⟩,
    ⟨_, k_MOST_SIGNS, ⟨_, rfl⟩⟩,
    ⟨_, He.glo_ok X G (c.fact 85 (f := .glo "OPS") rfl), rfl⟩,
    (tupB_ok (allAt hex 145 (b := tupB K (He.ga K "OPS") ["+", "-", "*", "/", "mod", "<", "=", "&", "|"]) rfl)),
    ⟨_, He.glo_ok X G (c.fact 86 (f := .glo "OWN") rfl), rfl⟩,
    (tupB_ok (allAt hex 146 (b := tupB K (He.ga K "OWN") ["node", "in", "out", "before", "when", "hold", "like", "same", "call", "true", "false", "mod", "beat", "desk"]) rfl)),
    ⟨_, k_TOLD_THINGS, ⟨_, rfl⟩⟩⟩
  have bb := FunD.bindsA (ps := ["_law_script"]) D83 fun _ _ _ _ _ _ us hl => match us, hl with | [_], _ => rfl
  exact ⟨_, fun s v => bb s [v] rfl, fun base _ _ => ok_law T⟩
end Toy
open PySem PySem.W PySem.Calls PyProof.Rows in
set_option maxHeartbeats 0 in
theorem PySem.Challenge.cw_beatrows_k56_whole_clocks_in_any_order_holds : PySem.Challenge.rw_beatrows_k56_whole_clocks_in_any_order.Holds := by
  w_on; o_law
  refine HandSHeadRun.head_any (r := Toy.RW) (q := view Toy.RW.prog [92]) (H := Toy.hk) (ob := Toy.ob) (M := 20000) (loose := Toy.loose) (d := HandSHeadRun.topDef Toy.RW.prog 92) (kwd := []) Toy.ob_eq
    (by kernel_rfl) (fun s => by kernel_rfl) Toy.run (by kernel_rfl) (by kernel_rfl) (by kernel_rfl) (by rfl)
    (by first | assumption | decide +kernel) (by decide +kernel) ⟨rfl, rfl, rfl, rfl, rfl, by decide +kernel⟩ ?hw ?hc
  case hw => w_witness2
  case hc =>
    refine L2.walk_ofEG (l := PySem.Challenge.rw_beatrows_k56_whole_clocks_in_any_order) (n := 63) (k := 33) (x := "_law_script") (CX := L2.CX0) rfl (by decide) (by kernel_rfl) ⟨rfl, by decide, by decide⟩ ?F (fun _ _ _ _ z => z)
    intro w mg fa h Y G hmg0
    obtain ⟨K, KX, c⟩ := Y
    have hmg : mg ("law" : PySem.Str) = some (.ref fa) := by
      have e : (HandSHeadRun.topDef Toy.RW.prog 92).name = ("law" : PySem.Str) := by kernel_rfl
      rw [← e]
      exact hmg0
    obtain ⟨fd, hb, hF⟩ := Toy.facts2 (P := PySem.Challenge.rw_beatrows_k56_whole_clocks_in_any_order.prog) (w := w) KX G hmg c.1 c.2
    exact ⟨K, fd, Toy.sp_law K, KX, hb, fun H a ns hl _ hS => ⟨a, ns, rfl, hS, hl, fun _ => rfl⟩, hF⟩
