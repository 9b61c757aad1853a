import PyProof.Rows.All
import Wide.All
import OpenK.AllK
import Wide.FinOn
import KE.KExcIs
import HandS.ForMost
import HandS.IsInst
import HandS.Flow
import HandS.Evl
import HandS.Walk
import HandS.Replace
import HandS.Deep
import HandS.SortKw
import HandS.Wide
import HandS.ExcOwn
import HandS.WordsExc
import HandS.TryMany
import HandS.More
import KE.DatumOrd
import HandS.DeepEq
import KE.KEqDict
import HandS.Exc
import HandS.ExcField
import HandS.ExcInit
import HandS.ExcValue
import HandS.Defaults
import HandS.ListItems
import HandS.TupAny
import HandS.SetKeys
import HandS.Style
import HandS.Finally
import HandS.SuiteRaise
import HandS.Head0
import HandS.Head1
import HandS.Head2
import HandS.HeadEnd
import HandS.HeadHook1
import HandS.HeadHook2
import HandS.HeadHook3
import HandS.HeadHook4
import PySem.Challenge.RW_beatrows_k34_nodes_told
set_option Elab.async false
set_option linter.all false
set_option maxRecDepth 100000
set_option maxHeartbeats 4000000
/-! ### own small rules -/
namespace L2
open PySem PySem.Spec PyProof.Rows
section
variable {X : Cx}
theorem pe_gcst {x : Str} {v : V} {pos : Pos} (hg : Gl X x) (h : ∃ u, X.mg x = some u ∧ RelV v u) (hd : (x == ("__debug__" : Str)) = false := by decide) : PE X (.Name x pos) (tC v) :=
  let ⟨_, hm, r⟩ := h
  pe_glob hg hm r hd
/-- divmod by any divisor but nought, below 2^30 -/
theorem call_divmodN : CallR X (.builtin "divmod") (fun xs H Q => ∃ i j : Int, xs = [.int i, .int j] ∧ CDivN i j ∧ ∀ p, H p = none → Q (.ref p) (upd H p (.tup [.int (i.fdiv j), .int (i.fmod j)]))) := by
  intro pins s σ H xs us Q I r h
  obtain ⟨i, j, rfl, ⟨h1, h2⟩, q⟩ := h
  obtain ⟨u, w', rfl, ⟨t, rfl⟩, ⟨t', rfl⟩⟩ := vals2 r
  refine divmod_int h1 ?_ (.inl (PyProof.noPylong_small h2))
  have hn := I.hok.fresh (Nat.le_refl s.heap.objs.size)
  refine ⟨.ref s.heap.objs.size, upd H s.heap.objs.size (.tup [.int (i.fdiv j), .int (i.fmod j)]), ?_, rfl, q _ hn⟩
  refine I.laid (fun b o e => Heap.get?_push_of_some _ e) (Nat.le_refl _) ?_
  refine ⟨by show 2 ≤ sizeLine; decide, [.int (i.fdiv j) s.toks, .int (i.fmod j) (s.toks + 1)], ?_, ?_⟩
  · exact .cons ⟨_, rfl⟩ (.cons ⟨_, rfl⟩ .nil)
  · exact ⟨_, Heap.get?_push_size s.heap rfl, rfl, 0, rfl⟩
end
/-- a new tuple, a new list of these, all else kept -/
def RetT (xs : List V) (H : Hp) (Q : VK) : Prop := ∀ p H2, H p = none → Evl.Ex H H2 → H2 p = some (.tup xs) → Q (.ref p) H2
def RetL (xs : List V) (H : Hp) (Q : VK) : Prop := ∀ p H2, H p = none → Evl.Ex H H2 → H2 p = some (.lst xs) → Q (.ref p) H2
def RetV (v : V) (H : Hp) (Q : VK) : Prop := ∀ H2, Evl.Ex H H2 → Q v H2
theorem RetT.up {xs : List V} {H0 H : Hp} {Q : VK} (k : RetT xs H0 Q) (e : Evl.Ex H0 H) : RetT xs H Q := fun p H2 hp e2 h2 => k p H2 (Evl.fresh_back e hp) (e.trans e2) h2
theorem RetL.up {xs : List V} {H0 H : Hp} {Q : VK} (k : RetL xs H0 Q) (e : Evl.Ex H0 H) : RetL xs H Q := fun p H2 hp e2 h2 => k p H2 (Evl.fresh_back e hp) (e.trans e2) h2
theorem RetV.up {v : V} {H0 H : Hp} {Q : VK} (k : RetV v H0 Q) (e : Evl.Ex H0 H) : RetV v H Q := fun H2 e2 => k H2 (e.trans e2)
def NewT (xs : List V) (H : Hp) (Q : VK) : Prop := xs.length ≤ sizeLine ∧ ∀ p, H p = none → Q (.ref p) (upd H p (.tup xs))
def NewL (xs : List V) (H : Hp) (Q : VK) : Prop := xs.length ≤ sizeLine ∧ ∀ p, H p = none → Q (.ref p) (upd H p (.lst xs))
theorem newT {xs : List V} {H : Hp} {Q : VK} (k : RetT xs H Q) (hz : xs.length ≤ 100000 := by exact Nat.le_of_ble_eq_true rfl) : NewT xs H Q := ⟨Evl.sz_of hz, fun p hp => k p _ hp (Evl.Ex.new hp) upd_same⟩
theorem newL {xs : List V} {H : Hp} {Q : VK} (k : RetL xs H Q) (hz : xs.length ≤ 100000 := by exact Nat.le_of_ble_eq_true rfl) : NewL xs H Q := ⟨Evl.sz_of hz, fun p hp => k p _ hp (Evl.Ex.new hp) upd_same⟩
theorem if_tt {c : Bool} {A B : Prop} (hc : c = true) (h : A) : if c = true then A else B := by rw [if_pos hc]; exact h
theorem if_ff {c : Bool} {A B : Prop} (hc : c = false) (h : B) : if c = true then A else B := by rw [hc]; exact iteF h
theorem if_nt {A B : Prop} (h : B) : if (!true) = true then A else B := iteF h
theorem if_nf {A B : Prop} (h : A) : if (!false) = true then A else B := iteT h
theorem if_cs {c : Bool} {A B : Prop} (h1 : c = true → A) (h2 : c = false → B) : if c = true then A else B := by
  cases c with
  | true => exact iteT (h1 rfl)
  | false => exact iteF (h2 rfl)
theorem kb_ii : kitB "int" "int" = some true := by decide +kernel
theorem kb_bi : kitB "bool" "int" = some true := by decide +kernel
theorem kb_ib : kitB "int" "bool" = some false := by decide +kernel
theorem kb_bb : kitB "bool" "bool" = some true := by decide +kernel
theorem ty_int {K : PySem.W.Frag} {H : Hp} (i : Int) : TyX K H (.int i) (.type "int") := .base (.int i)
theorem ty_bl {K : PySem.W.Frag} {H : Hp} (b : Bool) : TyX K H (.bl b) (.type "bool") := .base (.bl b)
theorem ty_str {K : PySem.W.Frag} {H : Hp} (b : Str) : TyX K H (.str b) (.type "str") := .base (.str b)
theorem ty_non {K : PySem.W.Frag} {H : Hp} : TyX K H .non (.type "NoneType") := .base .non
theorem ty_tup {K : PySem.W.Frag} {H : Hp} {a : Addr} {xs : List V} (h : H a = some (.tup xs)) : TyX K H (.ref a) (.type "tuple") := .base (.tup h)
theorem ty_lst {K : PySem.W.Frag} {H : Hp} {a : Addr} {xs : List V} (h : H a = some (.lst xs)) : TyX K H (.ref a) (.type "list") := .base (.lst h)
/-- isinstance of a thing of a built-in type -/
theorem isi {K : PySem.W.Frag} {H : Hp} {Q : VK} {x : V} {a b : String} {r : Bool} (h : TyX K H x (.type a)) (e : kitB a b = some r) (q : Q (.bl r) H) : rIsi K [x, .ty b] H Q :=
  ⟨x, .ty b, .type a, .type b, r, rfl, .ty b, h, kit_ty e, q⟩
end L2

/-! ### readings, one step each (the goal's head tells which) -/
namespace L2
open PySem PySem.Spec PyProof.Rows
section
variable {K : PySem.W.Frag} {σ : St} {H : Hp} {Q : VK} {B : Bool → Hp → Prop} {ta tb tc te : TE} {t u : TT} {tA : TA} {D : Ends} {s1 s2 : TS} {g : TG} {gs : TGs} {v : V} {r : R2}
theorem c_var {i : Nat} (h : σ[i]? = some (some v)) (q : Q v H) : tVar i σ H Q := ⟨v, h, q⟩
theorem c_c (q : Q v H) : tC v σ H Q := q
theorem c_op (h : ta σ H fun x H1 => tb σ H1 fun y H2 => r x y H2 Q) : tOp r ta tb σ H Q := h
theorem c_un {f : V → Hp → VK → Prop} (h : ta σ H fun x H1 => f x H1 Q) : tUn f ta σ H Q := h
theorem c_test (h : te σ H fun x H1 => ∃ k, x = .bl k ∧ B k H1) : tTest te σ H B := h
theorem c_b (h : te σ H fun x H1 => ∃ k, x = .bl k ∧ B k H1) : tB te σ H B := h
theorem c_and (h : t σ H fun c H1 => if c = true then u σ H1 B else B false H1) : tAnd t u σ H B := h
theorem c_or (h : t σ H fun c H1 => if c = true then B true H1 else u σ H1 B) : tOr t u σ H B := h
theorem c_not (h : t σ H fun c H1 => B (!c) H1) : tNot t σ H B := h
theorem c_andV (h : ta σ H fun x H1 => ∃ c, x = .bl c ∧ if c = true then tb σ H1 Q else Q (.bl false) H1) : tAndV ta tb σ H Q := h
theorem c_orV (h : ta σ H fun x H1 => ∃ c, x = .bl c ∧ if c = true then Q (.bl true) H1 else tb σ H1 Q) : tOrV ta tb σ H Q := h
theorem c_notV (h : ta σ H fun x H1 => ∃ c, x = .bl c ∧ Q (.bl (!c)) H1) : tNotV ta σ H Q := h
theorem c_if (h : t σ H fun c H1 => if c = true then ta σ H1 Q else tb σ H1 Q) : tIf t ta tb σ H Q := h
theorem c_orT (h : ta σ H fun x H1 => ∃ k, TruV K x H1 k ∧ if k = true then Q x H1 else tb σ H1 Q) : tOrT K ta tb σ H Q := h
theorem c_andT (h : ta σ H fun x H1 => ∃ k, TruV K x H1 k ∧ if k = true then tb σ H1 Q else Q x H1) : tAndT K ta tb σ H Q := h
theorem c_notT (h : ta σ H fun x H1 => ∃ k, TruV K x H1 k ∧ Q (.bl (!k)) H1) : tNotT K ta σ H Q := h
theorem c_yes (h : B true H) : tYes σ H B := h
theorem c_nil {q : List V → Hp → Prop} (h : q [] H) : tNil σ H q := h
theorem c_cons {q : List V → Hp → Prop} (h : ta σ H fun x H1 => tA σ H1 fun xs H2 => q (x :: xs) H2) : tCons ta tA σ H q := h
theorem c_tup (h : tA σ H fun xs H1 => NewT xs H1 Q) : tTup tA σ H Q := h
theorem c_lst (h : tA σ H fun xs H1 => NewL xs H1 Q) : tLst tA σ H Q := h
theorem c_call {sp : Sp} {E : XK} (h : tA σ H fun vs H1 => sp vs H1 Q E) : tCall sp [] E tA σ H Q := by
  show tA σ H fun vs H1 => sp (vs ++ []) H1 Q E
  simp only [List.append_nil]
  exact h
theorem c_cb {f : List V → Hp → VK → Prop} (h : tA σ H fun vs H1 => f vs H1 Q) : tCB f tA σ H Q := h
theorem c_sl {f : V → Option Int → Option Int → Hp → VK → Prop} {tl th : TO} (h : te σ H fun x H1 => tl σ H1 fun l H2 => th σ H2 fun u H3 => f x l u H3 Q) : tSl f te tl th σ H Q := h
theorem c_noPart {q : Option Int → Hp → Prop} (h : q none H) : tNoPart σ H q := h
theorem c_part {q : Option Int → Hp → Prop} (h : te σ H fun x H1 => ∃ i, x = .int i ∧ q (some i) H1) : tPart te σ H q := h
theorem c_bm {T : String} {f : V → List V → Hp → VK → Prop} (h : te σ H fun x H1 => tyV K T x H1 ∧ tA σ H1 fun xs H2 => f x xs H2 Q) : tBM K T f te tA σ H Q := h
theorem c_bm0 {T : String} {f : V → List V → Hp → VK → Prop} (h : te σ H fun x H1 => tyV K T x H1 ∧ f x [] H1 Q) : tBM0 K T f te σ H Q := h
theorem c_m0 {f : V → List V → Hp → VK → Prop} (h : te σ H fun x H1 => (∃ a, x = .str a) ∧ f x [] H1 Q) : tM0 f te σ H Q := h
theorem c_m1 {f : V → List V → Hp → VK → Prop} (h : ta σ H fun x H1 => (∃ a, x = .str a) ∧ tb σ H1 fun y H2 => f x [y] H2 Q) : tM1 f ta tb σ H Q := h
theorem c_chain {r' : R2} (h : ta σ H fun x H1 => tb σ H1 fun y H2 => r x y H2 fun z H3 => ∃ k, z = .bl k ∧ (if k = true then tc σ H3 fun w' H4 => r' y w' H4 Q else Q (.bl false) H3)) : tChain r r' ta tb tc σ H Q := h
/-! statements -/
theorem c_next (h : D.nx σ H) : tNext D σ H := h
theorem c_seq (h : s1 { D with nx := s2 D } σ H) : tSeq s1 s2 D σ H := h
theorem c_asg (h : te σ H fun x H1 => g x σ H1 D.nx) : tAsg te g D σ H := h
theorem c_ret (h : te σ H D.rt) : tRet te D σ H := h
theorem c_retN (h : D.rt .non H) : tRetN D σ H := h
theorem c_ifS (h : t σ H fun b H1 => if b = true then s1 D σ H1 else s2 D σ H1) : tIfS t s1 s2 D σ H := h
theorem c_drop (h : te σ H fun _ H1 => D.nx σ H1) : tDrop te D σ H := h
theorem c_break (h : D.bk σ H) : tBreak D σ H := h
theorem c_cont (h : D.ct σ H) : tCont D σ H := h
theorem c_nx {nx : St → Hp → Prop} {rt : VK} {bk ct : St → Hp → Prop} (h : nx σ H) : Ends.nx ⟨nx, rt, bk, ct⟩ σ H := h
theorem c_rt {nx : St → Hp → Prop} {rt : VK} {bk ct : St → Hp → Prop} (h : rt v H) : Ends.rt ⟨nx, rt, bk, ct⟩ v H := h
theorem c_bk {nx : St → Hp → Prop} {rt : VK} {bk ct : St → Hp → Prop} (h : bk σ H) : Ends.bk ⟨nx, rt, bk, ct⟩ σ H := h
theorem c_ct {nx : St → Hp → Prop} {rt : VK} {bk ct : St → Hp → Prop} (h : ct σ H) : Ends.ct ⟨nx, rt, bk, ct⟩ σ H := h
/-! as they stand (a cheap look ahead of c_nx ..) -/
theorem d_nx (h : D.nx σ H) : D.nx σ H := h
theorem d_bk (h : D.bk σ H) : D.bk σ H := h
theorem d_ct (h : D.ct σ H) : D.ct σ H := h
theorem d_rt (h : D.rt v H) : D.rt v H := h
theorem c_gName {i : Nat} {q : St → Hp → Prop} (h : q (σ.set i (some v)) H) : gName i v σ H q := h
theorem c_gTup {n : Nat} {a : Addr} {xs : List V} {q : St → Hp → Prop} (hs : SqT K H a xs) (hl : xs.length = n) (h : gs xs σ H q) : gTup K n gs (.ref a) σ H q := ⟨a, xs, rfl, hs, hl, h⟩
theorem c_gCons {vs : List V} {q : St → Hp → Prop} (h : g v σ H fun σ' H' => gs vs σ' H' q) : gCons g gs (v :: vs) σ H q := ⟨v, vs, rfl, h⟩
theorem c_gNil {q : St → Hp → Prop} (h : q σ H) : gNil [] σ H q := ⟨rfl, h⟩
theorem c_gSub {to ti : TE} {f : TSet} {q : St → Hp → Prop} (h : to σ H fun o H1 => ti σ H1 fun i H2 => f o i v H2 fun H3 => q σ H3) : gSub to ti f v σ H q := h
theorem c_cut {M : St → Hp → Prop} (h : s1 { D with nx := M } σ H) (k : ∀ σ' H', M σ' H' → s2 D σ' H') : Evl.tCut s1 s2 D σ H := ⟨M, h, k⟩
/-! operations on values -/
theorem c_I0 {f : Int → Int → V} {i j : Int} (q : Q (f i j) H) : rI0 f (.int i) (.int j) H Q := ⟨i, j, rfl, rfl, q⟩
theorem c_I {C : Int → Int → Prop} {f : Int → Int → V} {i j : Int} (hc : C i j) (q : Q (f i j) H) : rI C f (.int i) (.int j) H Q := ⟨i, j, rfl, rfl, hc, q⟩
theorem c_U {f : Int → V} {i : Int} (q : Q (f i) H) : rU f (.int i) H Q := ⟨i, rfl, q⟩
theorem c_eq {x y : V} (h : scal x y = true) (q : Q (.bl (decide (x = y))) H) : rEq x y H Q := ⟨h, q⟩
theorem c_ne {x y : V} (h : scal x y = true) (q : Q (.bl (!decide (x = y))) H) : rNe x y H Q := ⟨h, q⟩
theorem c_ixL {p : Addr} {xs : List V} {i : Int} (h : SqL K H p xs) (ha : atI xs i = some v) (q : Q v H) : rIxL K (.ref p) (.int i) H Q := ⟨p, xs, i, v, rfl, rfl, h, ha, q⟩
theorem c_ixT {p : Addr} {xs : List V} {i : Int} (h : SqT K H p xs) (ha : atI xs i = some v) (q : Q v H) : rIxT K (.ref p) (.int i) H Q := ⟨p, xs, i, v, rfl, rfl, h, ha, q⟩
theorem c_setL {p : Addr} {xs : List V} {k : Int} {j : Nat} {q : Hp → Prop} (h : H p = some (.lst xs)) (hj : ixN xs.length k = some j) (h2 : q (upd H p (.lst (xs.set j v)))) : rSetL (.ref p) (.int k) v H q := ⟨p, xs, k, j, rfl, rfl, h, hj, h2⟩
theorem c_in {x : V} {p : Addr} {xs : List V} (h : SqL K H p xs ∨ SqT K H p xs) (hx : flatV x = true) (ha : xs.all flatV = true) (q : Q (.bl (inV x xs)) H) : rIn K false x (.ref p) H Q := ⟨p, xs, rfl, h, hx, ha, q⟩
theorem c_notin {x : V} {p : Addr} {xs : List V} (h : SqL K H p xs ∨ SqT K H p xs) (hx : flatV x = true) (ha : xs.all flatV = true) (q : Q (.bl (!inV x xs)) H) : rIn K true x (.ref p) H Q := ⟨p, xs, rfl, h, hx, ha, q⟩
theorem c_cat {l b : Addr} {xs zs : List V} (h : H l = some (.lst xs)) (h' : H b = some (.lst zs)) (k : RetL (xs ++ zs) H Q) (hz : xs.length + zs.length ≤ 100000 := by exact Nat.le_of_ble_eq_true rfl) : rCat (.ref l) (.ref b) H Q :=
  ⟨l, b, xs, zs, rfl, rfl, h, h', Evl.sz_of hz, fun p hp => k p _ hp (Evl.Ex.new hp) upd_same⟩
end
end L2

/-! ### == of tuples and lists of flat things -/
namespace L2
open PySem PySem.Spec PyProof.Rows
def dOf : V → PyData
  | .non => .none
  | .bl b => .bool b
  | .int i => .int i
  | .str x => .str x
  | _ => .none
/-- flat, its signs within the line -/
def okV : V → Bool
  | .non => true
  | .bl _ => true
  | .int _ => true
  | .str x => PyData.strOk x
  | _ => false
theorem okV_flat {v : V} (h : okV v = true) : flatV v = true := by
  cases v <;> first | rfl | exact absurd h Bool.false_ne_true
theorem okL_flat {xs : List V} (h : xs.all okV = true) : xs.all flatV = true := by
  rw [List.all_eq_true] at h ⊢
  exact fun x hx => okV_flat (h x hx)
def eqL : List V → List V → Bool
  | [], [] => true
  | x :: xs, y :: ys => eqV x y && eqL xs ys
  | _, _ => false
theorem dp_flat {K : PySem.W.Frag} {H : Hp} {v : V} (h : flatV v = true) : Dp K H v (dOf v) := by
  cases v with
  | non => exact .non
  | bl b => exact .bl b
  | int i => exact .int i
  | str x => exact .str x
  | _ => exact absurd h Bool.false_ne_true
theorem dpAll_flat {K : PySem.W.Frag} {H : Hp} : ∀ {xs : List V}, xs.all flatV = true → DpAll K H xs (xs.map dOf)
  | [], _ => .nil
  | x :: xs, h => by
    rw [List.all_cons, Bool.and_eq_true] at h
    exact .cons (dp_flat h.1) (dpAll_flat h.2)
theorem eqv_flat {a b : V} (ha : flatV a = true) (hb : flatV b = true) : PyData.eqv (dOf a) (dOf b) = eqV a b := by
  cases a <;> first | exact absurd ha Bool.false_ne_true | (cases b <;> first | exact absurd hb Bool.false_ne_true | simp [dOf, PyData.eqv, eqV])
theorem eqvAll_flat : ∀ {xs ys : List V}, xs.all flatV = true → ys.all flatV = true → PyData.eqvAll (xs.map dOf) (ys.map dOf) = eqL xs ys
  | [], [], _, _ => by simp [PyData.eqvAll, eqL]
  | [], _ :: _, _, _ => by simp [PyData.eqvAll, eqL]
  | _ :: _, [], _, _ => by simp [PyData.eqvAll, eqL]
  | x :: xs, y :: ys, h, h' => by
    rw [List.all_cons, Bool.and_eq_true] at h h'
    rw [List.map_cons, List.map_cons, PyData.eqvAll, eqv_flat h.1 h'.1, eqvAll_flat h.2 h'.2] <;> rfl
theorem flat_lay {v : V} (ho : okV v = true) : (dOf v).canLay0 = true ∧ (dOf v).depth ≤ 1 := by
  cases v <;> first | exact absurd ho Bool.false_ne_true | (simp [okV] at ho; simp [dOf, PyData.canLay0, PyData.depth, ho]) | simp [dOf, PyData.canLay0, PyData.depth]
theorem flat_layAll : ∀ {xs : List V}, xs.all okV = true → PyData.canLayAll0 (xs.map dOf) = true ∧ PyData.depthAll (xs.map dOf) ≤ 1
  | [], _ => by simp [PyData.canLayAll0, PyData.depthAll]
  | x :: xs, ho => by
    rw [List.all_cons, Bool.and_eq_true] at ho
    have h := flat_lay (v := x) ho.1
    have h2 := flat_layAll (xs := xs) ho.2
    rw [List.map_cons, PyData.canLayAll0, PyData.depthAll, h.1, h2.1]
    refine ⟨rfl, ?_⟩
    have := h.2
    have := h2.2
    omega
theorem shaped_tup {xs : List V} (ho : xs.all okV = true) : SeqAt.shaped (.tuple (xs.map dOf)) = true := by
  have h := flat_layAll (xs := xs) ho
  have h2 := h.2
  unfold SeqAt.shaped
  rw [PyData.canLay0, PyData.depth, h.1, Bool.true_and, decide_eq_true_eq]
  omega
theorem shaped_lst {xs : List V} (ho : xs.all okV = true) : SeqAt.shaped (.list (xs.map dOf)) = true := by
  have h := flat_layAll (xs := xs) ho
  have h2 := h.2
  unfold SeqAt.shaped
  rw [PyData.canLay0, PyData.depth, h.1, Bool.true_and, decide_eq_true_eq]
  omega
section
variable {K : PySem.W.Frag} {H : Hp} {Q : VK} {p q : Addr} {xs ys : List V}
theorem c_eqT (h : SqT K H p xs) (h' : SqT K H q ys) (f : xs.all okV = true) (f' : ys.all okV = true) (k : Q (.bl (eqL xs ys)) H) : rEqD K (.ref p) (.ref q) H Q :=
  ⟨_, _, .tup h (dpAll_flat (okL_flat f)), .tup h' (dpAll_flat (okL_flat f')), shaped_tup f, shaped_tup f', by rw [PyData.eqv, eqvAll_flat (okL_flat f) (okL_flat f')]; exact k⟩
theorem c_neT (h : SqT K H p xs) (h' : SqT K H q ys) (f : xs.all okV = true) (f' : ys.all okV = true) (k : Q (.bl (!eqL xs ys)) H) : rNeD K (.ref p) (.ref q) H Q :=
  ⟨_, _, .tup h (dpAll_flat (okL_flat f)), .tup h' (dpAll_flat (okL_flat f')), shaped_tup f, shaped_tup f', by rw [PyData.eqv, eqvAll_flat (okL_flat f) (okL_flat f')]; exact k⟩
theorem c_eqLs (h : SqL K H p xs) (h' : SqL K H q ys) (f : xs.all okV = true) (f' : ys.all okV = true) (k : Q (.bl (eqL xs ys)) H) : rEqD K (.ref p) (.ref q) H Q :=
  ⟨_, _, .lst h (dpAll_flat (okL_flat f)), .lst h' (dpAll_flat (okL_flat f')), shaped_lst f, shaped_lst f', by rw [PyData.eqv, eqvAll_flat (okL_flat f) (okL_flat f')]; exact k⟩
theorem c_neLs (h : SqL K H p xs) (h' : SqL K H q ys) (f : xs.all okV = true) (f' : ys.all okV = true) (k : Q (.bl (!eqL xs ys)) H) : rNeD K (.ref p) (.ref q) H Q :=
  ⟨_, _, .lst h (dpAll_flat (okL_flat f)), .lst h' (dpAll_flat (okL_flat f')), shaped_lst f, shaped_lst f', by rw [PyData.eqv, eqvAll_flat (okL_flat f) (okL_flat f')]; exact k⟩
theorem eqV_refl {v : V} (h : flatV v = true) : eqV v v = true := by
  cases v <;> first | exact absurd h Bool.false_ne_true | simp [eqV]
theorem eqL_refl : ∀ {xs : List V}, xs.all flatV = true → eqL xs xs = true
  | [], _ => rfl
  | x :: xs, h => by
    rw [List.all_cons, Bool.and_eq_true] at h
    rw [eqL, eqV_refl h.1, eqL_refl h.2] <;> rfl
end
/-! ### the law's box -/
def BoxAt (H : Hp) (b : Addr) : Prop := ∃ x y z : Int, 0 ≤ x ∧ H b = some (.lst [.int x, .int y, .int z])
/-- all but b is kept -/
def ExB (b : Addr) (H H' : Hp) : Prop := ∀ a o, a ≠ b → H a = some o → H' a = some o
theorem ExB.refl (b : Addr) (H : Hp) : ExB b H H := fun _ _ _ h => h
theorem ExB.trans {b : Addr} {H H1 H2 : Hp} (e : ExB b H H1) (e2 : ExB b H1 H2) : ExB b H H2 := fun a o n h => e2 a o n (e a o n h)
theorem ExB.ex {b : Addr} {H H1 H2 : Hp} (e : ExB b H H1) (e2 : Evl.Ex H1 H2) : ExB b H H2 := fun a o n h => e2 a o (e a o n h)
theorem ExB.of {b : Addr} {H H1 : Hp} (e : Evl.Ex H H1) : ExB b H H1 := fun a o _ h => e a o h
theorem ExB.upd {b : Addr} {H : Hp} {o : HO} : ExB b H (upd H b o) := fun a u n h => by rw [upd_ne n]; exact h
theorem BoxAt.ex {H H' : Hp} {b : Addr} (h : BoxAt H b) (e : Evl.Ex H H') : BoxAt H' b := let ⟨x, y, z, p, q⟩ := h; ⟨x, y, z, p, e _ _ q⟩
/-- what did not stand before b was made is kept through ExB b -/
theorem ExB.tot {b : Addr} {H0 H H' : Hp} (e : Evl.Ex H0 H) (n : H0 b = none) (e2 : ExB b H H') : Evl.Ex H0 H' := fun a o h => e2 a o (ne_of_none h n) (e a o h)
theorem ExB.lst {K : PySem.W.Frag} {b a : Addr} {H H' : Hp} {xs : List V} (e : ExB b H H') (n : a ≠ b) (h : SqL K H a xs) : SqL K H' a xs := by
  rcases h with (h | ⟨o, h⟩) | h
  · exact .inl (.inl (e _ _ n h))
  · exact .inl (.inr ⟨o, e _ _ n h⟩)
  · exact .inr h
end L2
namespace L2
open PySem PySem.Spec PyProof.Rows
theorem shaped_flat {v : V} (h : okV v = true) : SeqAt.shaped (dOf v) = true := by
  have q := flat_lay h
  unfold SeqAt.shaped
  rw [q.1, Bool.true_and, decide_eq_true_eq]
  have := q.2
  omega
theorem c_eqF {K : PySem.W.Frag} {H : Hp} {Q : VK} {x y : V} (f : okV x = true) (f' : okV y = true) (k : Q (.bl (eqV x y)) H) : rEqD K x y H Q :=
  ⟨_, _, dp_flat (okV_flat f), dp_flat (okV_flat f'), shaped_flat f, shaped_flat f', by rw [eqv_flat (okV_flat f) (okV_flat f')]; exact k⟩
theorem c_neF {K : PySem.W.Frag} {H : Hp} {Q : VK} {x y : V} (f : okV x = true) (f' : okV y = true) (k : Q (.bl (!eqV x y)) H) : rNeD K x y H Q :=
  ⟨_, _, dp_flat (okV_flat f), dp_flat (okV_flat f'), shaped_flat f, shaped_flat f', by rw [eqv_flat (okV_flat f) (okV_flat f')]; exact k⟩
end L2
namespace L2
open PySem PySem.Spec PyProof.Rows
theorem dec_s {x y : Str} : decide (V.str x = V.str y) = decide (x = y) := by
  by_cases h : x = y
  · subst h; simp
  · rw [decide_eq_false h, decide_eq_false fun e => h (V.str.inj e)]
theorem str_ne {x y : Str} (h : x ≠ y) : decide (V.str x = V.str y) = false := by rw [dec_s]; exact decide_eq_false h
theorem str_eq {x y : Str} (h : x = y) : decide (V.str x = V.str y) = true := by rw [dec_s]; exact decide_eq_true h
end L2

/-! ### list.count of flat things -/
namespace L2
open PySem PySem.Spec PyProof.Rows
theorem countP_eqU {x : V} : ∀ {xs : List V} {us : List Value}, Vals xs us → xs.all flatV = true → us.countP (eqU x) = xs.countP fun y => eqV y x
  | _, _, .nil, _ => rfl
  | y :: xs, u :: us, .cons r t, h => by
    rw [List.all_cons, Bool.and_eq_true] at h
    rw [List.countP_cons, List.countP_cons, countP_eqU t h.2, eqU_of r h.1]
def rCntF (K : PySem.W.Frag) : V → List V → Hp → VK → Prop := fun x xs H Q => ∃ (p : Addr) (ys : List V) (y : V), x = .ref p ∧ xs = [y] ∧ SqL K H p ys ∧ flatV y = true ∧ ys.all flatV = true ∧ Q (.int ((ys.countP fun z => eqV z y : Nat) : Int)) H
theorem mt_countF {X : Cx} : MtR X "list.count" (rCntF X.K) := by
  intro pins s σ H x xs v us Q I rx rxs h
  obtain ⟨p, ys, y, rfl, rfl, hs, fy, fl, q⟩ := h
  cases rx
  obtain ⟨u, rfl, ru⟩ := rxs.one
  obtain ⟨its, rv, ⟨⟨cls, dd, data, sl⟩, n, ho, hc, hdn, hd⟩, hlen⟩ := I.list hs
  simp only at hc hd
  subst hc hd
  have ec : its.toArray.toList.countP (eqU y) = ys.countP fun z => eqV z y := countP_eqU rv fl
  refine call_meets PySem.F.slot_list_count ⟨_, ho, rfl⟩ PySem.F.entry_list_count (PySem.F.args_list_count_2 _ _)
    (SeqAt.list_countAt p its.toArray n dd sl u (eqU y)) ⟨ho, fun z hz => mem_eqAt ru fy rv fl z (by simpa using hz), ?_⟩
  refine ⟨.int ((ys.countP fun z => eqV z y : Nat) : Int), H, I.tok _, ⟨s.toks, ?_⟩, q⟩
  rw [ec]
end L2

/-! ### a list comprehension whose element and test are told by the turn -/
namespace L2
open PySem PySem.Spec PyProof.Rows
theorem range_fm {f : Nat → Option V} {n : Nat} : (List.range (n + 1)).filterMap f = (List.range n).filterMap f ++ (f n).toList := by
  rw [List.range_succ, List.filterMap_append]
  cases h : f n <;> simp [List.filterMap_cons, h]
theorem fm_len {f : Nat → Option V} {n : Nat} : ((List.range n).filterMap f).length ≤ n := by
  have h := List.length_filterMap_le f (List.range n)
  rw [List.length_range] at h
  exact h
section
variable {K : PySem.W.Frag} {σ : St} {H : Hp} {Q : VK} {g : TG} {tt : TT} {te : TE} {vs : List Nat}
/-- one turn: the target, the test, the element come to f i, all that stood kept -/
def LcTurn (g : TG) (tt : TT) (te : TE) (vs : List Nat) (σ : St) (H : Hp) (x : V) (y : Option V) : Prop :=
  ∀ H2, Evl.Ex H H2 → ∀ R : Option V → Hp → Prop, (∀ H3, Evl.Ex H2 H3 → R y H3) →
    g x (wipe σ vs) H2 fun σ2 H3 => wipe σ2 vs = wipe σ vs ∧ tt σ2 H3 fun b H4 => if b = true then te σ2 H4 fun y H5 => R (some y) H5 else R none H4
theorem lc_of {n : Nat} {D : Addr} {H1 : Hp} {f : Nat → Option V} {i : Nat} {H' : Hp} (hn : n ≤ 50000) (hi : i < n) (p1 : H1 D = none) (p2 : Evl.Ex H1 H') (p3 : H' D = some (.lst ((List.range i).filterMap f))) {x : V} (ht : LcTurn g tt te vs σ H1 x (f i)) :
    g x (wipe σ vs) H' fun σ2 H2 => wipe σ2 vs = wipe σ vs ∧ tt σ2 H2 fun b H3 =>
      if b = true then te σ2 H3 fun y H4 => ∃ acc, H4 D = some (.lst acc) ∧ acc.length < sizeLine ∧ (H1 D = none ∧ Evl.Ex H1 (upd H4 D (.lst (acc ++ [y]))) ∧ upd H4 D (.lst (acc ++ [y])) D = some (.lst ((List.range (i + 1)).filterMap f))) else (H1 D = none ∧ Evl.Ex H1 H3 ∧ H3 D = some (.lst ((List.range (i + 1)).filterMap f))) := by
  refine ht H' p2 (fun o H4 => match o with
    | some y => ∃ acc, H4 D = some (.lst acc) ∧ acc.length < sizeLine ∧ (H1 D = none ∧ Evl.Ex H1 (upd H4 D (.lst (acc ++ [y]))) ∧ upd H4 D (.lst (acc ++ [y])) D = some (.lst ((List.range (i + 1)).filterMap f)))
    | none => (H1 D = none ∧ Evl.Ex H1 H4 ∧ H4 D = some (.lst ((List.range (i + 1)).filterMap f)))) (fun H3 e3 => ?_)
  cases hf : f i with
  | some y =>
    refine ⟨_, e3 _ _ p3, ?_, p1, Evl.Ex.mut (p2.trans e3) p1, ?_⟩
    · have := fm_len (f := f) (n := i)
      exact Evl.sz_lt (by omega)
    · rw [upd_same, range_fm, hf] <;> rfl
  | none =>
    refine ⟨p1, p2.trans e3, ?_⟩
    rw [range_fm, hf]
    show H3 D = some (.lst (_ ++ []))
    rw [List.append_nil]
    exact e3 _ _ p3
end
end L2

/-! ### loops -/
namespace L2
open PySem PySem.Spec PyProof.Rows
/-- a loop over what is walked already -/
def ForI (J : It) (g : TG) (tb : TS) (D : Ends) (σ : St) (H : Hp) : Prop := tFor (fun _ H1 R => R J H1) g tb D σ H
section
variable {K : PySem.W.Frag} {σ : St} {H : Hp} {D : Ends} {g : TG} {tb : TS} {ta : TA} {tl : TE}
theorem c_forR1 (h : ta σ H fun vs H1 => ∃ j : Int, vs = [.int j] ∧ -(2 ^ 62) ≤ j ∧ j < 2 ^ 62 ∧ ForI (Itr 0 j.toNat) g tb D σ H1) : tFor (iRng1 ta) g tb D σ H := h
theorem c_forR2 (h : ta σ H fun vs H1 => ∃ i j : Int, vs = [.int i, .int j] ∧ (-(2 ^ 62) ≤ i ∧ i < 2 ^ 62 ∧ -(2 ^ 62) ≤ j ∧ j < 2 ^ 62) ∧ ForI (Itr i (j - i).toNat) g tb D σ H1) : tFor (iRng2 ta) g tb D σ H := h
theorem c_forL (h : tl σ H fun x H1 => ∃ a, x = .ref a ∧ (∃ xs, SqL K H1 a xs) ∧ ForI (Itl K a) g tb D σ H1) : tFor (iList K tl) g tb D σ H := h
theorem c_forT (h : tl σ H fun x H1 => ∃ a, x = .ref a ∧ (∃ xs, SqT K H1 a xs) ∧ ForI (Itt K a) g tb D σ H1) : tFor (iTup K tl) g tb D σ H := h
/-- range(n), n whole and not below 0 or below it -/
theorem forR {n : Nat} {j : Nat} (Pv : Nat → St → Hp → Prop) (h0 : Pv 0 σ H) (hs : ∀ (i : Nat) σ' H', i < n → Pv i σ' H' → tb { D with nx := Pv (i + 1), ct := Pv (i + 1), bk := D.nx } (σ'.set j (some (.int (i : Int)))) H') (hd : ∀ σ' H', Pv n σ' H' → D.nx σ' H') : ForI (Itr 0 n) (gName j) tb D σ H :=
  for_range (lo := 0) (n := n) Pv h0 (fun i σ' H' hi p => by
    have e0 : (0 : Int) + (i : Int) = (i : Int) := Int.zero_add _
    show tb { D with nx := Pv (i + 1), ct := Pv (i + 1), bk := D.nx } (σ'.set j (some (.int ((0 : Int) + (i : Int))))) H'
    rw [e0]
    exact hs i σ' H' hi p) hd
theorem forL {a : Addr} {xs : List V} {j : Nat} (Pv : Nat → St → Hp → Prop) (h0 : Pv 0 σ H) (hl : ∀ i σ' H', i ≤ xs.length → Pv i σ' H' → SqL K H' a xs)
    (hs : ∀ i x σ' H', xs[i]? = some x → Pv i σ' H' → tb { D with nx := Pv (i + 1), ct := Pv (i + 1), bk := D.nx } (σ'.set j (some x)) H') (hd : ∀ σ' H', Pv xs.length σ' H' → D.nx σ' H') : ForI (Itl K a) (gName j) tb D σ H := for_list Pv h0 hl hs hd
theorem forT {a : Addr} {xs : List V} {j : Nat} (Pv : Nat → St → Hp → Prop) (h0 : Pv 0 σ H) (hl : ∀ i σ' H', i ≤ xs.length → Pv i σ' H' → SqT K H' a xs)
    (hs : ∀ i x σ' H', xs[i]? = some x → Pv i σ' H' → tb { D with nx := Pv (i + 1), ct := Pv (i + 1), bk := D.nx } (σ'.set j (some x)) H') (hd : ∀ σ' H', Pv xs.length σ' H' → D.nx σ' H') : ForI (Itt K a) (gName j) tb D σ H := for_tup Pv h0 hl hs hd
end
/-- a comprehension over what is walked already -/
def LcI (J : It) (g : TG) (tt : TT) (te : TE) (vs : List Nat) (σ : St) (H : Hp) (Q : VK) : Prop := tLc (fun _ H1 R => R J H1) g tt te vs σ H Q
section
variable {K : PySem.W.Frag} {σ : St} {H : Hp} {Q : VK} {g : TG} {tt : TT} {te : TE} {vs : List Nat} {ta : TA} {tl : TE}
theorem c_lcR1 (h : ta σ H fun ws H1 => ∃ j : Int, ws = [.int j] ∧ -(2 ^ 62) ≤ j ∧ j < 2 ^ 62 ∧ LcI (Itr 0 j.toNat) g tt te vs σ H1 Q) : tLc (iRng1 ta) g tt te vs σ H Q := h
theorem c_lcLi (h : tl σ H fun x H1 => ∃ a, x = .ref a ∧ (∃ xs, SqL K H1 a xs) ∧ LcI (Itl K a) g tt te vs σ H1 Q) : tLc (iList K tl) g tt te vs σ H Q := h
theorem c_lcTi (h : tl σ H fun x H1 => ∃ a, x = .ref a ∧ (∃ xs, SqT K H1 a xs) ∧ LcI (Itt K a) g tt te vs σ H1 Q) : tLc (iTup K tl) g tt te vs σ H Q := h
theorem lcL {a : Addr} {xs : List V} (f : Nat → Option V) (hs : SqL K H a xs) (hl : xs.length ≤ 50000) (ht : ∀ (i : Nat) (x : V), xs[i]? = some x → LcTurn g tt te vs σ H x (f i)) (k : RetL ((List.range xs.length).filterMap f) H Q) : LcI (Itl K a) g tt te vs σ H Q := by
  refine fun D hD => ?_
  refine lc_list (xs := xs) (fun i H' => H D = none ∧ Evl.Ex H H' ∧ H' D = some (.lst ((List.range i).filterMap f))) ⟨hD, Evl.Ex.new hD, upd_same⟩ (fun i H' _ p => Evl.ex_l p.2.1 hs) (fun i x H' hi p => ?_) (fun H' p => k D H' p.1 p.2.1 p.2.2)
  exact lc_of hl (List.getElem?_eq_some_iff.mp hi).1 p.1 p.2.1 p.2.2 (ht i x hi)
theorem lcT {a : Addr} {xs : List V} (f : Nat → Option V) (hs : SqT K H a xs) (hl : xs.length ≤ 50000) (ht : ∀ (i : Nat) (x : V), xs[i]? = some x → LcTurn g tt te vs σ H x (f i)) (k : RetL ((List.range xs.length).filterMap f) H Q) : LcI (Itt K a) g tt te vs σ H Q := by
  refine fun D hD => ?_
  refine lc_tup (xs := xs) (fun i H' => H D = none ∧ Evl.Ex H H' ∧ H' D = some (.lst ((List.range i).filterMap f))) ⟨hD, Evl.Ex.new hD, upd_same⟩ (fun i H' _ p => Evl.ex_t p.2.1 hs) (fun i x H' hi p => ?_) (fun H' p => k D H' p.1 p.2.1 p.2.2)
  exact lc_of hl (List.getElem?_eq_some_iff.mp hi).1 p.1 p.2.1 p.2.2 (ht i x hi)
theorem lcR {n : Nat} (f : Nat → Option V) (hl : n ≤ 50000) (ht : ∀ (i : Nat), i < n → LcTurn g tt te vs σ H (.int (i : Int)) (f i)) (k : RetL ((List.range n).filterMap f) H Q) : LcI (Itr 0 n) g tt te vs σ H Q := by
  refine fun D hD => ?_
  refine lc_range (lo := 0) (n := n) (fun i H' => H D = none ∧ Evl.Ex H H' ∧ H' D = some (.lst ((List.range i).filterMap f))) ⟨hD, Evl.Ex.new hD, upd_same⟩ (fun i H' hi p => ?_) (fun H' p => k D H' p.1 p.2.1 p.2.2)
  have e0 : (0 : Int) + (i : Int) = (i : Int) := Int.zero_add _
  rw [e0]
  exact lc_of hl hi p.1 p.2.1 p.2.2 (ht i hi)
end
end L2

/-! ### texts -/
namespace L2
open PySem PySem.Spec PyProof.Rows
open TL (tl)
/-- x is b, x is not b, b True or False, x a flat thing -/
def rIsV : R2 := fun x y H Q => ∃ b : Bool, y = .bl b ∧ Q (.bl (decide (x = .bl b))) H
def rNotV : R2 := fun x y H Q => ∃ b : Bool, y = .bl b ∧ Q (.bl (!decide (x = .bl b))) H
section
variable {X : Cx}
theorem isV_plain {x : V} {v : Value} {b : Bool} (rx : RelV x v) : plainIs v (.bool b) = true ∧ (v == Value.bool b) = decide (x = .bl b) := by
  cases x with
  | non => cases (show v = Value.none from rx); exact ⟨rfl, rfl⟩
  | bl c =>
    cases (show v = Value.bool c from rx)
    refine ⟨rfl, ?_⟩
    cases c <;> cases b <;> rfl
  | int i => obtain ⟨t, e⟩ := (show ∃ t, v = Value.int i t from rx); cases e; exact ⟨rfl, rfl⟩
  | str z => obtain ⟨t, e⟩ := (show ∃ t, v = Value.str z t from rx); cases e; exact ⟨rfl, rfl⟩
  | byt z => obtain ⟨t, e⟩ := (show ∃ t, v = Value.bytes z t from rx); cases e; exact ⟨rfl, rfl⟩
  | flt z => obtain ⟨t, e⟩ := (show ∃ t, v = Value.float z t from rx); cases e; exact ⟨rfl, rfl⟩
  | ref a => cases (show v = Value.ref a from rx); exact ⟨rfl, rfl⟩
  | ty n => cases (show v = Value.type n from rx); exact ⟨rfl, rfl⟩
theorem op_isB : OpR X (compareOp .Is) rIsV := by
  intro pins s σ H x y v u Q I rx ry h
  obtain ⟨b, rfl, q⟩ := h
  cases (show u = Value.bool b from ry)
  have z := isV_plain (b := b) rx
  refine wpAny_is_plain z.1 ?_
  rw [z.2]
  exact ⟨.bl _, H, I, rfl, q⟩
theorem op_notB : OpR X (compareOp .IsNot) rNotV := by
  intro pins s σ H x y v u Q I rx ry h
  obtain ⟨b, rfl, q⟩ := h
  cases (show u = Value.bool b from ry)
  have z := isV_plain (b := b) rx
  refine wpAny_isNot_plain z.1 ?_
  rw [z.2]
  exact ⟨.bl _, H, I, rfl, q⟩
end
/-- s * n, n two at least -/
def repS (x : Str) (n : Nat) : Str := ⟨(List.replicate n x.cps).foldl (· ++ ·) #[]⟩
theorem rep_size (a : Array Nat) : ∀ (n : Nat) (acc : Array Nat), ((List.replicate n a).foldl (· ++ ·) acc).size = acc.size + n * a.size
  | 0, acc => by simp
  | n + 1, acc => by
    rw [List.replicate_succ, List.foldl_cons, rep_size a n, Array.size_append, Nat.succ_mul]
    omega
theorem repS_len (x : Str) (n : Nat) : (repS x n).length = n * x.length := by
  show ((List.replicate n x.cps).foldl (· ++ ·) #[]).size = _
  rw [rep_size]
  simp [Str.length]
section
variable {X : Cx}
theorem op_rep_str : OpR X (binaryOp .Mult) (fun x y H Q => ∃ (z : Str) (n : Int), x = .str z ∧ y = .int n ∧ 2 ≤ n ∧ n ≤ 100000 ∧ 0 < z.length ∧ z.length ≤ 100 ∧ Q (.str (repS z n.toNat)) H) := by
  intro pins s σ H x y v u Q I rx ry h
  obtain ⟨z, n, rfl, rfl, h2, h1, z0, z1, q⟩ := h
  obtain ⟨t, rfl⟩ := rx
  obtain ⟨t', rfl⟩ := ry
  have hs : sizeLine = 16777216 := sizeLine_eq
  have hp : z.length * n.toNat ≤ 100 * 100000 := Nat.mul_le_mul z1 (by omega)
  refine PySem.P.mul_str ?_ (fun _ _ => ?_) (fun _ _ => ?_) ?_
  · rw [decide_eq_false (by omega), decide_eq_false (by omega)]; rfl
  · have : (100 : Int) ≤ (2 ^ 63 - 1) / n := by
      rw [Int.le_ediv_iff_mul_le (by omega)]
      omega
    omega
  · unfold Builtin.Str.tooLong
    rw [decide_eq_false (by omega)]
  · rw [if_neg (by omega), if_neg (by
      rw [Bool.or_eq_true, beq_iff_eq, beq_iff_eq]
      omega)]
    refine ⟨?_, .str (repS z n.toNat), H, I.tok _, ⟨_, rfl⟩, q⟩
    have e := repS_len z n.toNat
    rw [Nat.mul_comm] at e
    show (repS z n.toNat).length ≤ sizeLine
    omega
end
/-! loops over a text -/
section
variable {K : PySem.W.Frag} {σ : St} {H : Hp} {D : Ends} {Q : VK} {g : TG} {tb : TS} {tl' : TE} {tt : TT} {te : TE} {vs : List Nat}
theorem c_forS (h : tl' σ H fun v H1 => ∃ x, v = .str x ∧ ForI (Its x) g tb D σ H1) : tFor (iStr tl') g tb D σ H := h
theorem c_lcSi (h : tl' σ H fun v H1 => ∃ x, v = .str x ∧ LcI (Its x) g tt te vs σ H1 Q) : tLc (iStr tl') g tt te vs σ H Q := h
theorem tl_get {x : Str} {i c : Nat} : x.cps[i]? = some c ↔ (tl x)[i]? = some c := by
  show _ ↔ x.cps.toList[i]? = some c
  rw [Array.getElem?_toList]
theorem tl_len (x : Str) : (tl x).length = x.length := by simp [tl, Str.length]
theorem forS {x : Str} {j : Nat} (Pv : Nat → St → Hp → Prop) (h0 : Pv 0 σ H)
    (hs : ∀ i c σ' H', (tl x)[i]? = some c → Pv i σ' H' → tb { D with nx := Pv (i + 1), ct := Pv (i + 1), bk := D.nx } (σ'.set j (some (.str ⟨#[c]⟩))) H') (hd : ∀ σ' H', Pv (tl x).length σ' H' → D.nx σ' H') : ForI (Its x) (gName j) tb D σ H :=
  for_it walk_str Pv h0 (fun _ _ _ _ _ => trivial) (fun i v σ' H' H'' hi p y => by
    obtain ⟨rfl, c, hc, rfl⟩ := y
    exact hs i c σ' H'' (tl_get.mp hc) p) (by
    have e : x.cps.size = (tl x).length := by simp [tl]
    rw [e]
    exact hd)
theorem fm_range {α : Type} {F : α → Option V} : ∀ {l : List α}, (List.range l.length).filterMap (fun i => (l[i]?).bind F) = l.filterMap F
  | [] => rfl
  | a :: l => by
    rw [List.length_cons, List.range_succ_eq_map, List.filterMap_cons, List.filterMap_map, List.filterMap_cons]
    have ih := fm_range (F := F) (l := l)
    rw [List.getElem?_cons_zero, Option.bind_some]
    have e : ((fun i => ((a :: l)[i]?).bind F) ∘ Nat.succ) = fun i => (l[i]?).bind F := by
      funext i
      simp
    rw [e, ih] <;> rfl
theorem lcS {x : Str} (F : Nat → Option V) (hl : x.length ≤ 50000) (ht : ∀ c, c ∈ tl x → LcTurn g tt te vs σ H (.str ⟨#[c]⟩) (F c)) (k : RetL ((tl x).filterMap F) H Q) : LcI (Its x) g tt te vs σ H Q := by
  refine fun D hD => ?_
  have e : x.cps.size = (tl x).length := by simp [tl]
  refine lc_it walk_str (fun i H' => H D = none ∧ Evl.Ex H H' ∧ H' D = some (.lst ((List.range i).filterMap fun i => ((tl x)[i]?).bind F))) ⟨hD, Evl.Ex.new hD, upd_same⟩ (fun _ _ _ _ => trivial) (fun i v H' H'' hi p y => ?_) (fun H' p => k D H' p.1 p.2.1 ?_)
  · obtain ⟨rfl, c, hc, rfl⟩ := y
    have hc2 := tl_get.mp hc
    refine lc_of (n := x.cps.size) (f := fun i => ((tl x)[i]?).bind F) hl hi p.1 p.2.1 p.2.2 ?_
    rw [hc2]
    exact ht c (List.mem_of_getElem? hc2)
  · have q := p.2.2
    rw [e, fm_range] at q
    exact q
/-- the same of a list, by what its things are -/
theorem lcLv {a : Addr} {xs : List V} (F : V → Option V) (hs : SqL K H a xs) (hl : xs.length ≤ 50000) (ht : ∀ x, x ∈ xs → LcTurn g tt te vs σ H x (F x)) (k : RetL (xs.filterMap F) H Q) : LcI (Itl K a) g tt te vs σ H Q := by
  refine lcL (fun i => (xs[i]?).bind F) hs hl (fun i x hi => ?_) ?_
  · rw [hi]
    exact ht x (List.mem_of_getElem? hi)
  · rw [fm_range]
    exact k
end
theorem fm_some {α : Type} {F : α → V} : ∀ (l : List α), l.filterMap (fun c => some (F c)) = l.map F
  | [] => rfl
  | a :: l => by rw [List.filterMap_cons, List.map_cons, fm_some l]
theorem tl_ext {x y : Str} : x = y ↔ tl x = tl y := ⟨fun h => by rw [h], TL.ext_tl⟩
theorem starts_is (x y : Str) : Txt.startswith x y = ((tl x).take (tl y).length == tl y) := by
  unfold Txt.startswith
  rw [StrLaws.subAt_eq]
  show (decide (0 + y.length ≤ x.length) && (((tl x).drop 0).take y.length == tl y)) = _
  rw [List.drop_zero, tl_len]
  cases h : (List.take y.length (tl x) == tl y) with
  | false => rw [Bool.and_false]
  | true =>
    rw [Bool.and_true, decide_eq_true_eq]
    have e := congrArg List.length (beq_iff_eq.mp h)
    rw [List.length_take, tl_len, tl_len] at e
    omega
theorem tl_cut (z : Str) (lo hi : Option Int) : tl (cutS z lo hi) = ((tl z).drop (HT.sIx z.length 0 lo)).take (HT.sIx z.length z.length hi - HT.sIx z.length 0 lo) := rfl
theorem tl_one (c : Nat) : tl ⟨#[c]⟩ = [c] := rfl
end L2
namespace L2
open PySem PySem.Spec PyProof.Rows
open TL (tl)
theorem c_ixS {H : Hp} {Q : VK} {z : Str} {i : Int} {c : Nat} (hz : z.length ≤ 100000) (ha : atI (tl z) i = some c) (q : Q (.str ⟨#[c]⟩) H) : rIxS (.str z) (.int i) H Q := ⟨z, i, c, rfl, rfl, Evl.sz_of hz, ha, q⟩
theorem c_slS {H : Hp} {Q : VK} {z : Str} {lo hi : Option Int} (hz : z.length ≤ 100000) (q : Q (.str (cutS z lo hi)) H) : rSlS (.str z) lo hi H Q := ⟨z, rfl, Evl.sz_of hz, q⟩
theorem sIx_le' (n d : Nat) (hd : d ≤ n) (o : Option Int) : HT.sIx n d o ≤ n := HT.sIx_le n d hd o
theorem add_len (a b : Str) : (a ++ b).length = a.length + b.length := by
  rw [← tl_len, TL.tl_append, List.length_append, tl_len, tl_len]
end L2
namespace L2
open PySem PySem.Spec PyProof.Rows
open TL (tl)
/-- a text whose signs lie within the line -/
def OkT (t : Str) : Prop := ∀ c, c ∈ tl t → c < 1114112
theorem okT_V {t : Str} (h : OkT t) : okV (.str t) = true := by
  show PyData.strOk t = true
  unfold PyData.strOk
  rw [Array.all_eq_true']
  intro c hc
  exact decide_eq_true (h c (Array.mem_toList_iff.mpr hc))
theorem okT_one {c : Nat} (h : c < 1114112) : okV (.str ⟨#[c]⟩) = true := okT_V fun d hd => by
  have : d = c := by simpa [tl] using hd
  omega
theorem OkT.app {a b : Str} (ha : OkT a) (hb : OkT b) : OkT (a ++ b) := fun c hc => by
  rw [TL.tl_append] at hc
  rcases List.mem_append.mp hc with h | h
  · exact ha c h
  · exact hb c h
theorem OkT.cut {a : Str} (ha : OkT a) (lo hi : Option Int) : OkT (cutS a lo hi) := fun c hc => ha c (List.mem_of_mem_drop (List.mem_of_mem_take hc))
theorem OkT.lit {t : Str} (h : (tl t).all (fun c => decide (c < 1114112)) = true) : OkT t := fun c hc => of_decide_eq_true (List.all_eq_true.mp h c hc)
end L2

/-! ### draws within a comprehension; joined texts -/
namespace L2
open PySem PySem.Spec PyProof.Rows
open TL (tl)
section
variable {K : PySem.W.Frag} {σ : St} {H : Hp} {Q : VK} {g : TG} {tt : TT} {te : TE} {vs : List Nat}
theorem BoxAt.some {H : Hp} {b : Addr} (h : BoxAt H b) : ∃ o, H b = Option.some o := let ⟨_, _, _, _, q⟩ := h; ⟨_, q⟩
theorem lcRB {n : Nat} {b : Addr} (good : V → Prop) (hn : n ≤ 1000) (hB : BoxAt H b)
    (ht : ∀ (i : Nat), i < n → ∀ H2, BoxAt H2 b → ExB b H H2 → ∀ (R : V → Hp → Prop) (N : Hp → Prop), (∀ y H3, good y → BoxAt H3 b → ExB b H2 H3 → R y H3) →
      g (.int (i : Int)) (wipe σ vs) H2 fun σ2 H3 => wipe σ2 vs = wipe σ vs ∧ tt σ2 H3 fun c H4 => if c = true then te σ2 H4 fun y H5 => R y H5 else N H4)
    (k : ∀ ys p H2, ys.length = n → (∀ y ∈ ys, good y) → H p = none → ExB b H H2 → BoxAt H2 b → H2 p = some (.lst ys) → Q (.ref p) H2) : LcI (Itr 0 n) g tt te vs σ H Q := by
  refine fun D hD => ?_
  obtain ⟨ob, hob⟩ := hB.some
  have nDb : D ≠ b := (ne_of_none hob hD).symm
  have bx : ∀ {G : Hp} {o : HO}, BoxAt G b → BoxAt (upd G D o) b := fun ⟨x, y, z, p, q⟩ => ⟨x, y, z, p, by rw [upd_ne nDb.symm]; exact q⟩
  have ex : ∀ {G : Hp} {o : HO}, ExB b H G → ExB b H (upd G D o) := fun e a u na ha => by rw [upd_ne (ne_of_none ha hD)]; exact e a u na ha
  refine lc_range (lo := 0) (n := n) (fun i H' => i ≤ n ∧ ExB b H H' ∧ BoxAt H' b ∧ ∃ ys, ys.length = i ∧ (∀ y ∈ ys, good y) ∧ H' D = some (.lst ys)) ⟨Nat.zero_le _, ex (ExB.refl _ _), bx hB, [], rfl, (fun _ h => by cases h), upd_same⟩ (fun i H' hi p => ?_) (fun H' p => ?_)
  · obtain ⟨_, e1, b1, ys, hl, hg, hy⟩ := p
    have e0 : (0 : Int) + (i : Int) = (i : Int) := Int.zero_add _
    rw [e0]
    refine ht i hi H' b1 e1 (fun y H4 => ∃ acc, H4 D = some (.lst acc) ∧ acc.length < sizeLine ∧ (i + 1 ≤ n ∧ ExB b H (upd H4 D (.lst (acc ++ [y]))) ∧ BoxAt (upd H4 D (.lst (acc ++ [y]))) b ∧ ∃ zs, zs.length = i + 1 ∧ (∀ y ∈ zs, good y) ∧ upd H4 D (.lst (acc ++ [y])) D = some (.lst zs))) _ (fun y H3 gy b3 e3 => ?_)
    refine ⟨ys, e3 D _ nDb hy, Evl.sz_lt (by omega), hi, ex (e1.trans e3), bx b3, ys ++ [y], by rw [List.length_append, hl]; rfl, fun z hz => ?_, upd_same⟩
    rcases List.mem_append.mp hz with h | h
    · exact hg z h
    · have : z = y := by simpa using h
      rw [this]
      exact gy
  · obtain ⟨_, e1, b1, ys, hl, hg, hy⟩ := p
    exact k ys D H' hl hg hD e1 b1 hy
end
theorem strs_of {P : Str → Prop} : ∀ {l : List V}, (∀ y ∈ l, ∃ s, y = .str s ∧ P s) → ∃ ss : List Str, l = ss.map V.str ∧ ∀ s ∈ ss, P s
  | [], _ => ⟨[], rfl, fun _ h => by cases h⟩
  | y :: l, h => by
    obtain ⟨s, rfl, hs⟩ := h y List.mem_cons_self
    obtain ⟨ss, rfl, hss⟩ := strs_of fun z hz => h z (List.mem_cons_of_mem _ hz)
    exact ⟨s :: ss, rfl, fun z hz => (List.mem_cons.mp hz).elim (fun e => e ▸ hs) (hss z)⟩
theorem joinL_in {S : List Nat} : ∀ {ps : List (List Nat)} {c : Nat}, c ∈ TL.joinL S ps → c ∈ S ∨ ∃ p ∈ ps, c ∈ p
  | [], c, h => by cases h
  | [p], c, h => .inr ⟨p, List.mem_cons_self, h⟩
  | p :: q :: ps, c, h => by
    have h' : c ∈ p ++ S ++ TL.joinL S (q :: ps) := by first | exact h | simpa [TL.joinL] using h
    rcases List.mem_append.mp h' with h | h
    · rcases List.mem_append.mp h with h | h
      · exact .inr ⟨p, List.mem_cons_self, h⟩
      · exact .inl h
    · rcases joinL_in h with h | ⟨r, hr, hc⟩
      · exact .inl h
      · exact .inr ⟨r, List.mem_cons_of_mem _ hr, hc⟩
theorem joinL_len {S : List Nat} {m : Nat} : ∀ {ps : List (List Nat)}, (∀ p ∈ ps, p.length ≤ m) → (TL.joinL S ps).length ≤ ps.length * (m + S.length)
  | [], _ => by simp [TL.joinL]
  | [p], h => by
    have := h p List.mem_cons_self
    show p.length ≤ _
    simp
    omega
  | p :: q :: ps, h => by
    have h1 := h p List.mem_cons_self
    have ih := joinL_len (S := S) (ps := q :: ps) fun r hr => h r (List.mem_cons_of_mem _ hr)
    have e : TL.joinL S (p :: q :: ps) = p ++ S ++ TL.joinL S (q :: ps) := by first | rfl | simp [TL.joinL]
    rw [e, List.length_append, List.length_append, List.length_cons, Nat.succ_mul]
    omega
theorem join_ok {sep : Str} {ss : List Str} {m : Nat} (ho : OkT sep) (hs : ∀ s ∈ ss, OkT s ∧ s.length ≤ m) : OkT (Txt.join sep ss) ∧ (Txt.join sep ss).length ≤ ss.length * (m + sep.length) := by
  rw [TL.join_eq]
  constructor
  · intro c hc
    rw [TL.tl_join] at hc
    rcases joinL_in hc with h | ⟨p, hp, h⟩
    · exact ho c h
    · obtain ⟨s, hs', rfl⟩ := List.mem_map.mp hp
      exact (hs s hs').1 c h
  · rw [← tl_len, TL.tl_join, ← tl_len sep]
    have := joinL_len (S := tl sep) (m := m) (ps := ss.map tl) fun p hp => by
      obtain ⟨s, hs', rfl⟩ := List.mem_map.mp hp
      rw [tl_len]
      exact (hs s hs').2
    rw [List.length_map] at this
    exact this
theorem sum_len {ss : List Str} {m : Nat} (h : ∀ s ∈ ss, s.length ≤ m) : (ss.map (·.length)).sum ≤ ss.length * m := by
  induction ss with
  | nil => simp
  | cons a l ih =>
    rw [List.map_cons, List.sum_cons, List.length_cons, Nat.succ_mul]
    have := h a List.mem_cons_self
    have := ih fun s hs => h s (List.mem_cons_of_mem _ hs)
    omega
end L2
namespace L2
open PySem PySem.Spec PyProof.Rows
theorem forLg {K : PySem.W.Frag} {σ : St} {H : Hp} {D : Ends} {g : TG} {tb : TS} {a : Addr} {xs : List V} (Pv : Nat → St → Hp → Prop) (h0 : Pv 0 σ H) (hl : ∀ i σ' H', i ≤ xs.length → Pv i σ' H' → SqL K H' a xs)
    (hs : ∀ i x σ' H', xs[i]? = some x → Pv i σ' H' → g x σ' H' fun σ2 H2 => tb { D with nx := Pv (i + 1), ct := Pv (i + 1), bk := D.nx } σ2 H2) (hd : ∀ σ' H', Pv xs.length σ' H' → D.nx σ' H') : ForI (Itl K a) g tb D σ H := for_list Pv h0 hl hs hd
theorem hu65 {A : Around} {k : Nat} (hr : Room k A) : A.units + 65 < cLine := by have := hr.un; omega
end L2

/-! ### own errors: made, held as values, read, asked for their class -/
namespace L2
open PySem PySem.Spec PyProof.Rows
def cBody (st : Stmt) : List Stmt := match st with
  | .ClassDef (body := l) .. => l
  | _ => []
/-- the class at C is an own error class over ValueError -/
def xcB (K : PySem.W.Frag) (C : Addr) : Bool := match K.lookup C with
  | some ⟨.type "type", _, .cls cd, sl⟩ => (match cd.mro, sl.toList with
    | .ref D :: bm, [_, _, _, _, some (.builtin n), _] => (D == C && n == "ValueError.__new__") && ((!cd.hasDel && cd.hasDict) && PySem.HandSPX.refsVE bm)
    | _, _ => false)
  | _ => false
def oxB (K : PySem.W.Frag) (C : Addr) : Bool :=
  (xcB K C && PySem.W.keepIn K (.ref C)) && (decide (PySem.W.findIn K (.ref C) "__setattr__" = some (some (.builtin "object.__setattr__"))) && decide (PySem.W.typeIn K (.ref C) = some (.type "type")))
def icB (K : PySem.W.Frag) (C : Addr) : Bool :=
  ((PySem.W.clsIn K C).isSome && xfB K C) && ((decide (PySem.W.findIn K (.ref C) "__class__" = some (some (.builtin "object.__class__"))) && decide (PySem.W.specialIn K (.builtin "object.__class__") "__get__" = some (some (.builtin "getset_descriptor.__get__")))) &&
    (decide (PySem.W.takesIn K (.builtin "object.__class__") = some true) && decide (PySem.W.mroIn K C (.type "object") = some true)))
def exB (K : PySem.W.Frag) (C : Addr) (fs : List Str) : Bool := (oxB K C && icB K C) && fs.all fun f => decide (PySem.W.findIn K (.ref C) f = some none)
structure IcC (K : PySem.W.Frag) (C : Addr) : Prop where
  cl : (PySem.W.clsIn K C).isSome = true
  xf : XfC K C
  ha : PySem.W.findIn K (.ref C) "__class__" = some (some (.builtin "object.__class__"))
  hn : PySem.W.specialIn K (.builtin "object.__class__") "__get__" = some (some (.builtin "getset_descriptor.__get__"))
  ht : PySem.W.takesIn K (.builtin "object.__class__") = some true
  hm : PySem.W.mroIn K C (.type "object") = some true
theorem icB_ok {K : PySem.W.Frag} {C : Addr} (h : icB K C = true) : IcC K C := by
  unfold icB at h
  simp only [Bool.and_eq_true, decide_eq_true_eq] at h
  obtain ⟨⟨h1, h2⟩, ⟨h3, h4⟩, h5, h6⟩ := h
  exact ⟨h1, xfB_ok h2, h3, h4, h5, h6⟩
structure ExF (K : PySem.W.Frag) (C : Addr) (fs : List Str) : Prop where
  ox : OexC K C
  ic : IcC K C
  no : ∀ f ∈ fs, PySem.W.findIn K (.ref C) f = some none
theorem exB_ok {K : PySem.W.Frag} {C : Addr} {fs : List Str} (h : exB K C fs = true) : ExF K C fs := by
  unfold exB at h
  rw [Bool.and_eq_true, Bool.and_eq_true] at h
  obtain ⟨⟨h1, h2⟩, h3⟩ := h
  have I := icB_ok h2
  refine ⟨?_, I, fun f hf => of_decide_eq_true (List.all_eq_true.mp h3 f hf)⟩
  unfold oxB at h1
  simp only [Bool.and_eq_true, decide_eq_true_eq] at h1
  obtain ⟨⟨q, hk⟩, hs, ht⟩ := h1
  refine ⟨?_, hs, I.xf.exC, ht, hk⟩
  unfold xcB at q
  split at q
  · rename_i dd cd sl ho
    split at q
    · rename_i D bm m0 m1 m2 m3 n m5 hm hl
      simp only [Bool.and_eq_true, beq_iff_eq, Bool.not_eq_true'] at q
      obtain ⟨⟨rfl, rfl⟩, ⟨hdel, hdct⟩, hr⟩ := q
      obtain ⟨nm, bs, mro, ns, qn, hd, sn, sub, ab, col, del⟩ := cd
      dsimp only at hm hdel hdct
      subst hm hdel hdct
      have e : sl = #[m0, m1, m2, m3, some (.builtin "ValueError.__new__"), m5] := by
        obtain ⟨l⟩ := sl
        simp only at hl
        rw [hl]
      subst e
      exact ⟨nm, qn, ns, bs, bm, sn, sub, ab, col, dd, m0, m1, m2, m3, m5, ho, hr⟩
    · cases q
  · cases q
/-- the class at B over which they stand -/
structure BaseC (K : PySem.W.Frag) (B : Addr) : Prop where
  rd : PySem.W.readsIn K B (.type "type") = true
  ga : PySem.W.specialIn K (.ref B) "__getattribute__" = some (some (.builtin "type.__getattribute__"))
  at_ : PySem.W.findCls K (.ref B) (.type "type") "__init__" = some (.val (.builtin "ValueError.__init__"))
def baseB (K : PySem.W.Frag) (B : Addr) : Bool := PySem.W.readsIn K B (.type "type") && (decide (PySem.W.specialIn K (.ref B) "__getattribute__" = some (some (.builtin "type.__getattribute__"))) && (match PySem.W.findCls K (.ref B) (.type "type") "__init__" with | some (.val (.builtin n)) => n == "ValueError.__init__" | _ => false))
theorem baseB_ok {K : PySem.W.Frag} {B : Addr} (h : baseB K B = true) : BaseC K B := by
  unfold baseB at h
  simp only [Bool.and_eq_true, decide_eq_true_eq] at h
  obtain ⟨h1, h2, h3⟩ := h
  split at h3
  · rename_i n e
    rw [beq_iff_eq] at h3
    subst h3
    exact ⟨h1, h2, e⟩
  · cases h3
section
variable {X : Cx} {a1 : Expr} {ar : List Expr} {ta : TA} {x : Str} {q1 q2 qc : Pos} {B : Addr}
theorem pe_binit {pl : Sem Bool} (hg : Gl X x) (hm : X.mg x = some (.ref B)) (T : BaseC X.K B) (ha : PA X (a1 :: ar) ta)
    (hcal : eval (.Call (.Attribute (.Name x q1) "__init__" q2) (a1 :: ar) [] qc) X.env = (eval (.Name x q1) X.env >>= fun ov => standAt q2.atName >>= fun _ => holding [ov] (getMethod ov "__init__" pl) >>= fun r => callWith qc r.1 r.2 (backTo qc (starEach (a1 :: ar) X.env)) (backToKw qc (keywordEach [] X.env))) := by rfl)
    (hst : starEach (a1 :: ar) X.env = (false, eval a1 X.env) :: starEach ar X.env := by rfl) (hps : (backTo qc (starEach ar X.env)).any (·.1) = false := by rfl) (hdb : (x == ("__debug__" : Str)) = false := by decide) :
    PE X (.Call (.Attribute (.Name x q1) "__init__" q2) (a1 :: ar) [] qc) (tVeI X.K ta) := by
  refine ⟨fun pins s σ H Q I h => ?_⟩
  refine PySem.W.methodCall_KW (ld_glob I hg hm ?_ hdb) hcal
  refine PySem.W.method_cls I.kIn T.ga (PySem.W.cls_value I.kIn T.rd T.at_ (by decide +kernel) ?_)
  show wpAny _ _ (callWith qc (Value.builtin "ValueError.__init__") [] (backTo qc (starEach (a1 :: ar) X.env)) []) _ _ _
  refine PyProof.Rows.callWith_method1 (thn (ha.run qc pins _ σ H _ (I.tok _) h) fun us s1 hh => ?_) hst hps
  obtain ⟨vs, H1, I1, r1, a, C, ws, ev, hl, OC, ea, q⟩ := hh
  subst ev
  cases r1 with
  | @cons _ u0 _ ur ra rr =>
    obtain rfl : u0 = Value.ref a := ra
    exact oinit_ok OC I1 ea (by rw [← Paired.length rr, sizeLine_eq]; omega) fun s' J => ⟨.non, H1, J, rfl, q⟩
/-- C(e, ..) as a value, its own __init__ keeping sp -/
def tMkV (C : Addr) (sp : Sp) (ta : TA) : TE := fun σ H Q => ta σ H fun vs H1 => vs.length ≤ 1000 ∧ ∀ a, H1 a = none → sp (.ref a :: vs) (upd H1 a (exo a C none)) (fun v H2 => v = .non ∧ Q (.ref a) H2) (fun _ _ _ => False)
theorem pe_mkv {CX : CXT} {C fI : Addr} {k : Nat} {fd : FuncData} {ps : List Str} {sp : Sp} (T : OexC X.K C) (iC : PySem.W.findIn X.K (.ref C) "__init__" = some (some (.ref fI))) (tI : PySem.W.typeIn X.K (.ref fI) = some (.type "function"))
    (F1 : FnOk X.prog X.w X.K X.mg X.base CX k fI fd ps sp) (hr : Room (k + 1) X.A) (hb : Binds X.K fd ps []) (hx : Passes CX X (fun _ _ _ => False)) (hg : Gl X x) (hm : X.mg x = some (.ref C)) (ha : PA X (a1 :: ar) ta)
    (hdb : (x == ("__debug__" : Str)) = false := by decide) (hst : starEach (a1 :: ar) X.env = (false, eval a1 X.env) :: starEach ar X.env := by rfl) (hps : (backTo qc (starEach ar X.env)).any (·.1) = false := by rfl) :
    PE X (.Call (.Name x q1) (a1 :: ar) [] qc) (tMkV C sp ta) := by
  refine ⟨fun pins s σ H Q I h => ?_⟩
  obtain ⟨nm, q, N, bs, bm, sn, sub, ab, col, dd, k0, k1, k2, k3, k5, hC, hbm⟩ := T.cls
  refine wpAny_Call_Name_kw (ld_glob I hg hm ?_ hdb)
  refine PySem.W.callWith_K (h₀ := X.base) I.ok.mod.kin T.kC (thn (ha.run qc pins s σ H _ I h) fun us s1 hh => ?_) hst hps
  obtain ⟨vs, H1, I1, r1, hz, qq⟩ := hh
  refine ⟨I1.kIn, ?_⟩
  show wpAny _ _ (call (.ref C) us) _ _ _
  obtain ⟨hp, g, dr, tk, os⟩ := s1
  have le1 : hp.objs.size ≤ hp.objs.size + 1 := Nat.le_succ _
  have hn : H1 (hp.objs.size + 1) = none := I1.hok.fresh le1
  have hq := qq (hp.objs.size + 1) hn
  have kep : ∀ b o, hp.get? b = some o → ((hp.push (PySem.W.kdv_tup us)).push (PySem.HandSPX.excO C hp.objs.size)).get? b = some o := fun b o z => Heap.get?_push_of_some _ (Heap.get?_push_of_some _ z)
  have hget : ((hp.push (PySem.W.kdv_tup us)).push (PySem.HandSPX.excO C hp.objs.size)).get? (hp.objs.size + 1) = some (PySem.HandSPX.excO C hp.objs.size) := by heap_get
  have J2 : Inv X pins σ (upd H1 (hp.objs.size + 1) (exo (hp.objs.size + 1) C none)) ⟨(hp.push (PySem.W.kdv_tup us)).push (PySem.HandSPX.excO C hp.objs.size), g, dr, tk, os⟩ :=
    I1.laid (t' := tk) (a := hp.objs.size + 1) (o := exo (hp.objs.size + 1) C none) (h' := (hp.push (PySem.W.kdv_tup us)).push (PySem.HandSPX.excO C hp.objs.size)) kep le1 (exo_ok hget)
  have rv2 : Vals (V.ref (hp.objs.size + 1) :: vs) (Value.ref (hp.objs.size + 1) :: us) := .cons rfl r1
  have hlen : (Value.ref (hp.objs.size + 1) :: us ++ []).length = ps.length := by
    have z := rv2.length
    rw [F1.len _ _ _ _ hq] at z
    rw [List.append_nil]
    exact z.symm
  have hus : us.length ≤ sizeLine := by
    rw [← Paired.length r1, sizeLine_eq]
    omega
  refine wpAny_call (PySem.HandSPX.call_own F.excBase_ValueError (fun Y => PySem.HandSPX.refsVE_contains Y bm hbm) (I1.kIn _ _ hC) (PySem.W.looks_findIn I1.kIn iC) (fun self => PySem.W.bind_fn I1.kIn self tI) hus ?_)
  have hbb := hb _ (Value.ref (hp.objs.size + 1) :: us) J2.kIn hlen
  rw [List.append_nil] at hbb
  refine codeAny_mono (F1.run _ X.stack _ _ ⟨Value.ref (hp.objs.size + 1) :: us, []⟩ (Value.ref (hp.objs.size + 1) :: us) _ _ (fun _ _ _ => False) (hr.make C us []) (J2.env0.make C us []) hbb rv2 hq) fun r s' hq' => ?_
  cases r with
  | error er => exact hx pins σ _ _ er s' J2 hq'
  | ok fl =>
    cases fl with
    | ret u =>
      obtain ⟨v, H2, os2, bare2, un2, hok2, rv, ev, q2⟩ := hq'
      subst ev
      exact ⟨rv, .ref _, H2, J2.call' (ch := []) os2 un2 hok2 bare2 (fun b z => absurd z (by simp)), rfl, q2⟩
    | next => exact False.elim hq'
    | brk => exact False.elim hq'
    | cont => exact False.elim hq'
/-- an error of the class at D stands at a -/
def ErrAt (H : Hp) (a D : Addr) : Prop := (∃ (d : Addr) (fs : List (Str × V)), H a = some (exo a D (some d)) ∧ H d = some (exd d fs)) ∨ H a = some (ExO (.ref D) a)
theorem err_inst {pins : List (Addr × Obj)} {σ : St} {H : Hp} {s : Shared} {a D : Addr} (I : Inv X pins σ H s) (h : ErrAt H a D) : ∃ ox od, PySem.W.InstAt s.heap a ox D od := by
  rcases h with ⟨d, fs, h1, h2⟩ | h1
  · obtain ⟨t1, ho⟩ := exo_at I.hok h1
    obtain ⟨mA, hns, _⟩ := exd_at I.hok h2
    obtain ⟨od, hod, _⟩ := lookIn_ns hns
    exact ⟨_, some od, ho, rfl, rfl, hod⟩
  · have z : ObjOk X.prog X.w H s.heap a (ExO (.ref D) a) := I.hok a _ h1
    obtain ⟨⟨oe, vs, e, zc, d, _⟩, _⟩ := z
    refine ⟨oe, none, e, zc.1, by unfold PySem.W.notCls; rw [d] <;> rfl, ?_⟩
    rw [zc.2]
    trivial
/-- isinstance(e, c) of such an error -/
def rIsX (K : PySem.W.Frag) : List V → Hp → VK → Prop := fun xs H Q => ∃ (a D : Addr) (c : V) (cv : Value) (b : Bool), xs = [.ref a, c] ∧ ClsV c cv ∧ IcC K D ∧ ErrAt H a D ∧ PySem.W.kitOne K (.ref D) cv = some b ∧ Q (.bl b) H
theorem call_isX : CallR X (.builtin "isinstance") (rIsX X.K) := by
  intro pins s σ H xs us Q I r h
  obtain ⟨a, D, c, cv, b, rfl, hcv, C, he, e, q⟩ := h
  cases r with
  | cons rx rr =>
    cases rr with
    | cons rt rn =>
      cases rn
      cases rx
      have ec := hcv.eq rt
      subst ec
      obtain ⟨ox, od, J⟩ := err_inst I he
      exact PySem.W.kia_one (PySem.W.kitx_exc C.cl C.xf.ga C.xf.gg C.xf.exC C.ha C.hn C.ht C.hm) I.kIn J e (fun z => nomatch z) fun tk => ⟨.bl b, H, I.kept (t' := tk) fun _ _ z => z, rfl, q⟩
/-- e.f of such an error -/
def tXfV (K : PySem.W.Frag) (f : Str) (te : TE) : TE := fun σ H Q => te σ H fun x H1 => ∃ (a C d : Addr) (fs : List (Str × V)) (v : V), x = .ref a ∧ XfC K C ∧ PySem.W.findIn K (.ref C) f = some none ∧ H1 a = some (exo a C (some d)) ∧ H1 d = some (exd d fs) ∧ fs.lookup f = some v ∧ Q v H1
theorem pe_xfv {e : Expr} {te : TE} {f : Str} (he : PE X e te) (hb : attributeBase e f X.env (eval e X.env) = eval e X.env := by rfl) : PE X (.Attribute e f qc) (tXfV X.K f te) := by
  refine ⟨fun pins s σ H Q I h => ?_⟩
  refine attr_of hb (thn (he.run pins s σ H _ I h) fun u s1 hh => ?_)
  obtain ⟨x, H1, I1, rx, a, C, d, fs, v, rfl, T, hno, ea, ed, l, q⟩ := hh
  obtain rfl : u = Value.ref a := rx
  obtain ⟨t1, ho⟩ := exo_at I1.hok ea
  obtain ⟨mA, hns, hr⟩ := exd_at I1.hok ed
  obtain ⟨od, hod, hl⟩ := lookIn_ns hns
  obtain ⟨u, hu, ru⟩ := RelO.some_of (v := v) (o := mA f) (by rw [← l]; exact hr f)
  have J : PySem.W.InstAt s1.heap a _ C (some od) := ⟨ho, rfl, rfl, hod⟩
  exact HandSPX.exc_get I1.kIn J T.ga T.gg T.exC (PySem.W.findObj_own T.hdC hno rfl (by rw [hl, hu])) (handed_of ru) ⟨v, H1, I1.tok _, ru, q⟩
/-- one rule or the other -/
theorem op_or2 {f : Value → Value → Sem Value} {r r' : R2} (h : OpR X f r) (h' : OpR X f r') : OpR X f (fun x y H Q => r x y H Q ∨ r' x y H Q) := by
  intro pins s σ H x y v u Q I rx ry q
  rcases q with q | q
  · exact h pins s σ H x y v u Q I rx ry q
  · exact h' pins s σ H x y v u Q I rx ry q
end
end L2
namespace L2
open PySem PySem.Spec PyProof.Rows
/-- what __init__ of such a class keeps: one field, two fields -/
def sp_err1 (C : Addr) (f : Str) : Sp := fun vs H Q _ => ∃ (a : Addr) (v : V), vs = [.ref a, v] ∧ H a = some (exo a C none) ∧ ∀ d H2, H d = none → d ≠ a → (∀ b, b ≠ a → b ≠ d → H2 b = H b) → H2 a = some (exo a C (some d)) → H2 d = some (exd d [(f, v)]) → Q .non H2
def sp_err2 (C : Addr) (f g : Str) : Sp := fun vs H Q _ => ∃ (a : Addr) (v w : V), vs = [.ref a, v, w] ∧ H a = some (exo a C none) ∧ ∀ d H2, H d = none → d ≠ a → (∀ b, b ≠ a → b ≠ d → H2 b = H b) → H2 a = some (exo a C (some d)) → H2 d = some (exd d [(g, w), (f, v)]) → Q .non H2
section
variable {K : PySem.W.Frag} {C a : Addr} {f g z : Str} {v w : V} {H : Hp} {Q : VK}
theorem err1_run (T : OexC K C) (n1 : PySem.W.findIn K (.ref C) f = some none) (ha : H a = some (exo a C none)) (k : ∀ d H2, H d = none → d ≠ a → (∀ b, b ≠ a → b ≠ d → H2 b = H b) → H2 a = some (exo a C (some d)) → H2 d = some (exd d [(f, v)]) → Q .non H2) :
    tSeq (tDrop (tVeI K (tCons (tVar 0) (tCons (tC (.str z)) tNil)))) (tOst K f (tVar 0) (tVar 1)) { nx := fun _ H' => Q .non H', rt := Q } [some (.ref a), some v] H := by
  refine ⟨_, rfl, a, C, _, rfl, (by show 1 ≤ 1000; omega), T, ha, _, rfl, _, rfl, a, C, rfl, T, n1, .inl ⟨ha, fun d hd hne => ?_⟩⟩
  refine k d _ hd hne (fun b h1 h2 => by rw [upd_ne h1, upd_ne h2]) upd_same ?_
  rw [upd_ne hne, upd_same]
theorem err2_run (T : OexC K C) (n1 : PySem.W.findIn K (.ref C) f = some none) (n2 : PySem.W.findIn K (.ref C) g = some none) (ha : H a = some (exo a C none)) (k : ∀ d H2, H d = none → d ≠ a → (∀ b, b ≠ a → b ≠ d → H2 b = H b) → H2 a = some (exo a C (some d)) → H2 d = some (exd d [(g, w), (f, v)]) → Q .non H2) :
    tSeq (tDrop (tVeI K (tCons (tVar 0) (tCons (tC (.str z)) tNil)))) (tSeq (tOst K f (tVar 0) (tVar 1)) (tOst K g (tVar 0) (tVar 2))) { nx := fun _ H' => Q .non H', rt := Q } [some (.ref a), some v, some w] H := by
  refine ⟨_, rfl, a, C, _, rfl, (by show 1 ≤ 1000; omega), T, ha, _, rfl, _, rfl, a, C, rfl, T, n1, .inl ⟨ha, fun d hd hne => ?_⟩⟩
  have e1 : upd (upd H d (exd d [(f, v)])) a (exo a C (some d)) d = some (exd d [(f, v)]) := by rw [upd_ne hne, upd_same]
  refine ⟨_, rfl, _, rfl, a, C, rfl, T, n2, .inr ⟨d, _, upd_same, e1, (by show 1 ≤ 900; omega), ?_⟩⟩
  refine k d _ hd hne (fun b h1 h2 => by rw [upd_ne h2, upd_ne h1, upd_ne h2]) ?_ upd_same
  rw [upd_ne hne.symm, upd_same]
theorem c_xfv {te : TE} {σ : St} (h : te σ H fun x H1 => ∃ (a C d : Addr) (fs : List (Str × V)) (v : V), x = .ref a ∧ XfC K C ∧ PySem.W.findIn K (.ref C) f = some none ∧ H1 a = some (exo a C (some d)) ∧ H1 d = some (exd d fs) ∧ fs.lookup f = some v ∧ Q v H1) : tXfV K f te σ H Q := h
/-- the same, what is asked told by one word -/
def MkE (C : Addr) (sp : Sp) (vs : List V) (H : Hp) (Q : VK) : Prop := vs.length ≤ 1000 ∧ ∀ a, H a = none → sp (.ref a :: vs) (upd H a (exo a C none)) (fun v H2 => v = .non ∧ Q (.ref a) H2) (fun _ _ _ => False)
theorem c_mkv {sp : Sp} {ta : TA} {σ : St} (h : ta σ H fun vs H1 => MkE C sp vs H1 Q) : tMkV C sp ta σ H Q := h
/-- an error of the class at C with these fields, at a, its dict at d -/
def Er (H : Hp) (a C d : Addr) (fs : List (Str × V)) : Prop := H a = some (exo a C (some d)) ∧ H d = some (exd d fs)
theorem Er.up {H H2 : Hp} {a C d : Addr} {fs : List (Str × V)} (h : Er H a C d fs) (e : Evl.Ex H H2) : Er H2 a C d fs := ⟨e _ _ h.1, e _ _ h.2⟩
theorem Er.at {H : Hp} {a C d : Addr} {fs : List (Str × V)} (h : Er H a C d fs) : ErrAt H a C := .inl ⟨d, fs, h.1, h.2⟩
theorem mkv1 (k : ∀ a d H2, H a = none → H d = none → Evl.Ex H H2 → Er H2 a C d [(f, v)] → Q (.ref a) H2) : MkE C (sp_err1 C f) [v] H Q := by
  refine ⟨by show 1 ≤ 1000; omega, fun a ha => ⟨a, v, rfl, upd_same, fun d H2 hd hne hk h1 h2 => ⟨rfl, ?_⟩⟩⟩
  rw [upd_ne hne] at hd
  refine k a d H2 ha hd (fun b o hb => ?_) ⟨h1, h2⟩
  have nb := ne_of_none hb ha
  rw [hk b nb (ne_of_none hb hd), upd_ne nb]
  exact hb
theorem mkv2 (k : ∀ a d H2, H a = none → H d = none → Evl.Ex H H2 → Er H2 a C d [(g, w), (f, v)] → Q (.ref a) H2) : MkE C (sp_err2 C f g) [v, w] H Q := by
  refine ⟨by show 2 ≤ 1000; omega, fun a ha => ⟨a, v, w, rfl, upd_same, fun d H2 hd hne hk h1 h2 => ⟨rfl, ?_⟩⟩⟩
  rw [upd_ne hne] at hd
  refine k a d H2 ha hd (fun b o hb => ?_) ⟨h1, h2⟩
  have nb := ne_of_none hb ha
  rw [hk b nb (ne_of_none hb hd), upd_ne nb]
  exact hb
end
end L2
namespace L2
open PySem PySem.Spec PyProof.Rows
/-- of the error classes Cs each is of itself alone, of B, of ValueError -/
def kinB (K : PySem.W.Frag) (Cs : List Addr) : Bool := (List.range Cs.length).all fun i => (List.range Cs.length).all fun j => match Cs[i]?, Cs[j]? with
  | some D, some C => decide (PySem.W.kitOne K (.ref D) (.ref C) = some (decide (i = j)))
  | _, _ => true
def famB (K : PySem.W.Frag) (B : Addr) (Cs : List Addr) : Bool := (Cs.all fun D => decide (PySem.W.kitOne K (.ref D) (.ref B) = some true) && (decide (PySem.W.kitOne K (.ref D) (.type "ValueError") = some true) && decide (PySem.W.kitOne K (.ref B) (.ref D) = some false))) && (decide (PySem.W.kitOne K (.ref B) (.type "ValueError") = some true) && kinB K Cs)
structure Fam (K : PySem.W.Frag) (B : Addr) (Cs : List Addr) : Prop where
  b : ∀ D ∈ Cs, PySem.W.kitOne K (.ref D) (.ref B) = some true
  v : ∀ D ∈ Cs, PySem.W.kitOne K (.ref D) (.type "ValueError") = some true
  n : ∀ D ∈ Cs, PySem.W.kitOne K (.ref B) (.ref D) = some false
  bv : PySem.W.kitOne K (.ref B) (.type "ValueError") = some true
  k : ∀ (i j : Nat) (D C : Addr), Cs[i]? = some D → Cs[j]? = some C → PySem.W.kitOne K (.ref D) (.ref C) = some (decide (i = j))
theorem famB_ok {K : PySem.W.Frag} {B : Addr} {Cs : List Addr} (h : famB K B Cs = true) : Fam K B Cs := by
  unfold famB at h
  rw [Bool.and_eq_true, Bool.and_eq_true] at h
  obtain ⟨h1, h2, h3⟩ := h
  have h1' := List.all_eq_true.mp h1
  simp only [Bool.and_eq_true, decide_eq_true_eq] at h1'
  refine ⟨fun D hD => (h1' D hD).1, fun D hD => (h1' D hD).2.1, fun D hD => (h1' D hD).2.2, of_decide_eq_true h2, fun i j D C hi hj => ?_⟩
  unfold kinB at h3
  have q := List.all_eq_true.mp (List.all_eq_true.mp h3 i (List.mem_range.mpr (List.getElem?_eq_some_iff.mp hi).1)) j (List.mem_range.mpr (List.getElem?_eq_some_iff.mp hj).1)
  rw [hi, hj] at q
  exact of_decide_eq_true q
theorem ErrAt.up {H H2 : Hp} {a D : Addr} (h : ErrAt H a D) (e : Evl.Ex H H2) : ErrAt H2 a D := by
  rcases h with ⟨d, fs, h1, h2⟩ | h1
  · exact .inl ⟨d, fs, e _ _ h1, e _ _ h2⟩
  · exact .inr (e _ _ h1)
theorem is_x {K : PySem.W.Frag} {H : Hp} {Q : VK} {a D : Addr} {c : V} {cv : Value} {b : Bool} (hc : ClsV c cv) (ic : IcC K D) (h : ErrAt H a D) (e : PySem.W.kitOne K (.ref D) cv = some b) (q : Q (.bl b) H) : rIsX K [.ref a, c] H Q := ⟨a, D, c, cv, b, rfl, hc, ic, h, e, q⟩
end L2

/-! ### more loops, more comparisons -/
namespace L2
open PySem PySem.Spec PyProof.Rows
section
variable {K : PySem.W.Frag} {σ : St} {H : Hp} {D : Ends} {Q : VK} {g : TG} {tb : TS} {tt : TT} {te : TE} {vs : List Nat} {ta : TA}
theorem c_forE (h : ta σ H fun ws H1 => ∃ a xs, ws = [.ref a] ∧ SqL K H1 a xs ∧ ForI (Ite K a) g tb D σ H1) : tFor (iEnum K ta) g tb D σ H := h
theorem c_lcZi (h : ta σ H fun ws H1 => ∃ a b xs ys, ws = [.ref a, .ref b] ∧ SqL K H1 a xs ∧ SqL K H1 b ys ∧ LcI (Itz K a b) g tt te vs σ H1 Q) : tLc (iZip K ta) g tt te vs σ H Q := h
/-- for i, x in enumerate(l) -/
theorem forE {a : Addr} {xs : List V} (Pv : Nat → St → Hp → Prop) (h0 : Pv 0 σ H) (hl : ∀ i σ' H', i ≤ xs.length → Pv i σ' H' → SqL K H' a xs)
    (hs : ∀ i x T σ' H', xs[i]? = some x → Pv i σ' H' → H' T = none → g (.ref T) σ' (upd H' T (.tup [.int (i : Nat), x])) fun σ2 H2 => tb { D with nx := Pv (i + 1), ct := Pv (i + 1), bk := D.nx } σ2 H2)
    (hd : ∀ σ' H', Pv xs.length σ' H' → D.nx σ' H') : ForI (Ite K a) g tb D σ H :=
  for_it walk_enum Pv h0 (fun i σ' H' hi p => hl i σ' H' hi p) (fun i v σ' H' H'' hi p y => by
    obtain ⟨T, x, z, rfl, hT, rfl, ex, ez⟩ := y
    cases ex
    exact hs i z T σ' H' ez p hT) hd
/-- [.. for x in l], each thing made so that P holds of it, whatever is done to the list or made behind it -/
theorem lcLP {a : Addr} {xs : List V} (P : Addr → Nat → V → Hp → Prop) (hst : ∀ D i y G G2, ExB D G G2 → P D i y G → P D i y G2) (hs : SqL K H a xs) (hn : xs.length ≤ 1000)
    (ht : ∀ (D : Addr) (i : Nat) (x : V), H D = none → xs[i]? = some x → ∀ H2, Evl.Ex H H2 → (∃ o, H2 D = some o) → ∀ (R : V → Hp → Prop) (N : Hp → Prop), (∀ y H3, Evl.Ex H2 H3 → P D i y H3 → R y H3) →
      g x (wipe σ vs) H2 fun σ2 H3 => wipe σ2 vs = wipe σ vs ∧ tt σ2 H3 fun c H4 => if c = true then te σ2 H4 fun y H5 => R y H5 else N H4)
    (k : ∀ ys p H2, ys.length = xs.length → (∀ i y, ys[i]? = some y → P p i y H2) → H p = none → Evl.Ex H H2 → H2 p = some (.lst ys) → Q (.ref p) H2) : LcI (Itl K a) g tt te vs σ H Q := by
  refine fun D hD => ?_
  have ex : ∀ {G : Hp} {o : HO}, Evl.Ex H G → Evl.Ex H (upd G D o) := fun e b u hb => by rw [upd_ne (ne_of_none hb hD)]; exact e b u hb
  refine lc_list (xs := xs) (fun i H' => i ≤ xs.length ∧ Evl.Ex H H' ∧ ∃ ys, ys.length = i ∧ (∀ j y, ys[j]? = some y → P D j y H') ∧ H' D = some (.lst ys))
    ⟨Nat.zero_le _, ex (Evl.Ex.refl _), [], rfl, (fun j y h => by simp at h), upd_same⟩ (fun i H' _ p => Evl.ex_l p.2.1 hs) (fun i x H' hi p => ?_) (fun H' p => ?_)
  · obtain ⟨_, e1, ys, hl, hy, hD'⟩ := p
    have hil := (List.getElem?_eq_some_iff.mp hi).1
    refine ht D i x hD hi H' e1 ⟨_, hD'⟩ (fun y H4 => ∃ acc, H4 D = some (.lst acc) ∧ acc.length < sizeLine ∧ (i + 1 ≤ xs.length ∧ Evl.Ex H (upd H4 D (.lst (acc ++ [y]))) ∧ ∃ zs, zs.length = i + 1 ∧ (∀ j y2, zs[j]? = some y2 → P D j y2 (upd H4 D (.lst (acc ++ [y])))) ∧ upd H4 D (.lst (acc ++ [y])) D = some (.lst zs))) _ (fun y H3 e3 py => ?_)
    have eD : ExB D H3 (upd H3 D (.lst (ys ++ [y]))) := fun b o nb hb => by rw [upd_ne nb]; exact hb
    refine ⟨ys, e3 _ _ hD', Evl.sz_lt (by omega), hil, ex (e1.trans e3), ys ++ [y], by rw [List.length_append, hl]; rfl, fun j y2 hj => ?_, upd_same⟩
    rcases Nat.lt_or_ge j ys.length with h | h
    · rw [List.getElem?_append_left h] at hj
      exact hst _ _ _ _ _ eD (hst _ _ _ _ _ (fun b o _ hb => e3 b o hb) (hy j y2 hj))
    · rw [List.getElem?_append_right h] at hj
      have hj0 : j - ys.length = 0 := by
        have := (List.getElem?_eq_some_iff.mp hj).1
        rw [List.length_singleton] at this
        omega
      rw [hj0] at hj
      have hyy : y = y2 := by simpa using hj
      subst hyy
      have : j = i := by omega
      subst this
      exact hst _ _ _ _ _ eD py
  · obtain ⟨_, e1, ys, hl, hy, hD'⟩ := p
    exact k ys D H' hl hy hD e1 hD'
/-- what stands outside of S stays -/
def ExS (S : Addr → Prop) (H H2 : Hp) : Prop := ∀ a o, ¬ S a → H a = some o → H2 a = some o
theorem ExS.refl {S : Addr → Prop} (H : Hp) : ExS S H H := fun _ _ _ h => h
theorem ExS.trans {S : Addr → Prop} {H H2 H3 : Hp} (h : ExS S H H2) (k : ExS S H2 H3) : ExS S H H3 := fun a o n q => k a o n (h a o n q)
theorem ExS.of {S : Addr → Prop} {H H2 : Hp} (h : Evl.Ex H H2) : ExS S H H2 := fun a o _ q => h a o q
/-- [f(x, y) for x, y in zip(l, m)], where each answer is True, and only what is in S may change -/
theorem lcZ {S : Addr → Prop} {a b : Addr} {xs ys : List V} (J : Nat → Hp → Prop) (hab : xs.length = ys.length) (hn : xs.length ≤ 1000) (ha : ∀ G, ExS S H G → SqL K G a xs) (hb : ∀ G, ExS S H G → SqL K G b ys) (h0 : J 0 H) (hJ : ∀ i G D o, H D = none → J i G → J i (upd G D o)) (hS : ∀ z, S z → H z ≠ none)
    (ht : ∀ (i : Nat) (x y : V), xs[i]? = some x → ys[i]? = some y → ∀ H2 T, ExS S H H2 → J i H2 → H2 T = none → ∀ (R : V → Hp → Prop) (N : Hp → Prop), (∀ H3, ExS S (upd H2 T (.tup [x, y])) H3 → J (i + 1) H3 → R (.bl true) H3) →
      g (.ref T) (wipe σ vs) (upd H2 T (.tup [x, y])) fun σ2 H3 => wipe σ2 vs = wipe σ vs ∧ tt σ2 H3 fun c H4 => if c = true then te σ2 H4 fun y H5 => R y H5 else N H4)
    (k : ∀ p H2, H p = none → ExS S H H2 → J xs.length H2 → H2 p = some (.lst (List.replicate xs.length (.bl true))) → Q (.ref p) H2) : LcI (Itz K a b) g tt te vs σ H Q := by
  refine fun D hD => ?_
  have nSD : ¬ S D := fun z => hS D z hD
  have ex : ∀ {G : Hp} {o : HO}, ExS S H G → ExS S H (upd G D o) := fun e c u nc hc => by rw [upd_ne (ne_of_none hc hD)]; exact e c u nc hc
  refine lc_it (walk_zip (xs := xs) (ys := ys) (n := xs.length) (by omega)) (fun i H' => i ≤ xs.length ∧ ExS S H H' ∧ J i H' ∧ H' D = some (.lst (List.replicate i (.bl true)))) ⟨Nat.zero_le _, ex (ExS.refl _), hJ _ _ _ _ hD h0, upd_same⟩ (fun i H' _ p => ⟨ha _ p.2.1, hb _ p.2.1⟩) (fun i v H' H'' hi p y => ?_) (fun H' p => k D H' hD p.2.1 p.2.2.1 p.2.2.2)
  obtain ⟨T, x, z, rfl, hT, rfl, ex1, ez⟩ := y
  obtain ⟨_, e1, j1, hD'⟩ := p
  have nTD : D ≠ T := ne_of_none hD' hT
  refine ht i x z ex1 ez H' T e1 j1 hT (fun y H4 => ∃ acc, H4 D = some (.lst acc) ∧ acc.length < sizeLine ∧ (i + 1 ≤ xs.length ∧ ExS S H (upd H4 D (.lst (acc ++ [y]))) ∧ J (i + 1) (upd H4 D (.lst (acc ++ [y]))) ∧ upd H4 D (.lst (acc ++ [y])) D = some (.lst (List.replicate (i + 1) (.bl true))))) _ (fun H3 e3 j3 => ?_)
  refine ⟨_, e3 D _ nSD (by rw [upd_ne nTD]; exact hD'), ?_, hi, ex ?_, hJ _ _ _ _ hD j3, ?_⟩
  · rw [List.length_replicate]
    exact Evl.sz_lt (by omega)
  · refine fun c o nc hc => e3 c o nc ?_
    have h1 := e1 c o nc hc
    rw [upd_ne (ne_of_none h1 hT)]
    exact h1
  · rw [upd_same, List.replicate_succ'] <;> rfl
end
/-! == and != of dicts of flat things -/
def eqK (ks ls : List (Key × V)) : Bool := ks.length == ls.length && ks.all fun p => match valV ls p.1 with
  | some u => eqV p.2 u
  | none => false
section
variable {X : Cx} {pins : List (Addr × Obj)} {σ : St} {H : Hp} {s : Shared}
theorem hitsK (I : Inv X pins σ H s) (hu : X.A.units + 66 < cLine) {ls : List (Key × V)} {vb : List (Key × Value)} (rb : KV ls vb) (fl : ∀ k u, valV ls k = some u → okV u = true) {ks : List (Key × V)} {va : List (Key × Value)} (ra : KV ks va) (fk : ∀ p ∈ ks, okV p.2 = true) :
    PySem.W.KeqHits X.A.in1 s vb va (ks.all fun p => match valV ls p.1 with | some u => eqV p.2 u | none => false) := by
  unfold KV at ra
  induction ra with
  | nil => exact .nil
  | @cons p q ps qs h t ih =>
    obtain ⟨key, v⟩ := q
    obtain ⟨h1, h2⟩ := h
    have h1' : p.1 = key := h1
    have ih' := ih fun p' hm => fk p' (List.mem_cons_of_mem _ hm)
    rw [List.all_cons]
    have rr : RelO (valV ls p.1) (PySem.valueAt vb p.1) := rb.val p.1
    rw [h1'] at rr ⊢
    cases e : valV ls key with
    | none =>
      rw [e] at rr
      cases e2 : PySem.valueAt vb key with
      | none => exact .miss e2
      | some y =>
        rw [e2] at rr
        exact rr.elim
    | some u =>
      rw [e] at rr
      obtain ⟨y, hy, ry⟩ := rr.some_of
      have fp := fk p List.mem_cons_self
      have fu := fl key u e
      obtain ⟨as, r1⟩ := Dp.reads I (dOf p.2) p.2 v (dp_flat (okV_flat fp)) h2
      obtain ⟨bs, r2⟩ := Dp.reads I (dOf u) u y (dp_flat (okV_flat fu)) ry
      have z := PySem.W.keq_at (A := X.A) r1 r2 (shaped_flat fp) (shaped_flat fu) (by show X.A.units + 1 + 64 < cLine; omega)
      rw [eqv_flat (okV_flat fp) (okV_flat fu)] at z
      exact .hit hy z ih'
def rEqK : R2 := fun x y H Q => ∃ (a b : Addr) (ks ls : List (Key × V)), x = .ref a ∧ y = .ref b ∧ H a = some (.dK ks) ∧ H b = some (.dK ls) ∧ (∀ p ∈ ks, okV p.2 = true) ∧ (∀ k u, valV ls k = some u → okV u = true) ∧ Q (.bl (eqK ks ls)) H
def rNeK : R2 := fun x y H Q => ∃ (a b : Addr) (ks ls : List (Key × V)), x = .ref a ∧ y = .ref b ∧ H a = some (.dK ks) ∧ H b = some (.dK ls) ∧ (∀ p ∈ ks, okV p.2 = true) ∧ (∀ k u, valV ls k = some u → okV u = true) ∧ Q (.bl (!eqK ks ls)) H
theorem op_eqK (hu : X.A.units + 66 < cLine) : OpR X (compareOp .Eq) rEqK := by
  intro pins s σ H x y v u Q I rx ry h
  obtain ⟨a, b, ks, ls, rfl, rfl, ha, hb, fk, fl, q⟩ := h
  cases (show v = Value.ref a from rx)
  cases (show u = Value.ref b from ry)
  obtain ⟨_, ya, va, ra, da⟩ := (show ObjOk X.prog X.w H s.heap a (.dK ks) from I.hok a _ ha)
  obtain ⟨_, yb, vb, rb, db⟩ := (show ObjOk X.prog X.w H s.heap b (.dK ls) from I.hok b _ hb)
  refine PySem.W.keq_eq (knd := mixKind X.prog X.w) ya yb da db (by omega) (fun _ => hitsK I hu rb fl ra fk) ?_
  rw [← ra.length, ← rb.length]
  exact ⟨.bl _, H, I, rfl, q⟩
theorem op_neK (hu : X.A.units + 66 < cLine) : OpR X (compareOp .NotEq) rNeK := by
  intro pins s σ H x y v u Q I rx ry h
  obtain ⟨a, b, ks, ls, rfl, rfl, ha, hb, fk, fl, q⟩ := h
  cases (show v = Value.ref a from rx)
  cases (show u = Value.ref b from ry)
  obtain ⟨_, ya, va, ra, da⟩ := (show ObjOk X.prog X.w H s.heap a (.dK ks) from I.hok a _ ha)
  obtain ⟨_, yb, vb, rb, db⟩ := (show ObjOk X.prog X.w H s.heap b (.dK ls) from I.hok b _ hb)
  refine PySem.W.keq_ne (knd := mixKind X.prog X.w) ya yb da db (by omega) (fun _ => hitsK I hu rb fl ra fk) ?_
  rw [← ra.length, ← rb.length]
  exact ⟨.bl _, H, I, rfl, q⟩
end
theorem hu66 {A : Around} {k : Nat} (hr : Room k A) : A.units + 66 < cLine := by have := hr.un; omega
end L2

/-! ### defs that may show things by repr: no repr stands above them -/
namespace L2
open PySem PySem.Spec PyProof.Rows
/-- FnOk where nothing is being shown yet -/
structure FnG (P : Program) (w : World) (K : PySem.W.Frag) (mg : Str → Option Value) (base : Heap) (CX : CXT) (k : Nat) (f : Addr) (fd : FuncData) (ps : List Str) (sp : Sp) : Prop where
  len : ∀ vs H Q E, sp vs H Q E → vs.length = ps.length
  run : ∀ (A : Around) (outer : List Env) (s : Shared) (H : Hp) (args : Args) (us : List Value) (vs : List V) (Q : VK) (E : XK), A.guards = some [] → Room k A → Env0 P w K mg base A outer s H → BindsTo s fd args (ps.zip us) → Vals vs us → sp vs H Q E →
    codeAny (model P w) A (.call (.ref f) args) (CR CX outer P w H s Q E) s
section
variable {P : Program} {w : World} {K : PySem.W.Frag} {mg : Str → Option Value} {base : Heap} {CX : CXT} {k : Nat} {f : Addr} {fd : FuncData} {ps : List Str} {sp : Sp}
theorem FnOk.g (F : FnOk P w K mg base CX k f fd ps sp) : FnG P w K mg base CX k f fd ps sp := ⟨F.len, fun A o s H ar us vs Q E _ => F.run A o s H ar us vs Q E⟩
theorem deeper_guards {A : Around} {env : Env} : (A.deeper env).guards = A.guards := by
  first
    | rfl
    | simp [Around.deeper]
end
section
variable {P : Program} {w : World} {K : PySem.W.Frag} {mg : Str → Option Value} {base : Heap}
/-- a def by its body, as Fun.ok, the body told that nothing is being shown -/
theorem Fun.okG {x qual : Str} {st : Stmt} {f : Addr} {fd : FuncData} {N ps : List Str} {k : Nat} {sp : Sp} (F : Fun K x qual st f fd) (S : FnScope N ps (defScope st)) (len : ∀ vs H Q E, sp vs H Q E → vs.length = ps.length)
    (hb : ∀ (cdv : Value) (A : Around) (outer : List Env) (s : Shared) (H : Hp) (vs : List V) (Q : VK) (E : XK), A.guards = some [] → Room k (A.deeper (envOfC qual (defScope st) s.heap.objs.size f cdv)) → sp vs H Q E →
      ∃ t, PSs (cxOf CX0 P w K mg base N qual (defScope st) f cdv A outer s H E).nox (defBody st) t ∧ t { nx := fun _ H' => Q .non H', rt := Q } (start N vs) H) : FnG P w K mg base CX0 (k + 1) f fd ps sp := by
  obtain ⟨oc, od, kV, doc, pm, an, cdv, ct, osl, rfl, lk, hcd⟩ := F.ex
  refine ⟨len, fun A outer s H args us vs Q E hgd hr env0 bnd rel hsp => ?_⟩
  have hlv := len _ _ _ _ hsp
  have kin : K.In s.heap := env0.mod.kin.keeps fun b o z => (env0.bs b o z).1
  have nol : s.heap.NoLimit := env0.mod.nolimit.keeps fun b o z => (env0.bs b o z).1
  have knd : ∀ y ∈ ps.zip us, (defScope st).names.lookup y.1 = some .local ∨ ((defScope st).names.lookup y.1 = some .cell ∧ ((cellsFrom (s.heap.objs.size + 1) (defScope st).names []).lookup y.1).isSome = true) := by
    rintro ⟨n, v⟩ hy
    rcases S.par n (List.of_mem_zip hy).1 with q | q
    · exact .inl q
    · exact .inr ⟨q, PySem.W.cellsFrom_some _ _ _ (.inl q)⟩
  refine codeAny_call_function hr.depth (kin _ _ lk) rfl S.co S.gen rfl (PySem.W.codeRec_of kin hcd) (bnd _ _ _ _ ?_)
  refine wpAny_newFunctionEnv_cells S.kind knd fun env henv s1 ic => ?_
  subst henv
  refine ⟨nol.keeps ic.toInCall.keep, codeAny_func ?_⟩
  obtain ⟨t, ht0, hq⟩ := hb cdv A outer s H vs Q E hgd (hr.deeper _) hsp
  have ht := ht0.nox
  have J0 : Inv (cxOf CX0 P w K mg base N qual (defScope st) f cdv A outer s H E) [] (start N vs) H s1 := inv_start S hr.hd env0 hlv rel ic
  refine wpAny_mono (ht.run [] s1 (start N vs) H _ J0 hq) (fun fl s' hs => ?_) fun _ _ z => z
  have done : ∀ {σ' : St} {H' : Hp} {v : V} {u : Value}, Inv (cxOf CX0 P w K mg base N qual (defScope st) f cdv A outer s H E) [] σ' H' s' → RelV v u → Q v H' → CE outer P w H s Q u s' :=
    fun {σ' H' v u} J r q => ⟨v, H', J.os, J.bare, J.base, J.hok, r, q⟩
  cases fl with
  | ret u => obtain ⟨v, σ', H', J, r, q⟩ := hs; exact done J r q
  | next => obtain ⟨σ', H', J, q⟩ := hs; exact done (v := V.non) (u := Value.none) J rfl q
  | brk => obtain ⟨_, _, _, q⟩ := hs; exact False.elim q
  | cont => obtain ⟨_, _, _, q⟩ := hs; exact False.elim q
end
section
variable {X : Cx} {CX : CXT} {k : Nat} {f : Addr} {fd : FuncData} {ps : List Str} {sp : Sp} {E : XK} {x : Str} {a1 : Expr} {ar : List Expr} {ta : TA} {q1 qc : Pos}
theorem run_fnG {pins : List (Addr × Obj)} {σ : St} {H : Hp} {s : Shared} {Q : VK} {us : List Value} {vs : List V} (hgd : X.A.guards = some []) (F : FnG X.prog X.w X.K X.mg X.base CX k f fd ps sp) (hr : Room k X.A) (hb : Binds X.K fd ps []) (hx : Passes CX X E)
    (I : Inv X pins σ H s) (r : Vals vs us) (h : sp vs H Q E) : wpAny (model X.prog X.w) X.A (call (.ref f) us) (EP X pins σ Q) X.xe s := by
  have hl : (us ++ []).length = ps.length := by
    rw [List.append_nil, ← r.length]
    exact F.len _ _ _ _ h
  have bb := hb s us I.kIn hl
  rw [List.append_nil] at bb
  refine wpAny_call (codeAny_mono (F.run X.A X.stack s H ⟨us, []⟩ us vs Q E hgd hr I.env0 bb r h) fun rs s' hq => ?_)
  cases rs with
  | error er => exact hx pins σ H s er s' I hq
  | ok fl =>
    cases fl with
    | ret u => exact I.after hq
    | next => exact False.elim hq
    | brk => exact False.elim hq
    | cont => exact False.elim hq
theorem pe_callG (hgd : X.A.guards = some []) (F : FnG X.prog X.w X.K X.mg X.base CX k f fd ps sp) (hr : Room k X.A) (hg : Gl X x) (hm : X.mg x = some (.ref f)) (hk : PySem.W.keepIn X.K (.ref f) = true) (hb : Binds X.K fd ps []) (hx : Passes CX X E) (ha : PA X (a1 :: ar) ta)
    (hdb : (x == ("__debug__" : Str)) = false := by decide) (hst : starEach (a1 :: ar) X.env = (false, eval a1 X.env) :: starEach ar X.env := by rfl) (hps : (backTo qc (starEach ar X.env)).any (·.1) = false := by rfl) :
    PE X (.Call (.Name x q1) (a1 :: ar) [] qc) (tCall sp [] E ta) := by
  refine ⟨fun pins s σ H Q I h => ?_⟩
  refine wpAny_Call_Name_kw (ld_glob I hg hm ?_ hdb)
  refine PySem.W.callWith_K (h₀ := X.base) I.ok.mod.kin hk (thn (ha.run qc pins s σ H _ I h) fun us s1 hh => ?_) hst hps
  obtain ⟨vs, H1, I1, r, q⟩ := hh
  rw [List.append_nil] at q
  exact ⟨I1.kIn, run_fnG hgd F hr hb hx I1 r q⟩
/-- repr of a thing made of flat things, lists, tuples -/
def rRepr (K : PySem.W.Frag) : List V → Hp → VK → Prop := fun xs H Q => ∃ (a : Addr) (d : PyData), xs = [.ref a] ∧ Dp K H (.ref a) d ∧ d.showable = true ∧ d.hasDict = false ∧ d.depth ≤ 60 ∧ d.shown.length ≤ sizeLine ∧ Q (.str d.shown) H
theorem call_reprD {n : Nat} (hgd : X.A.guards = some []) (hr : Room n X.A) : CallR X (.builtin "repr") (rRepr X.K) := by
  intro pins s σ H xs us Q I r h
  obtain ⟨a, d, rfl, hd, hs, hnd, hdp, hz, q⟩ := h
  cases r with
  | cons ra rr =>
    cases rr
    rename_i u
    cases (show u = Value.ref a from ra)
    obtain ⟨as, rd⟩ := Dp.reads I d _ _ hd rfl
    have hun := hr.un
    refine repr_of_reads' rd hs (fun z => by rw [hnd] at z; cases z) hgd (by omega) (fun _ _ z => z) (fun h' u tk hk => ?_) hz
    exact ⟨.str d.shown, H, I.kept (t' := tk) hk, ⟨_, rfl⟩, q⟩
end
end L2
namespace L2
open PySem PySem.Spec PyProof.Rows
theorem caller_guards : callerA.guards = some [] := rfl
/-- the law's call, as law_call, the promise over A with nothing shown -/
theorem law_callG {P : Program} {w : World} {K : PySem.W.Frag} {mg mb : Str → Option Value} {CX : CXT} {k : Nat} {fa a : Addr} {fd : FuncData} {x : Str} {sp : Sp} {z1 : Shared} {vs : List Value} {ns : List Int}
    (kin : K.In z1.heap) (hns : z1.heap.Ns mainGlobals mg) (hbn : z1.heap.Ns builtinsNs mb) (hbb : ∀ y : Str, y ≠ "__name__" → mb y = bootBuiltins y) (hlim : z1.heap.NoLimit) (hgen : z1.gens = #[])
    (hscr : z1.heap.get? a = some { cls := .type "list", data := .seq vs.toArray }) (hi : IntsAre vs ns) (hl : ns.length ≤ sizeLine) (hr : Room k callerA)
    (F : ∀ base : Heap, K.In base → base.Ns mainGlobals mg → FnG P w K mg base CX k fa fd [x] sp) (hbind : ∀ (s : Shared) (u : Value), BindsTo s fd ⟨[u], []⟩ [(x, u)])
    (hsp : ∀ H : Hp, Only H → SqL K H a (ns.map V.int) → sp [.ref a] H (fun v _ => v = .bl true) fun _ _ _ => False) (hCX : ∀ H e s', CX [] H z1 (fun _ _ _ => False) e s' → False) :
    codeAny (model P w) callerA (.call (.ref fa) ⟨[.ref a], []⟩) (fun r s' => r = .ok (.ret (.bool true)) ∧ OldK z1.heap s'.heap ∧ s'.os = z1.os ∧ AllBare s'.gens) z1 := by
  have rel := vals_ints hi
  have lenV := hi.length
  have core : ∀ H : Hp, Only H → SqL K H a (ns.map V.int) → HOk P w H z1.heap → (∀ b, H b ≠ none → b = a) → (H a ≠ none → K.lookup a = none) →
      codeAny (model P w) callerA (.call (.ref fa) ⟨[.ref a], []⟩) (fun r s' => r = .ok (.ret (.bool true)) ∧ OldK z1.heap s'.heap ∧ s'.os = z1.os ∧ AllBare s'.gens) z1 := by
    intro H hO hS hok hA hK
    have below : ∀ {b : Addr} {o : Obj}, z1.heap.get? b = some o → H b = none → (hidT z1.heap H).get? b = some o := fun q n => hidT_get q n
    have noDict : ∀ {b : Addr} {o : Obj} {es : Array DictEntry} {ep : Nat}, z1.heap.get? b = some o → o.data = .dict es ep → H b = none := by
      intro b o es ep q d
      cases hq : H b with
      | none => rfl
      | some u =>
        obtain rfl : b = a := hA b (by rw [hq]; simp)
        rw [hscr] at q
        cases q
        cases (show Data.seq vs.toArray _ = Data.dict es ep from d)
    have nsUp : ∀ {b : Addr} {m : Str → Option Value}, z1.heap.Ns b m → (hidT z1.heap H).Ns b m := by
      rintro b m ⟨o, es, ep, q, d, r⟩
      exact ⟨o, es, ep, below q (noDict q d), d, r⟩
    have kinB : K.In (hidT z1.heap H) := by
      intro b o q
      refine below (kin b o q) ?_
      cases hq : H b with
      | none => rfl
      | some u =>
        obtain rfl : b = a := hA b (by rw [hq]; simp)
        rw [hK (by rw [hq]; simp)] at q
        cases q
    have md : Mod K mg (hidT z1.heap H) := ⟨kinB, nsUp hns, ⟨mb, nsUp hbn, hbb⟩, let ⟨mc, h1, h2⟩ := hlim; ⟨mc, nsUp h1, h2⟩⟩
    have en0 : Env0 P w K mg (hidT z1.heap H) callerA [] z1 H := ⟨rfl, md, fun b o q => of_hidT q, Nat.le_of_eq (hidT_size _ _), trivial, fun b hb => absurd (show b ∈ ([] : List Addr) from hb) (by simp), hok, .of_eq hgen⟩
    refine codeAny_mono ((F _ kinB (nsUp hns)).run callerA [] z1 H ⟨[.ref a], []⟩ [.ref a] [.ref a] _ _ caller_guards hr en0 (hbind z1 (.ref a)) (.cons rfl .nil) (hsp H hO hS)) fun r s' h => ?_
    cases r with
    | error er => exact (hCX H er s' h).elim
    | ok fl =>
      cases fl with
      | next => exact False.elim h
      | brk => exact False.elim h
      | cont => exact False.elim h
      | ret u =>
        obtain ⟨v, H', hos, bare, un, hok', r', hv⟩ := h
        obtain rfl : v = .bl true := hv
        obtain rfl : u = Value.bool true := r'
        refine ⟨rfl, OldK.of_keep fun b o q => ?_, hos, bare⟩
        cases hq : H b with
        | none => exact un.keep b o q hq (fun z => absurd (show b ∈ ([] : List Addr) from z) (by simp)) (by simp)
        | some u =>
          rcases hO b with z | ⟨ob, xs, z⟩
          · rw [hq] at z
            cases z
          · obtain ⟨e1, _⟩ := hok b _ z
            obtain ⟨e2, _⟩ := hok' b _ (un.frzs b ob _ z)
            rw [q] at e1
            cases e1
            exact e2
  cases hk : K.lookup a with
  | some o =>
    have q := kin a o hk
    rw [hscr] at q
    cases q
    exact core (fun _ => none) (fun _ => .inl rfl) (.inr ⟨_, vs.toArray, _, hk, rfl, rfl, rfl, by rw [List.size_toArray, lenV]; exact hl, by simpa using rel⟩) (fun b u z => nomatch (show (none : Option HO) = some u from z)) (fun b z => absurd rfl z) (fun z => absurd rfl z)
  | none =>
    have hH : ∀ b, (if b = a then some (HO.frz { cls := .type "list", data := .seq vs.toArray } (.lst (ns.map V.int))) else none) ≠ none → b = a := fun b z => by
      by_cases hb : b = a
      · exact hb
      · exact absurd (if_neg hb) z
    refine core (fun b => if b = a then some (.frz { cls := .type "list", data := .seq vs.toArray } (.lst (ns.map V.int))) else none) (fun b => ?_) (.inl (.inr ⟨{ cls := .type "list", data := .seq vs.toArray }, if_pos rfl⟩)) (fun b u z => ?_) hH (fun _ => hk)
    · by_cases hb : b = a
      · exact .inr ⟨_, _, if_pos hb⟩
      · exact .inl (if_neg hb)
    · by_cases hb : b = a
      · cases (if_pos hb).symm.trans z
        subst hb
        exact ⟨hscr, by rw [List.length_map]; exact hl, vs, _, rel, hscr⟩
      · cases (if_neg hb).symm.trans z
theorem walk_ofG {l : PySem.W.OpenLaw} {n k : Nat} {q : Program} {loose : List Str} {XP : (Str → Option Value) → Heap → Prop} {YP : World → Heap → Prop} {d : DefRec} {K : Params → PySem.W.Frag} {CX : CXT} {sp : PySem.W.Frag → Sp} {x : Str}
    (hn : l.most = some n) (hn2 : n ≤ sizeLine) (hdf : d.params.defaults = []) (hr : Room k callerA) (hY : ∀ (w : World) (h : Heap), YP w h → (K w.params).In h)
    (F : ∀ (w : World) (mg : Str → Option Value) (fa : Addr) (h : Heap), (K w.params).In h → h.Ns mainGlobals mg → mg d.name = some (.ref fa) → ∃ fd : FuncData, (∀ (s : Shared) (u : Value), BindsTo s fd ⟨[u], []⟩ [(x, u)]) ∧
        ∀ base : Heap, (K w.params).In base → base.Ns mainGlobals mg → FnG l.prog w (K w.params) mg base CX k fa fd [x] (sp (K w.params)))
    (hsp : ∀ (K : PySem.W.Frag) (H : Hp) (a : Addr) (ns : List Int), ns.length ≤ n → Only H → SqL K H a (ns.map V.int) → sp K [.ref a] H (fun v _ => v = .bl true) fun _ _ _ => False) (hCX : ∀ (H : Hp) (s : Shared) (e : Value) (s' : Shared), CX [] H s (fun _ _ _ => False) e s' → False) :
    PySem.W.WalkO q loose XP YP l.row.toRowW d [] (fun f vs => PySem.call f vs) := by
  refine Att.attach_call hn hdf fun w s0 z1 mg mb fa o pm cd doc a vs ns G Y ho hd hcd hmg hobj hints hlen hg => ?_
  obtain ⟨fd, hb, hF⟩ := F w mg fa _ (hY w _ Y) G.T.g hmg
  exact law_callG (hY w _ Y) G.T.g G.T.b G.T.builtins G.T.nolimit hg hobj hints (Nat.le_trans hlen hn2) hr hF hb (fun H hO hS => hsp (K w.params) H a ns hlen hO hS) fun H e s' => hCX H z1 e s'
end L2

/-! ### own objects whose class is found by the object -/
namespace L2
open PySem PySem.Spec PyProof.Rows
/-- the method m of the class at C keeps sp, by a def of level k -/
structure MOk (P : Program) (w : World) (K : PySem.W.Frag) (mg : Str → Option Value) (base : Heap) (CX : CXT) (k : Nat) (C : Addr) (m : Str) (sp : Sp) : Prop where
  cl : Cls K C
  ex : ∃ (f : Addr) (fd : FuncData) (ps : List Str), Meth K C m f ∧ FnOk P w K mg base CX k f fd ps sp ∧ Binds K fd ps []
section
variable {X : Cx} {CX : CXT} {k : Nat} {sp : Addr → Sp} {E : XK} {m : Str} {o a1 : Expr} {ar : List Expr} {te : TE} {ta : TA} {qa qc : Pos} {M : Addr → Prop}
/-- o.m(), o of one of the classes M -/
def tMP (M : Addr → Prop) (m : Str) (sp : Addr → Sp) (E : XK) (te : TE) (ta : TA) : TE := fun σ H Q => te σ H fun x H1 => ∃ a C dx fs, x = .ref a ∧ H1 a = some (.ins C dx fs) ∧ M C ∧ fs.lookup m = none ∧ ta σ H1 fun vs H2 => sp C (x :: vs) H2 Q E
theorem pe_methP0 {pl : Sem Bool} (he : PE X o te) (hM : ∀ C, M C → MOk X.prog X.w X.K X.mg X.base CX k C m (sp C)) (hr : Room k X.A) (hx : Passes CX X E)
    (hcal : eval (.Call (.Attribute o m qa) [] [] qc) X.env = (eval o X.env >>= fun ov => standAt qa.atName >>= fun _ => holding [ov] (getMethod ov m pl) >>= fun r => callWith qc r.1 r.2 (backTo qc (starEach [] X.env)) (backToKw qc (keywordEach [] X.env))) := by rfl) :
    PE X (.Call (.Attribute o m qa) [] [] qc) (tMP M m sp E te tNil) := by
  refine ⟨fun pins s σ H Q I h => ?_⟩
  refine PySem.W.methodCall_KW (pl := pl) (thn (he.run pins s σ H _ I h) fun u s1 hh => ?_) hcal
  obtain ⟨x, H1, I1, rx, a, C, dx, fs, rfl, ea, hC, l, q⟩ := hh
  obtain rfl : u = Value.ref a := rx
  obtain ⟨cl, f, fd, ps, hm, F, hb⟩ := hM C hC
  refine getmeth_ok I1 ea cl hm l ?_
  exact PySem.W.callWith_K0 (first := [.ref a]) I1.kIn hm.kp (run_fn (us := [.ref a]) (vs := [.ref a]) (dvs := []) F hr hb .nil hx I1 (.cons rfl .nil) q)
theorem pe_methP {pl : Sem Bool} (he : PE X o te) (hM : ∀ C, M C → MOk X.prog X.w X.K X.mg X.base CX k C m (sp C)) (hr : Room k X.A) (hx : Passes CX X E) (ha : PA X (a1 :: ar) ta)
    (hst : starEach (a1 :: ar) X.env = (false, eval a1 X.env) :: starEach ar X.env := by rfl) (hps : (backTo qc (starEach ar X.env)).any (·.1) = false := by rfl)
    (hcal : eval (.Call (.Attribute o m qa) (a1 :: ar) [] qc) X.env = (eval o X.env >>= fun ov => standAt qa.atName >>= fun _ => holding [ov] (getMethod ov m pl) >>= fun r => callWith qc r.1 r.2 (backTo qc (starEach (a1 :: ar) X.env)) (backToKw qc (keywordEach [] X.env))) := by rfl) :
    PE X (.Call (.Attribute o m qa) (a1 :: ar) [] qc) (tMP M m sp E te ta) := by
  refine ⟨fun pins s σ H Q I h => ?_⟩
  refine PySem.W.methodCall_KW (pl := pl) (thn (he.run pins s σ H _ I h) fun u s1 hh => ?_) hcal
  obtain ⟨x, H1, I1, rx, a, C, dx, fs, rfl, ea, hC, l, q⟩ := hh
  obtain rfl : u = Value.ref a := rx
  obtain ⟨cl, f, fd, ps, hm, F, hb⟩ := hM C hC
  refine getmeth_ok I1 ea cl hm l ?_
  refine PySem.W.callWith_K (first := [.ref a]) (h₀ := X.base) I.ok.mod.kin hm.kp (thn (ha.run qc pins s1 σ H1 _ I1 q) fun us s2 h2 => ?_) hst hps
  obtain ⟨vs, H2, I2, r, q2⟩ := h2
  exact ⟨I2.kIn, run_fn (us := .ref a :: us) (vs := .ref a :: vs) (dvs := []) F hr hb .nil hx I2 (.cons rfl r) (by rw [List.append_nil]; exact q2)⟩
theorem c_mp {σ : St} {H : Hp} {Q : VK} (h : te σ H fun x H1 => ∃ a C dx fs, x = .ref a ∧ H1 a = some (.ins C dx fs) ∧ M C ∧ fs.lookup m = none ∧ ta σ H1 fun vs H2 => sp C (x :: vs) H2 Q E) : tMP M m sp E te ta σ H Q := h
def tNeverE : TE := fun _ _ _ => False
theorem pe_never {e : Expr} : PE X e tNeverE := ⟨fun _ _ _ _ _ _ h => h.elim⟩
end
end L2
namespace L2
open PySem PySem.Spec PyProof.Rows
section
variable {X : Cx}
theorem dpAll_int {K : PySem.W.Frag} {H : Hp} : ∀ ns : List Int, DpAll K H (ns.map V.int) (ns.map PyData.int)
  | [] => .nil
  | n :: ns => .cons (.int n) (dpAll_int ns)
/-- the greatest of these, and of the last one -/
def maxL : List Int → Int
  | [] => 0
  | y :: ys => PySem.W.maxOf y ys
/-- max(l, default=z), l of whole numbers -/
theorem call_maxD {n : Nat} (hr : Room n X.A) : CallRK X (.builtin "max") ["default"] (fun xs zs H Q => ∃ (a : Addr) (ns : List Int) (z : V), xs = [.ref a] ∧ zs = [z] ∧ SqL X.K H a (ns.map V.int) ∧ (ns = [] → Q z H) ∧ ∀ y ys, ns = y :: ys → Q (.int (PySem.W.maxOf y ys)) H) := by
  intro pins s σ H xs zs us ws Q I r rz h
  obtain ⟨a, ns, z, rfl, rfl, hS, h0, h1⟩ := h
  cases r with
  | cons ra rr =>
    cases rr
    rename_i u
    cases (show u = Value.ref a from ra)
    cases rz with
    | cons rz1 rzz =>
      cases rzz
      rename_i zu
      obtain ⟨its, rv, hp, hlen⟩ := I.list hS
      obtain ⟨as, rds⟩ := Dp.readsAll I _ _ its (dpAll_int ns) rv
      have hun := hr.un
      have hD : PySem.W.HoldAll s.heap its.toArray.toList ns := ⟨as, rds⟩
      refine PySem.W.max_list_datum_default (α := Int) hr.hd hp.isList hD (by show X.A.units + 1 + 0 < cLine; omega) (fun e h' tk hk => ?_) (fun y ys i v h' tk e hi hv hk => ?_)
      · exact ⟨z, H, I.kept (t' := tk) hk, rz1, h0 e⟩
      · obtain ⟨bs, rd⟩ := hv
        have hv2 : ∃ t, v = Value.int (PySem.W.maxOf y ys) t := by
          have rd' : Reads h' v (.int (PySem.W.maxOf y ys)) bs := rd
          cases rd' with
          | int i t => exact ⟨t, rfl⟩
        exact ⟨.int (PySem.W.maxOf y ys), H, I.kept (t' := tk) hk, hv2, h1 y ys e⟩
end
end L2
namespace L2
open PySem PySem.Spec PyProof.Rows
/-- a plain class with these fields, that can be made -/
def tcB (K : PySem.W.Frag) (C : Addr) (fs : List Str) : Bool :=
  ((PySem.W.plainGet K C Str.empty && PySem.W.hasDictIn K C) && (PySem.W.plainOver K C && (PySem.W.makesIn K C && PySem.W.keepIn K (.ref C)))) &&
  ((decide (PySem.W.findIn K (.ref C) "__setattr__" = some (some (.builtin "object.__setattr__"))) && decide (PySem.W.findIn K (.ref C) "__class__" = some (some (.builtin "object.__class__")))) &&
  ((decide (PySem.W.specialIn K (.builtin "object.__class__") "__get__" = some (some (.builtin "getset_descriptor.__get__"))) && decide (PySem.W.takesIn K (.builtin "object.__class__") = some true)) &&
  (decide (PySem.W.mroIn K C (.type "object") = some true) && fs.all fun f => decide (PySem.W.findIn K (.ref C) f = some none))))
structure TcC (K : PySem.W.Frag) (C : Addr) (fs : List Str) : Prop where
  cl : Cls K C
  makes : PySem.W.makesIn K C = true
  kp : PySem.W.keepIn K (.ref C) = true
  ty : ∀ {H : Hp} {a dx : Addr} {gs : List (Str × V)}, H a = some (.ins C dx gs) → TyX K H (.ref a) (.ref C)
  no : ∀ f ∈ fs, NoAttr K C f
theorem tcB_ok {K : PySem.W.Frag} {C : Addr} {fs : List Str} (h : tcB K C fs = true) : TcC K C fs := by
  unfold tcB at h
  simp only [Bool.and_eq_true, decide_eq_true_eq, List.all_eq_true] at h
  obtain ⟨⟨⟨h1, h2⟩, h3, h4, h5⟩, ⟨h6, h7⟩, ⟨h8, h9⟩, h10, h11⟩ := h
  have cl : Cls K C := ⟨h1, h2, h3, h6⟩
  exact ⟨cl, h4, h5, fun e => .base (.ins e cl h7 h8 h9 h10), h11⟩
section
variable {K : PySem.W.Frag} {σ : St} {H : Hp} {Q : VK} {D : Ends} {te tv : TE} {f : Str} {ta tk : TA} {C : Addr} {sp : Sp} {E : XK}
theorem c_fld (h : te σ H fun x H1 => ∃ a C dx fs v, x = .ref a ∧ H1 a = some (.ins C dx fs) ∧ Cls K C ∧ NoAttr K C f ∧ fs.lookup f = some v ∧ Q v H1) : tFld K te f σ H Q := h
theorem c_sfld (h : tv σ H fun y H1 => te σ H1 fun x H2 => ∃ a C dx fs, x = .ref a ∧ H2 a = some (.ins C dx fs) ∧ Cls K C ∧ NoAttr K C f ∧ fs.length < 1000 ∧ D.nx σ (upd H2 a (.ins C dx (putF f y fs)))) : sFld K te tv f D σ H := h
/-- C(..): what is asked, by one word -/
def MkP2 (C : Addr) (sp : Sp) (vs : List V) (H : Hp) (Q : VK) (E : XK) : Prop := ∀ x dx, H x = none → H dx = none → dx ≠ x → sp (.ref x :: vs) (upd (upd H dx (.own x)) x (.ins C dx [])) (fun v H2 => v = .non ∧ Q (.ref x) H2) E
theorem c_make (h : ta σ H fun vs H1 => MkP2 C sp vs H1 Q E) : tMake C sp [] E ta σ H Q := by
  show ta σ H fun vs H1 => ∀ x dx, H1 x = none → H1 dx = none → dx ≠ x → sp (.ref x :: (vs ++ [])) (upd (upd H1 dx (.own x)) x (.ins C dx [])) (fun v H2 => v = .non ∧ Q (.ref x) H2) E
  simp only [List.append_nil]
  exact h
theorem c_ckw {r : List V → List V → Hp → VK → Prop} (h : ta σ H fun vs H1 => tk σ H1 fun zs H2 => r vs zs H2 Q) : tCKw r ta tk σ H Q := h
end
end L2

/-! facts of classes, as truths -/
namespace L2
open PySem
def difB : List Addr → Bool
  | [] => true
  | a :: as => as.all (fun b => !decide (a = b)) && difB as
theorem difB_ne {a b : Addr} : ∀ {l : List Addr} {i j : Nat}, difB l = true → l[i]? = some a → l[j]? = some b → i < j → a ≠ b
  | [], i, j, _, h, _, _ => by simp at h
  | c :: l, i, j, h, hi, hj, hij => by
    rw [difB, Bool.and_eq_true, List.all_eq_true] at h
    cases j with
    | zero => omega
    | succ j =>
      rw [List.getElem?_cons_succ] at hj
      cases i with
      | zero =>
        have : c = a := by simpa using hi
        subst this
        have := h.1 b (List.mem_of_getElem? hj)
        intro e
        subst e
        simp at this
      | succ i =>
        rw [List.getElem?_cons_succ] at hi
        exact difB_ne h.2 hi hj (by omega)
/-- of class c, and with the plain == -/
def subB (K : PySem.W.Frag) (C c : Addr) : Bool := decide (PySem.W.kitOne K (.ref C) (.ref c) = some true) && (decide (PySem.W.mroIn K C (.type "object") = some true) && decide (PySem.W.findIn K (.ref C) "__eq__" = some (some (.builtin "object.__eq__"))))
end L2
namespace L2
open PySem
/-- each of these is of its own class and of E alone -/
def kitTab (K : PySem.W.Frag) (cs : List Addr) (E : Addr) : Bool := cs.all fun c => decide (PySem.W.kitOne K (.ref c) (.ref E) = some true) && (decide (PySem.W.mroIn K c (.type "object") = some true) && (decide (PySem.W.findIn K (.ref c) "__eq__" = some (some (.builtin "object.__eq__"))) && cs.all fun c' => decide (PySem.W.kitOne K (.ref c) (.ref c') = some (decide (c = c')))))
end L2

/-! ### repr of nested things: the bounds; comprehensions that make things -/
namespace L2
open PySem PySem.Spec PyProof.Rows
open TL (tl)
/-- may be shown: nested at most D deep, its signs and things at most B -/
def RpOk (D B : Nat) (d : PyData) : Prop := d.showable = true ∧ d.canLay0 = true ∧ d.leavesShort 13 = true ∧ d.depth ≤ D ∧ d.bulk ≤ B
def RpAll (D B : Nat) (ds : List PyData) : Prop := PyData.showableAll ds = true ∧ PyData.canLayAll0 ds = true ∧ PyData.leavesShortAll 13 ds = true ∧ PyData.depthAll ds ≤ D ∧ PyData.bulkAll ds ≤ B
theorem RpOk.mono {D B D2 B2 : Nat} {d : PyData} (h : RpOk D B d) (hD : D ≤ D2) (hB : B ≤ B2) : RpOk D2 B2 d := ⟨h.1, h.2.1, h.2.2.1, Nat.le_trans h.2.2.2.1 hD, Nat.le_trans h.2.2.2.2 hB⟩
theorem rp_non : RpOk 0 0 .none := ⟨by simp only [PyData.showable], by simp only [PyData.canLay0], by simp only [PyData.leavesShort], by simp only [PyData.depth]; omega, by simp only [PyData.bulk]; omega⟩
theorem rp_bl (b : Bool) : RpOk 0 0 (.bool b) := ⟨by simp only [PyData.showable], by simp only [PyData.canLay0], by simp only [PyData.leavesShort], by simp only [PyData.depth]; omega, by simp only [PyData.bulk]; omega⟩
theorem rp_int {i : Int} (h : i.natAbs < 10 ^ 12) : RpOk 0 0 (.int i) := by
  refine ⟨?_, by simp only [PyData.canLay0], ?_, by simp only [PyData.depth]; omega, by simp only [PyData.bulk]; omega⟩
  · simp only [PyData.showable, decide_eq_true_eq]
    by_cases h0 : i.natAbs = 0
    · rw [h0]; decide
    · have h1 : i.natAbs.log2 < 40 := (Nat.log2_lt h0).mpr (Nat.lt_trans h (by decide))
      omega
  · simp only [PyData.leavesShort, decide_eq_true_eq]
    exact PyData.shown_int_le h
theorem rp_str {x : Str} (h : OkT x) : RpOk 0 x.length (.str x) := by
  refine ⟨by simp only [PyData.showable], by simp only [PyData.canLay0]; exact okT_V h, ?_, by simp only [PyData.depth]; omega, by simp only [PyData.bulk]; exact Nat.le_refl _⟩
  simp only [PyData.leavesShort, List.all_eq_true, decide_eq_true_eq]
  exact fun c hc => Nat.lt_trans (h c hc) (by decide)
theorem rp_nil : RpAll 0 0 [] := ⟨by simp only [PyData.showableAll], by simp only [PyData.canLayAll0], by simp only [PyData.leavesShortAll], by simp only [PyData.depthAll]; omega, by simp only [PyData.bulkAll]; omega⟩
theorem rp_cons {D B D2 B2 : Nat} {d : PyData} {ds : List PyData} (h : RpOk D B d) (k : RpAll D2 B2 ds) : RpAll (max D D2) (B + 1 + B2) (d :: ds) := by
  obtain ⟨h1, h2, h3, h4, h5⟩ := h
  obtain ⟨k1, k2, k3, k4, k5⟩ := k
  refine ⟨by simp only [PyData.showableAll, h1, k1, Bool.and_self], by simp only [PyData.canLayAll0, h2, k2, Bool.and_self], by simp only [PyData.leavesShortAll, h3, k3, Bool.and_self], by simp only [PyData.depthAll]; omega, by simp only [PyData.bulkAll]; omega⟩
theorem rp_tup {D B : Nat} {ds : List PyData} (h : RpAll D B ds) : RpOk (D + 1) B (.tuple ds) := by
  obtain ⟨h1, h2, h3, h4, h5⟩ := h
  exact ⟨by simp only [PyData.showable, h1], by simp only [PyData.canLay0, h2], by simp only [PyData.leavesShort, h3], by simp only [PyData.depth]; omega, by simp only [PyData.bulk]; omega⟩
theorem rp_lst {D B : Nat} {ds : List PyData} (h : RpAll D B ds) : RpOk (D + 1) B (.list ds) := by
  obtain ⟨h1, h2, h3, h4, h5⟩ := h
  exact ⟨by simp only [PyData.showable, h1], by simp only [PyData.canLay0, h2], by simp only [PyData.leavesShort, h3], by simp only [PyData.depth]; omega, by simp only [PyData.bulk]; omega⟩
theorem rp_all {D B : Nat} : ∀ {ds : List PyData}, (∀ d ∈ ds, RpOk D B d) → RpAll D (ds.length * (B + 1)) ds
  | [], _ => ⟨by simp only [PyData.showableAll], by simp only [PyData.canLayAll0], by simp only [PyData.leavesShortAll], by simp only [PyData.depthAll]; omega, by simp only [PyData.bulkAll]; omega⟩
  | d :: ds, h => by
    obtain ⟨h1, h2, h3, h4, h5⟩ := rp_cons (h d List.mem_cons_self) (rp_all (ds := ds) fun e he => h e (List.mem_cons_of_mem _ he))
    refine ⟨h1, h2, h3, by omega, ?_⟩
    rw [List.length_cons, Nat.succ_mul]
    omega
theorem c_repr {K : PySem.W.Frag} {H : Hp} {Q : VK} {a : Addr} {d : PyData} {D B : Nat} (h : Dp K H (.ref a) d) (r : RpOk D B d) (q : Q (.str d.shown) H) (hD : D ≤ 60 := by decide) (hB : B ≤ 2 ^ 20 := by decide) : rRepr K [.ref a] H Q :=
  ⟨a, d, rfl, h, r.1, PyData.hasDict_of_canLay d r.2.1, Nat.le_trans r.2.2.2.1 hD, PyData.shown_fits_bulk (B := 13) (by decide) (by decide) r.2.2.1 (Nat.le_trans r.2.2.2.2 hB), q⟩
theorem BoxAt.up {H H2 : Hp} {b : Addr} (h : BoxAt H b) (e : Evl.Ex H H2) : BoxAt H2 b := let ⟨x, y, z, p, q⟩ := h; ⟨x, y, z, p, e _ _ q⟩
theorem RpOk.shaped {D B : Nat} {d : PyData} (h : RpOk D B d) (hD : D ≤ 64 := by decide) : SeqAt.shaped d = true := by
  unfold SeqAt.shaped
  rw [h.2.1, Bool.true_and, decide_eq_true_eq]
  exact Nat.le_trans h.2.2.2.1 hD
/-- s * n, n nought or one -/
theorem op_rep_str01 {X : Cx} : OpR X (binaryOp .Mult) (fun x y H Q => ∃ (z : Str) (n : Int), x = .str z ∧ y = .int n ∧ ((n = 0 ∧ Q (.str Str.empty) H) ∨ (n = 1 ∧ Q (.str z) H))) := by
  intro pins s σ H x y v u Q I rx ry h
  obtain ⟨z, n, rfl, rfl, h⟩ := h
  obtain ⟨t, rfl⟩ := rx
  obtain ⟨t', rfl⟩ := ry
  rcases h with ⟨rfl, q⟩ | ⟨rfl, q⟩
  · exact PySem.P.mul_str_none (by decide) (by decide) ⟨.str Str.empty, H, I.tok _, ⟨_, rfl⟩, q⟩
  · refine PySem.P.mul_str (by decide) (fun _ h2 => absurd h2 (by simp)) (fun _ h2 => absurd h2 (by simp)) ?_
    rw [if_neg (by decide), if_pos (by rfl)]
    exact ⟨.str z, H, I, ⟨_, rfl⟩, q⟩
/-- all that is no list stays -/
def NL (H H2 : Hp) : Prop := ∀ a o, (∀ ys, o ≠ HO.lst ys) → H a = some o → H2 a = some o
theorem NL.of {H H2 : Hp} (e : Evl.Ex H H2) : NL H H2 := fun a o _ h => e a o h
theorem NL.trans {H H2 H3 : Hp} (e : NL H H2) (e2 : NL H2 H3) : NL H H3 := fun a o n h => e2 a o n (e a o n h)
theorem NL.upd {H : Hp} {f : Addr} {xs ys : List V} (h : H f = some (.lst xs)) : NL H (upd H f (.lst ys)) := fun a o n ha => by
  rw [upd_ne (ne_of ha h (n xs))]
  exact ha
theorem NL.box {H H2 : Hp} {b : Addr} (e : ExB b H H2) (h : BoxAt H b) : NL H H2 := fun a o n ha => by
  obtain ⟨x, y, z, _, q⟩ := h
  exact e a o (ne_of ha q (n _)) ha
section
variable {K : PySem.W.Frag} {σ : St} {H : Hp} {Q : VK} {g : TG} {tt : TT} {te : TE} {vs : List Nat}
theorem lcTN {a : Addr} {xs : List V} (P : Nat → V → Hp → Prop) (hst : ∀ i y G G2, NL G G2 → P i y G → P i y G2) (hs : SqT K H a xs) (hn : xs.length ≤ 1000)
    (ht : ∀ (i : Nat) (x : V), xs[i]? = some x → ∀ H2, Evl.Ex H H2 → ∀ (R : V → Hp → Prop) (N : Hp → Prop), (∀ y H3, Evl.Ex H2 H3 → P i y H3 → R y H3) →
      g x (wipe σ vs) H2 fun σ2 H3 => wipe σ2 vs = wipe σ vs ∧ tt σ2 H3 fun c H4 => if c = true then te σ2 H4 fun y H5 => R y H5 else N H4)
    (k : ∀ ys p H2, ys.length = xs.length → (∀ i y, ys[i]? = some y → P i y H2) → H p = none → Evl.Ex H H2 → H2 p = some (.lst ys) → Q (.ref p) H2) : LcI (Itt K a) g tt te vs σ H Q := by
  refine fun D hD => ?_
  have ex : ∀ {G : Hp} {o : HO}, Evl.Ex H G → Evl.Ex H (upd G D o) := fun e b u hb => by rw [upd_ne (ne_of_none hb hD)]; exact e b u hb
  refine lc_tup (xs := xs) (fun i H' => i ≤ xs.length ∧ Evl.Ex H H' ∧ ∃ ys, ys.length = i ∧ (∀ j y, ys[j]? = some y → P j y H') ∧ H' D = some (.lst ys))
    ⟨Nat.zero_le _, ex (Evl.Ex.refl _), [], rfl, (fun j y h => by simp at h), upd_same⟩ (fun i H' _ p => Evl.ex_t p.2.1 hs) (fun i x H' hi p => ?_) (fun H' p => ?_)
  · obtain ⟨_, e1, ys, hl, hy, hD'⟩ := p
    have hil := (List.getElem?_eq_some_iff.mp hi).1
    refine ht i x hi H' e1 (fun y H4 => ∃ acc, H4 D = some (.lst acc) ∧ acc.length < sizeLine ∧ (i + 1 ≤ xs.length ∧ Evl.Ex H (upd H4 D (.lst (acc ++ [y]))) ∧ ∃ zs, zs.length = i + 1 ∧ (∀ j y2, zs[j]? = some y2 → P j y2 (upd H4 D (.lst (acc ++ [y])))) ∧ upd H4 D (.lst (acc ++ [y])) D = some (.lst zs))) _ (fun y H3 e3 py => ?_)
    have hD3 := e3 _ _ hD'
    have eD : NL H3 (upd H3 D (.lst (ys ++ [y]))) := NL.upd hD3
    refine ⟨ys, hD3, Evl.sz_lt (by omega), hil, ex (e1.trans e3), ys ++ [y], by rw [List.length_append, hl]; rfl, fun j y2 hj => ?_, upd_same⟩
    rcases Nat.lt_or_ge j ys.length with h | h
    · rw [List.getElem?_append_left h] at hj
      exact hst _ _ _ _ eD (hst _ _ _ _ (NL.of e3) (hy j y2 hj))
    · rw [List.getElem?_append_right h] at hj
      have hj0 : j - ys.length = 0 := by
        have := (List.getElem?_eq_some_iff.mp hj).1
        rw [List.length_singleton] at this
        omega
      rw [hj0] at hj
      have hyy : y = y2 := by simpa using hj
      subst hyy
      have : j = i := by omega
      subst this
      exact hst _ _ _ _ eD py
  · obtain ⟨_, e1, ys, hl, hy, hD'⟩ := p
    exact k ys D H' hl hy hD e1 hD'
/-- the same over range(n), with draws -/
theorem lcRN {n : Nat} {b : Addr} (P : Nat → V → Hp → Prop) (hst : ∀ i y G G2, NL G G2 → P i y G → P i y G2) (hn : n ≤ 1000) (hB : BoxAt H b)
    (ht : ∀ (i : Nat), i < n → ∀ H2, BoxAt H2 b → ExB b H H2 → ∀ (R : V → Hp → Prop) (N : Hp → Prop), (∀ y H3, ExB b H2 H3 → BoxAt H3 b → P i y H3 → R y H3) →
      g (.int (i : Int)) (wipe σ vs) H2 fun σ2 H3 => wipe σ2 vs = wipe σ vs ∧ tt σ2 H3 fun c H4 => if c = true then te σ2 H4 fun y H5 => R y H5 else N H4)
    (k : ∀ ys p H2, ys.length = n → (∀ i y, ys[i]? = some y → P i y H2) → H p = none → ExB b H H2 → BoxAt H2 b → H2 p = some (.lst ys) → Q (.ref p) H2) : LcI (Itr 0 n) g tt te vs σ H Q := by
  refine fun D hD => ?_
  obtain ⟨ob, hob⟩ := hB.some
  have nDb : D ≠ b := (ne_of_none hob hD).symm
  have bx : ∀ {G : Hp} {o : HO}, BoxAt G b → BoxAt (upd G D o) b := fun ⟨x, y, z, p, q⟩ => ⟨x, y, z, p, by rw [upd_ne nDb.symm]; exact q⟩
  have ex : ∀ {G : Hp} {o : HO}, ExB b H G → ExB b H (upd G D o) := fun e a u na ha => by rw [upd_ne (ne_of_none ha hD)]; exact e a u na ha
  refine lc_range (lo := 0) (n := n) (fun i H' => i ≤ n ∧ ExB b H H' ∧ BoxAt H' b ∧ ∃ ys, ys.length = i ∧ (∀ j y, ys[j]? = some y → P j y H') ∧ H' D = some (.lst ys))
    ⟨Nat.zero_le _, ex (ExB.refl _ _), bx hB, [], rfl, (fun j y h => by simp at h), upd_same⟩ (fun i H' hi p => ?_) (fun H' p => ?_)
  · obtain ⟨_, e1, b1, ys, hl, hy, hD'⟩ := p
    have e0 : (0 : Int) + (i : Int) = (i : Int) := Int.zero_add _
    rw [e0]
    refine ht i hi H' b1 e1 (fun y H4 => ∃ acc, H4 D = some (.lst acc) ∧ acc.length < sizeLine ∧ (i + 1 ≤ n ∧ ExB b H (upd H4 D (.lst (acc ++ [y]))) ∧ BoxAt (upd H4 D (.lst (acc ++ [y]))) b ∧ ∃ zs, zs.length = i + 1 ∧ (∀ j y2, zs[j]? = some y2 → P j y2 (upd H4 D (.lst (acc ++ [y])))) ∧ upd H4 D (.lst (acc ++ [y])) D = some (.lst zs))) _ (fun y H3 e3 b3 py => ?_)
    have hD3 := e3 _ _ nDb hD'
    have eD : NL H3 (upd H3 D (.lst (ys ++ [y]))) := NL.upd hD3
    refine ⟨ys, hD3, Evl.sz_lt (by omega), hi, ex (e1.trans e3), bx b3, ys ++ [y], by rw [List.length_append, hl]; rfl, fun j y2 hj => ?_, upd_same⟩
    rcases Nat.lt_or_ge j ys.length with h | h
    · rw [List.getElem?_append_left h] at hj
      exact hst _ _ _ _ eD (hst _ _ _ _ (NL.box e3 b1) (hy j y2 hj))
    · rw [List.getElem?_append_right h] at hj
      have hj0 : j - ys.length = 0 := by
        have := (List.getElem?_eq_some_iff.mp hj).1
        rw [List.length_singleton] at this
        omega
      rw [hj0] at hj
      have hyy : y = y2 := by simpa using hj
      subst hyy
      have : j = i := by omega
      subst this
      exact hst _ _ _ _ eD py
  · obtain ⟨_, e1, b1, ys, hl, hy, hD'⟩ := p
    exact k ys D H' hl hy hD e1 b1 hD'
theorem c_noneIn {p : Addr} {xs : List V} (h : SqL K H p xs) (hn : ∀ z ∈ xs, NoneOr K H z) (hr : ∀ z ∈ xs, z ≠ .non) (q : Q (.bl false) H) : rNoneIn K false .non (.ref p) H Q := by
  refine ⟨p, xs, rfl, rfl, h, hn, ?_⟩
  have e : xs.any isNon = false := by
    rw [List.any_eq_false]
    intro z hz he
    cases z with
    | non => exact hr _ hz rfl
    | _ => cases he
  show Q (.bl (xs.any isNon)) H
  rw [e]
  exact q
end
end L2

/-! ### C.m(self, ..), m a def of the class -/
namespace L2
open PySem PySem.Spec PyProof.Rows
structure CmC (K : PySem.W.Frag) (B f : Addr) (m : Str) : Prop where
  rd : PySem.W.readsIn K B (.type "type") = true
  ga : PySem.W.specialIn K (.ref B) "__getattribute__" = some (some (.builtin "type.__getattribute__"))
  at_ : PySem.W.findCls K (.ref B) (.type "type") m = some (.val (.ref f))
def cmB (K : PySem.W.Frag) (B f : Addr) (m : Str) : Bool := PySem.W.readsIn K B (.type "type") && (decide (PySem.W.specialIn K (.ref B) "__getattribute__" = some (some (.builtin "type.__getattribute__"))) && (match PySem.W.findCls K (.ref B) (.type "type") m with | some (.val (.ref g)) => decide (g = f) | _ => false))
theorem cmB_ok {K : PySem.W.Frag} {B f : Addr} {m : Str} (h : cmB K B f m = true) : CmC K B f m := by
  unfold cmB at h
  simp only [Bool.and_eq_true, decide_eq_true_eq] at h
  obtain ⟨h1, h2, h3⟩ := h
  split at h3
  · rename_i g e
    rw [decide_eq_true_eq] at h3
    subst h3
    exact ⟨h1, h2, e⟩
  · cases h3
section
variable {X : Cx} {CX : CXT} {k : Nat} {B f : Addr} {fd : FuncData} {ps : List Str} {sp : Sp} {E : XK} {x m : Str} {a1 : Expr} {ar : List Expr} {ta : TA} {q1 q2 qc : Pos}
theorem pe_cm {pl : Sem Bool} (hg : Gl X x) (hm : X.mg x = some (.ref B)) (T : CmC X.K B f m) (F : FnOk X.prog X.w X.K X.mg X.base CX k f fd ps sp) (hr : Room k X.A) (hk : PySem.W.keepIn X.K (.ref f) = true) (hb : Binds X.K fd ps []) (hx : Passes CX X E) (ha : PA X (a1 :: ar) ta)
    (hcal : eval (.Call (.Attribute (.Name x q1) m q2) (a1 :: ar) [] qc) X.env = (eval (.Name x q1) X.env >>= fun ov => standAt q2.atName >>= fun _ => holding [ov] (getMethod ov m pl) >>= fun r => callWith qc r.1 r.2 (backTo qc (starEach (a1 :: ar) X.env)) (backToKw qc (keywordEach [] X.env))) := by rfl)
    (hst : starEach (a1 :: ar) X.env = (false, eval a1 X.env) :: starEach ar X.env := by rfl) (hps : (backTo qc (starEach ar X.env)).any (·.1) = false := by rfl) (hdb : (x == ("__debug__" : Str)) = false := by decide) :
    PE X (.Call (.Attribute (.Name x q1) m q2) (a1 :: ar) [] qc) (tCall sp [] E ta) := by
  refine ⟨fun pins s σ H Q I h => ?_⟩
  refine PySem.W.methodCall_KW (ld_glob I hg hm ?_ hdb) hcal
  refine PySem.W.method_cls I.kIn T.ga (PySem.W.cls_value I.kIn T.rd T.at_ (by rfl) ?_)
  refine PySem.W.callWith_K (first := []) (h₀ := X.base) I.ok.mod.kin hk (thn (ha.run qc pins _ σ H _ (I.tok _) h) fun us s2 h2 => ?_) hst hps
  obtain ⟨vs, H2, I2, r, q2⟩ := h2
  exact ⟨I2.kIn, run_fn (us := us) (vs := vs) (dvs := []) F hr hb .nil hx I2 r (by rw [List.append_nil]; rw [List.append_nil] at q2; exact q2)⟩
end
end L2
namespace L2
open PySem PySem.Spec PyProof.Rows
theorem c_sdput {σ : St} {H : Hp} {D : Ends} {td ty tv : TE} (h : tv σ H fun v H1 => td σ H1 fun x H2 => ty σ H2 fun y H3 => ∃ a H4, x = .ref a ∧ DPut H3 a y v H4 ∧ D.nx σ H4) : sDPut td ty tv D σ H := h
theorem c_dget {σ : St} {H : Hp} {Q : VK} {td ty : TE} (h : td σ H fun x H1 => ty σ H1 fun y H2 => ∃ a v, x = .ref a ∧ DGet H2 a y (some v) ∧ Q v H2) : tDGet td ty σ H Q := h
end L2
namespace L2
open PySem PySem.Spec PyProof.Rows
section
variable {σ : St} {H : Hp} {Q : VK} {ta : TA} {te : TE} {sp : Sp} {E : St → XK} {C a : Addr} {cls : Value} {d : Option Addr} {f : Str} {W : XK}
theorem c_callS (h : ta σ H fun vs H1 => sp vs H1 Q (E σ)) : tCallS sp E ta σ H Q := h
theorem c_xf (h : te σ H fun x H1 => x = .ref a ∧ cls = .ref C ∧ ∃ (dd : Addr) (fs : List (Str × V)) (v : V), d = some dd ∧ H1 dd = some (.xd fs) ∧ fs.lookup f = some v ∧ Q v H1) : tXf a cls d C f te σ H Q := h
/-- what the making of an error that is raised asks -/
def RaP (C : Addr) (sp : Sp) (vs : List V) (H1 : Hp) (W : XK) : Prop := vs.length ≤ 1000 ∧ ∀ a, H1 a = none → sp (.ref a :: (vs ++ [])) (upd H1 a (exo a C none))
  (fun v H2 => v = .non ∧ ∃ (d : Addr) (fs : List (Str × V)), H2 a = some (exo a C (some d)) ∧ H2 d = some (exd d fs) ∧ H1 d = none ∧ W (.ref C) (some d) (upd (del H2 a) d (.xd fs))) (fun _ _ _ => False)
theorem c_mko (h : ta σ H fun vs H1 => RaP C sp vs H1 W) : tMkO C sp [] ta σ H W := h
theorem raise1 {u : V} (k : ∀ d H2, H d = none → Evl.Ex H H2 → H2 d = some (.xd [(f, u)]) → W (.ref C) (some d) H2) : RaP C (sp_err1 C f) [u] H W := by
  refine ⟨by simp, fun a ha => ⟨a, u, rfl, upd_same, fun d H2 hd nda hk h2a h2d => ⟨rfl, d, _, h2a, h2d, ?_, k d _ ?_ (fun b o hb => ?_) upd_same⟩⟩⟩
  · rw [upd_ne nda] at hd; exact hd
  · rw [upd_ne nda] at hd; exact hd
  · have nba : b ≠ a := ne_of_none hb ha
    have nbd : b ≠ d := by
      rw [upd_ne nda] at hd
      exact ne_of_none hb hd
    rw [upd_ne nbd, del_ne nba, hk b nba nbd, upd_ne nba]
    exact hb
end
end L2

/-! ### dicts: in, get -/
namespace L2
open PySem PySem.Spec PyProof.Rows
section
variable {X : Cx}
def rInDk : R2 := fun y x H Q => ∃ a o, x = .ref a ∧ DGet H a y o ∧ Q (.bl o.isSome) H
def rNotInDk : R2 := fun y x H Q => ∃ a o, x = .ref a ∧ DGet H a y o ∧ Q (.bl (!o.isSome)) H
theorem op_inDk (hu : X.A.units + 1 < cLine) : OpR X (compareOp .In) rInDk := by
  intro pins s σ H y x v u Q I ry rx h
  obtain ⟨a, o, rfl, g, q⟩ := h
  cases (show u = Value.ref a from rx)
  exact d_in hu I g ry fun s3 I3 => ⟨.bl o.isSome, H, I3, rfl, q⟩
theorem op_notInDk (hu : X.A.units + 1 < cLine) : OpR X (compareOp .NotIn) rNotInDk := by
  intro pins s σ H y x v u Q I ry rx h
  obtain ⟨a, o, rfl, g, q⟩ := h
  cases (show u = Value.ref a from rx)
  exact d_notIn hu I g ry fun s3 I3 => ⟨.bl (!o.isSome), H, I3, rfl, q⟩
end
end L2
/-! ### o.m(..) in a try, where m may raise -/
namespace L2
open PySem PySem.Spec PyProof.Rows
section
variable {X : Cx} {CX : CXT} {k : Nat} {sp : Addr → Sp} {E : St → XK} {m : Str} {o a1 : Expr} {ar : List Expr} {te : TE} {ta : TA} {qa qc : Pos} {M : Addr → Prop}
def tMPS (M : Addr → Prop) (m : Str) (sp : Addr → Sp) (E : St → XK) (te : TE) (ta : TA) : TE := fun σ H Q => te σ H fun x H1 => ∃ a C dx fs, x = .ref a ∧ H1 a = some (.ins C dx fs) ∧ M C ∧ fs.lookup m = none ∧ ta σ H1 fun vs H2 => sp C (x :: vs) H2 Q (E σ)
theorem pe_methPS {pl : Sem Bool} (he : PE X o te) (hM : ∀ C, M C → MOk X.prog X.w X.K X.mg X.base CX k C m (sp C)) (hr : Room k X.A) (hx : ∀ σ, PassesAt CX X σ (E σ)) (ha : PA X (a1 :: ar) ta)
    (hst : starEach (a1 :: ar) X.env = (false, eval a1 X.env) :: starEach ar X.env := by rfl) (hps : (backTo qc (starEach ar X.env)).any (·.1) = false := by rfl)
    (hcal : eval (.Call (.Attribute o m qa) (a1 :: ar) [] qc) X.env = (eval o X.env >>= fun ov => standAt qa.atName >>= fun _ => holding [ov] (getMethod ov m pl) >>= fun r => callWith qc r.1 r.2 (backTo qc (starEach (a1 :: ar) X.env)) (backToKw qc (keywordEach [] X.env))) := by rfl) :
    PE X (.Call (.Attribute o m qa) (a1 :: ar) [] qc) (tMPS M m sp E te ta) := by
  refine ⟨fun pins s σ H Q I h => ?_⟩
  refine PySem.W.methodCall_KW (pl := pl) (thn (he.run pins s σ H _ I h) fun u s1 hh => ?_) hcal
  obtain ⟨x, H1, I1, rx, a, C, dx, fs, rfl, ea, hC, l, q⟩ := hh
  obtain rfl : u = Value.ref a := rx
  obtain ⟨cl, f, fd, ps, hm, F, hb⟩ := hM C hC
  refine getmeth_ok I1 ea cl hm l ?_
  refine PySem.W.callWith_K (first := [.ref a]) (h₀ := X.base) I.ok.mod.kin hm.kp (thn (ha.run qc pins s1 σ H1 _ I1 q) fun us s2 h2 => ?_) hst hps
  obtain ⟨vs, H2, I2, r, q2⟩ := h2
  exact ⟨I2.kIn, run_fnS (us := .ref a :: us) (vs := .ref a :: vs) F hr hb (hx σ) I2 (.cons rfl r) q2⟩
theorem c_mps {σ : St} {H : Hp} {Q : VK} (h : te σ H fun x H1 => ∃ a C dx fs, x = .ref a ∧ H1 a = some (.ins C dx fs) ∧ M C ∧ fs.lookup m = none ∧ ta σ H1 fun vs H2 => sp C (x :: vs) H2 Q (E σ)) : tMPS M m sp E te ta σ H Q := h
end
end L2

/-! ### the end over a head by facts -/
namespace HandSHeadRun
/-- a list of numbers, reckoned first -/
def frL {α : Type} : List Nat → (List Nat → α) → α
  | [], k => k []
  | a :: as, k => frNat a fun b => frL as fun bs => k (b :: bs)
end HandSHeadRun
namespace L2
open PySem PySem.Spec PyProof.Rows
/-- as walk_ofE, the promise over A with nothing shown -/
theorem walk_ofEG {l : PySem.W.OpenLaw} {n k : Nat} {q : Program} {loose : List Str} {XP : (Str → Option Value) → Heap → Prop} {YP : World → Heap → Prop} {d : DefRec} {CX : CXT} {x : Str} (hn : l.most = some n) (hn2 : n ≤ sizeLine) (hdf : d.params.defaults = []) (hr : Room k callerA)
    (F : ∀ (w : World) (mg : Str → Option Value) (fa : Addr) (h : Heap), YP w h → h.Ns mainGlobals mg → mg d.name = some (.ref fa) → ∃ (K : PySem.W.Frag) (fd : FuncData) (sp : Sp), K.In h ∧ (∀ (s : Shared) (u : Value), BindsTo s fd ⟨[u], []⟩ [(x, u)]) ∧
        (∀ (H : Hp) (a : Addr) (ns : List Int), ns.length ≤ n → Only H → SqL K H a (ns.map V.int) → sp [.ref a] H (fun v _ => v = .bl true) fun _ _ _ => False) ∧ ∀ base : Heap, K.In base → base.Ns mainGlobals mg → FnG l.prog w K mg base CX k fa fd [x] sp)
    (hCX : ∀ (H : Hp) (s : Shared) (e : Value) (s' : Shared), CX [] H s (fun _ _ _ => False) e s' → False) : PySem.W.WalkO q loose XP YP l.row.toRowW d [] (fun f vs => PySem.call f vs) := by
  refine Att.attach_call hn hdf fun w s0 z1 mg mb fa o pm cd doc a vs ns G Y ho hd hcd hmg hobj hints hlen hg => ?_
  obtain ⟨K, fd, sp, KX, hb, hsp, hF⟩ := F w mg fa _ Y G.T.g hmg
  exact law_callG KX G.T.g G.T.b G.T.builtins G.T.nolimit hg hobj hints (Nat.le_trans hlen hn2) hr hF hb (fun H hO hS => hsp H a ns hlen hO hS) fun H e s' => hCX H z1 e s'
theorem fun_ofD {K : PySem.W.Frag} {x qual : Str} {st : Stmt} {f : Addr} {fd : FuncData} (F : FunD K x qual (defArgs st) (defBody st) (defScope st) [] [] f fd) : Fun K x qual st f fd := by
  obtain ⟨oc, od, dV, kV, doc, pm, an, cdv, ct, osl, e, lk, hcd, hD, _⟩ := F.ex
  rcases hD with ⟨_, rfl⟩ | ⟨z, _⟩
  · exact ⟨⟨oc, od, kV, doc, pm, an, cdv, ct, osl, e, lk, hcd⟩, F.kp⟩
  · exact absurd rfl z
theorem allAt {l : List Bool} (h : l.all id = true) (i : Nat) {b : Bool} (e : l[i]? = some b) : b = true := List.all_eq_true.mp h b (List.mem_of_getElem? e)
def strB (v : Value) (s : Str) : Bool := match v with
  | .str t _ => decide (t = s)
  | _ => false
def strsB : List Value → List Str → Bool
  | [], [] => true
  | v :: vs, s :: ss => strB v s && strsB vs ss
  | _, _ => false
theorem strsB_ok : ∀ {vs : List Value} {ss : List Str}, strsB vs ss = true → Vals (ss.map V.str) vs
  | [], [], _ => .nil
  | v :: vs, s :: ss, h => by
    rw [strsB, Bool.and_eq_true] at h
    refine .cons ?_ (strsB_ok h.2)
    cases v with
    | str t tk => exact ⟨tk, by rw [of_decide_eq_true (show decide (t = s) = true from h.1)]⟩
    | _ => exact absurd h.1 Bool.false_ne_true
  | [], _ :: _, h => absurd h Bool.false_ne_true
  | _ :: _, [], h => absurd h Bool.false_ne_true
/-- a tuple of texts of the written part -/
def tupB (K : PySem.W.Frag) (a : Addr) (ss : List Str) : Bool := match K.lookup a with
  | some ⟨.type c, _, .seq its _, _⟩ => decide (c = "tuple") && (decide (its.size ≤ 1000) && strsB its.toList ss)
  | _ => false
theorem tupB_ok {K : PySem.W.Frag} {a : Addr} {ss : List Str} (h : tupB K a ss = true) (H : Hp) : SqT K H a (ss.map V.str) := by
  unfold tupB at h
  split at h
  · rename_i c d its n sl e
    simp only [Bool.and_eq_true, decide_eq_true_eq] at h
    refine .inr ⟨_, its, n, e, ?_, rfl, Nat.le_trans h.2.1 (by decide), strsB_ok h.2.2⟩
    rw [h.1]
  · cases h
end L2
namespace L2
open PySem PySem.Spec PyProof.Rows
/-- where the named things stand: the module's names, classes and their tables, defs and their code -/
def nsOf (g : Addr → Option Obj) (C : Addr) : Addr := match g C with
  | some ⟨_, _, .cls cd, _⟩ => cd.ns
  | _ => 0
def cdOf (g : Addr → Option Obj) (f : Addr) : Addr := match g f with
  | some ⟨_, _, .func fd, _⟩ => (match fd.code with
    | .ref c => c
    | _ => 0)
  | _ => 0
def adrK (g : Addr → Option Obj) (cs ts : List Str) (fs : List (Str × Option Str)) : List Addr :=
  HandSHeadRun.frL (cs.map (He.ga (He.frG g [mainGlobals]))) fun ca => HandSHeadRun.frL (ca.map (nsOf g)) fun na =>
    HandSHeadRun.frL (fs.map (He.fAd (He.frG g (mainGlobals :: (ca ++ na))))) fun fa => HandSHeadRun.frL (fa.map (cdOf g)) fun ka =>
      HandSHeadRun.frL (ts.map (He.ga (He.frG g [mainGlobals]))) fun ta => mainGlobals :: cStatics :: (ca ++ (na ++ (fa ++ (ka ++ ta))))
def hkObs (cs ts : List Str) (fa : List He.Fa) (fn : List He.DefD) (ex : PySem.W.Frag → Bool) (g : Addr → Option Obj) : He.AlD × Bool := (He.obsD fa fn (He.frG g (adrK g cs ts (fn.map (·.at_)))), ex (He.frG g (adrK g cs ts (fn.map (·.at_)))))
def hookK (cs ts : List Str) (fa : List He.Fa) (fn : List He.DefD) (ex : PySem.W.Frag → Bool) : PySem.W.Hook where
  α := He.AlD × Bool
  obs := fun s => hkObs cs ts fa fn ex s.heap.get?
  val := fun _ => (He.valD fn, true)
  says := fun _ h => ∃ K : PySem.W.Frag, K.In h ∧ He.SaysD fa fn K ∧ ex K = true
  of := fun _ s e => ⟨_, He.frG_in, congrArg (fun z : He.AlD × Bool => z.1) e, congrArg (fun z : He.AlD × Bool => z.2) e⟩
  keeps := fun _ _ _ ⟨K, hK, c⟩ k => ⟨K, PySem.W.Frag.In.keeps hK k, c⟩
theorem hkObs_eq {cs ts : List Str} {fa : List He.Fa} {fn : List He.DefD} {ex : PySem.W.Frag → Bool} {g : Addr → Option Obj} {s : Shared} (h : ∀ a, g a = s.heap.get? a) : hkObs cs ts fa fn ex g = (hookK cs ts fa fn ex).obs s := by
  have e : g = s.heap.get? := funext h
  rw [e] <;> rfl
end L2
namespace L2
open PySem PySem.Spec PyProof.Rows
theorem opt_some {α β : Type} {E : Option α} {f : α → β} {b : β} (h : E.map f = some b) : ∃ s, E = some s ∧ f s = b := by
  cases E with
  | none => cases h
  | some s => exact ⟨s, rfl, Option.some.inj h⟩
theorem opt_at {α β : Type} {E : Option α} {f : α → β} {b : β} {s : α} (e : E = some s) (h : E.map f = some b) : f s = b := by
  rw [e] at h
  exact Option.some.inj h
theorem obs_join {α β : Type} {l : α} {z : β} {x y : Bool} {l0 : α} {z0 : β} {fa : List He.Fa} {fn fA fB : List He.DefD} {K : PySem.W.Frag} (e : fn = fA ++ fB) (a : ((l, z), x) = ((l0, z0), y))
    (b : ((fa.all fun f => f.ok K) && fA.all (fun d => d.ok K), fA.map fun d => He.fnW K d.at_) = (true, fA.map He.DefD.val)) (c : (true && fB.all (fun d => d.ok K), fB.map fun d => He.fnW K d.at_) = (true, fB.map He.DefD.val)) :
    some (l, z, (He.obsD fa fn K, x)) = some (l0, z0, (He.valD fn, y)) := by
  have a1 := (Prod.mk.inj a).1
  have a2 := (Prod.mk.inj a).2
  have a3 := (Prod.mk.inj a1).1
  have a4 := (Prod.mk.inj a1).2
  have b1 := (Prod.mk.inj b).1
  have b2 := (Prod.mk.inj b).2
  have c1 := (Prod.mk.inj c).1
  have c2 := (Prod.mk.inj c).2
  rw [Bool.and_eq_true] at b1 c1
  have o : He.obsD fa fn K = He.valD fn := by
    unfold He.obsD He.valD
    rw [e, List.all_append, b1.1, b1.2, c1.2, List.map_append, List.map_append, b2, c2]
    rfl
  rw [a2, a3, a4, o]
end L2

/-! ### try: clauses with a name or without, and else -/
namespace L2
open PySem PySem.Spec PyProof.Rows
abbrev Sui := Addr → Value → Option Addr → TS
/-- what the clauses wish: a class, the slot of the name (if there is one), the suite -/
def wAll (K : PySem.W.Frag) (Wo : WX) (D : Ends) : List (Value × Option Nat × Sui) → WX
  | [] => Wo
  | (c, none, ts) :: r => fun k d σ H => ∃ b, PySem.W.exmOne K k c = some b ∧ (b = true → ∀ a, H a = none → ts a k d D σ H) ∧ (b = false → wAll K Wo D r k d σ H)
  | (c, some i, ts) :: r => fun k d σ H => ∃ b, PySem.W.exmOne K k c = some b ∧ (b = true → ∀ a, H a = none → ts a k d ⟨fun σ' H' => D.nx (σ'.set i none) H', D.rt, fun σ' H' => D.bk (σ'.set i none) H', fun σ' H' => D.ct (σ'.set i none) H'⟩ (σ.set i (some (.ref a))) H) ∧ (b = false → wAll K Wo D r k d σ H)
abbrev SuiOk (X : Cx) (ss : List Stmt) (ts : Sui) : Prop := ∀ (a : Addr) (oe : Obj) (k : Value) (d : Option Addr) (pn : List (Addr × Obj)), Zc k d oe → (∃ vs, oe.data = .fields vs) → PSs (X.suite a ((a, oe) :: pn)) ss (ts a k d)
inductive Hds (X : Cx) : List ExceptHandler → List (Value × Option Nat × Sui) → Prop
  | nil : Hds X [] []
  | anon {x : Str} {c : Value} {ts : Sui} {s0 : Stmt} {ss : List Stmt} {p1 p2 : Pos} {hs : List ExceptHandler} {l : List (Value × Option Nat × Sui)} (hc : Names X x c) (su : SuiOk X (s0 :: ss) ts) (r : Hds X hs l) : Hds X (.ExceptHandler (some (.Name x p1)) none (s0 :: ss) p2 :: hs) ((c, none, ts) :: l)
  | named {x n : Str} {i : Nat} {c : Value} {ts : Sui} {s0 : Stmt} {ss : List Stmt} {p1 p2 : Pos} {hs : List ExceptHandler} {l : List (Value × Option Nat × Sui)} (hi : X.N[i]? = some n) (hk : X.env.kindOf n = some .local) (hc : Names X x c) (su : SuiOk X (s0 :: ss) ts) (r : Hds X hs l) : Hds X (.ExceptHandler (some (.Name x p1)) (some n) (s0 :: ss) p2 :: hs) ((c, some i, ts) :: l)
section
variable {X : Cx}
theorem ps_try_all {bd el : List Stmt} {g0 : ExceptHandler} {gs : List ExceptHandler} {l : List (Value × Option Nat × Sui)} {p : Pos} {tb : WX → TS} {te : TS} {Wo : WX} (hN : X.N.Nodup) (hs : X.stack = X.env :: X.outer) (hf : X.env.frame = some X.env.locals) (tk : Takes X Wo)
    (hb : ∀ (W : WX) (pn : List (Addr × Obj)) (xe : Value → Shared → Prop), Takes (X.tr pn xe) W → PassesOwn (model X.prog X.w) X.A X.env xe → PSs (X.tr pn xe) bd (tb W)) (hh : Hds X (g0 :: gs) l) (he : PSs X el te) :
    PS X (.Try bd (g0 :: gs) el [] p) (fun D σ H => tb (wAll X.K Wo D l) { D with nx := te D } σ H) := by
  refine ⟨fun pins s σ H D I h => ?_⟩
  have ok := I.ok
  have fr : X.A.frames = some (X.env :: X.outer) := by rw [ok.frames, hs]
  let M := model X.prog X.w
  let catches : Value → Shared → Prop := fun e s1 => wpAny M X.A (noteFrame e X.env) (fun _ s2 => wpAny M X.A (setFlight e none) (fun _ s3 => wpAny M X.A (handleBy e X.env (g0 :: gs)) (SP X pins D) X.xe s3) X.xe s2) X.xe s1
  refine wpAny_Try_except ?_
  have run := (hb (wAll X.K Wo D l) (X.pn ++ pins) catches (fun u s' got => ?_) PassesOwn.looking).run [] s σ H { D with nx := te D } (I.toTry _) h
  refine wpAny_mono run (fun f s1 out => ?_) (fun e s1 z => z)
  · cases f with
    | next => obtain ⟨σ1, H1, J1, q⟩ := out; exact he.run pins s1 σ1 H1 D (J1.ofTry ok) q
    | brk => obtain ⟨σ1, H1, J1, q⟩ := out; exact ⟨σ1, H1, J1.ofTry ok, q⟩
    | cont => obtain ⟨σ1, H1, J1, q⟩ := out; exact ⟨σ1, H1, J1.ofTry ok, q⟩
    | ret u => obtain ⟨v, σ1, H1, J1, r, q⟩ := out; exact ⟨v, σ1, H1, J1.ofTry ok, r, q⟩
  · obtain ⟨a, B, sI, pins1, σ1, H1, k, d, rfl, J1, nb, up, sky, na, os, ag, wish⟩ := got
    have J : Inv X pins σ1 H1 sI := J1.ofTry ok
    have sk : Sky B (X.env :: X.outer) a (Zc k d) X.env.locals s'.heap := hs ▸ sky
    show wpAny M X.A (noteFrame (.ref a) X.env) _ _ _
    refine Sky.land Zc.steady fr hf sk fun hA flA upA => ?_
    have JA : Inv X pins σ1 H1 { s' with heap := hA } := J.landed nb flA.1 (up.trans upA) os ag
    obtain ⟨oA, vA, eA, zA, dA⟩ := flA.there
    have off : a ∉ frs (X.env :: X.outer) := fun hm => by
      obtain ⟨_, o1, e1, hn⟩ := flA.2.2.1.mem hm
      rw [eA] at e1
      cases e1
      exact hn _ dA
    have off1 : a ≠ X.env.locals := fun z => off (List.mem_filterMap.mpr ⟨X.env, List.mem_cons_self, by rw [hf, z]⟩)
    have off2 : a ∉ X.fs := fun hm => by
      obtain ⟨e, h1, h2⟩ := List.mem_filterMap.mp hm
      exact off (List.mem_filterMap.mpr ⟨e, List.mem_cons_of_mem _ h1, h2⟩)
    have SA := JA.suite eA dA na off1 off2
    have ask : ∀ {x : Str} {c : Value} {np : Pos} {Q E : Value → Shared → Prop}, Names X x c → Q c { s' with heap := hA } → wpAny M (X.A.mark (some (.ref a))) (eval (.Name x np) X.env) Q E { s' with heap := hA } := fun {x c np Q E} hc q => by
      obtain ⟨hg, hd, hm | ⟨hm, hv, hn⟩⟩ := hc
      · exact ld_glob (X := X.suite a ((a, oA) :: (X.pn ++ pins))) SA hg hm q hd
      · exact ld_blt (X := X.suite a ((a, oA) :: (X.pn ++ pins))) SA hg hm hv q hn hd
    have type_ : PySem.W.Looks M hA (typeOf (.ref a)) k := fun A Q E s q1 q2 => wpAny_typeOf_ref (q1 _ _ eA) (by rw [zA.1]; exact q2)
    suffices go : ∀ {hs1 : List ExceptHandler} {l1 : List (Value × Option Nat × Sui)}, Hds X hs1 l1 → wAll X.K Wo D l1 k d σ1 H1 → wpAny M X.A (handleBy (.ref a) X.env hs1) (SP X pins D) X.xe { s' with heap := hA } from go hh wish
    intro hs1 l1 hk
    induction hk with
    | nil =>
      intro wsh
      refine wpAny_handleBy_nil ?_
      obtain ⟨_, _, _, oe, vs, T, oT, tt, e0, z0, d0, t0, r0⟩ := id flA
      unfold PySem.passOn
      refine wpAny_bind (wpAny_field e0 d0 t0 ?_)
      rw [if_neg (show ¬ ((Value.ref T == Value.none) = true) by simp)]
      have last : wpAny M X.A (setFlight (.ref a) X.env.frame) (fun _ s4 => wpAny M X.A (throw (.ref a) : Sem Flow) (SP X pins D) X.xe s4) X.xe { s' with heap := hA } := by
        rw [hf]
        refine HandSPX.setFlight_upZ flA fun hB kB upB => wpAny_throw (tk _ _ ?_)
        exact ⟨a, B, sI, pins, σ1, H1, k, d, rfl, J, nb, (up.trans upA).trans upB, .inr (.inr (hs ▸ kB)), na, os, ag, wsh⟩
      first
        | exact wpAny_bind (wpAny_pure (wpAny_bind last))
        | exact wpAny_bind last
    | @anon x c ts s0 ss p1 p2 hs2 l2 hc su r ih =>
      intro wsh
      obtain ⟨b, hb1, yes, no⟩ := wsh
      have LM := PySem.W.exm_one (M := M) JA.kIn type_ hb1
      refine wpAny_handleBy_cons (codeAny_handlers_test (ask hc (LM.here ?_))) (by intro q; cases q)
      cases b with
      | false => exact ih (no rfl)
      | true =>
        refine codeAny_handlers_suite (HandSPX.lands_againZ flA fun hB flB upB => ?_)
        have JB : Inv X pins σ1 H1 { s' with heap := hB } := J.landed nb flB.1 ((up.trans upA).trans upB) os ag
        obtain ⟨oB, vB, eB, zB, dB⟩ := flB.there
        have run2 := (su a oB k d (X.pn ++ pins) zB ⟨_, dB⟩).run [] _ _ H1 _ (JB.suite eB dB na off1 off2) (yes rfl a na)
        refine wpAny_mono run2 (fun f s6 out => ?_) (fun _ _ z => False.elim z)
        cases f with
        | next => obtain ⟨σ6, H6, S6, q6⟩ := out; exact ⟨_, _, S6.unsuite ok, q6⟩
        | brk => obtain ⟨σ6, H6, S6, q6⟩ := out; exact ⟨_, _, S6.unsuite ok, q6⟩
        | cont => obtain ⟨σ6, H6, S6, q6⟩ := out; exact ⟨_, _, S6.unsuite ok, q6⟩
        | ret u => obtain ⟨v6, σ6, H6, S6, r6, q6⟩ := out; exact ⟨_, _, _, S6.unsuite ok, r6, q6⟩
    | @named x n i c ts s0 ss p1 p2 hs2 l2 hi hkn hc su r ih =>
      intro wsh
      obtain ⟨b, hb1, yes, no⟩ := wsh
      have LM := PySem.W.exm_one (M := M) JA.kIn type_ hb1
      refine wpAny_handleBy_cons (codeAny_handlers_test (ask hc (LM.here ?_))) (by intro q; cases q)
      cases b with
      | false => exact ih (no rfl)
      | true =>
        refine codeAny_handlers_suite_as (HandSPX.lands_againZ flA fun hB flB upB => ?_)
        have JB : Inv X pins σ1 H1 { s' with heap := hB } := J.landed nb flB.1 ((up.trans upA).trans upB) os ag
        obtain ⟨oB, vB, eB, zB, dB⟩ := flB.there
        refine store_ok (X := X.suite a ((a, oB) :: (X.pn ++ pins))) (v := .ref a) (JB.suite eB dB na off1 off2) hN hi (.inl hkn) rfl (fun s5 S5 => ?_) (.inr hkn)
        have run2 := (su a oB k d (X.pn ++ pins) zB ⟨_, dB⟩).run [] s5 _ H1 _ S5 (yes rfl a na)
        refine wpAny_mono run2 (fun f s6 out => ?_) (fun _ _ z => False.elim z)
        cases f with
        | next => obtain ⟨σ6, H6, S6, q6⟩ := out; exact gone_ok (S6.unsuite ok) hN hi hkn fun s7 J7 => ⟨_, _, J7, q6⟩
        | brk => obtain ⟨σ6, H6, S6, q6⟩ := out; exact gone_ok (S6.unsuite ok) hN hi hkn fun s7 J7 => ⟨_, _, J7, q6⟩
        | cont => obtain ⟨σ6, H6, S6, q6⟩ := out; exact gone_ok (S6.unsuite ok) hN hi hkn fun s7 J7 => ⟨_, _, J7, q6⟩
        | ret u => obtain ⟨v6, σ6, H6, S6, r6, q6⟩ := out; exact gone_ok (S6.unsuite ok) hN hi hkn fun s7 J7 => ⟨_, _, _, J7, r6, q6⟩
end
end L2

/-! ### != of lists whose things are equal, within one model -/
namespace NeL
open PySem PySem.SeqAt
open AutoSeq1 (wpAny_loadPart')
open MeetsSeq MeetsSeq2 MeetsSeq3 SeqRoads2
abbrev LsAt (s : Shared) (l : Addr) (xs : Array Value) (n : Nat) (dd : Option Addr) (sl : Array (Option Value)) : Prop := s.heap.get? l = some { cls := .type "list", dict := dd, data := .seq xs n, slots := sl }
section
variable {P : Program} {w : World}
theorem loop_ne (l b : Addr) (xs ys : Array Value) (n m : Nat) (d1 d2 : Option Addr) (s1 s2 : Array (Option Value)) (hs : xs.size = ys.size) (k : Nat) : ∀ i : Nat, xs.size - i = k →
    MeetsIn P w (Builtin.«list.__eq__.loop» ⟨[.ref l, .ref b, rawInt i, rawInt 3], []⟩) (fun A R s => LsAt s l xs n d1 s1 ∧ LsAt s b ys m d2 s2 ∧ (∀ j (h1 : j < xs.size) (h2 : j < ys.size), EqP P w A.in1 s xs[j] ys[j] true) ∧ R (.ok (.ret (.bool false))) s) := by
  induction k with
  | zero =>
    intro i hi A R s hh
    obtain ⟨hp, g, d, tk, os⟩ := s
    obtain ⟨gl, gb, ge, r⟩ := hh
    wp_walk using wpAny_loadPart' gl, wpAny_loadPart' gb
    have n1 : xs[((i : Nat) : Int).toNat]? = none := by simp; omega
    have n2 : ys[((i : Nat) : Int).toNat]? = none := by simp; omega
    rw [n1, n2]
    wp_walk using wpAny_loadPart' gl, wpAny_loadPart' gb
    show R (.ok (.ret (.bool (xs.size != ys.size)))) _
    rw [hs, bne_self_eq_false]
    exact r
  | succ k ih =>
    intro i hi A R s hh
    obtain ⟨hp, g, d, tk, os⟩ := s
    obtain ⟨gl, gb, ge, r⟩ := hh
    wp_walk using wpAny_loadPart' gl, wpAny_loadPart' gb
    have l1 : i < xs.size := by omega
    have l2 : i < ys.size := by omega
    rw [show xs[((i : Nat) : Int).toNat]? = some xs[i] by simp [l1], show ys[((i : Nat) : Int).toNat]? = some ys[i] by simp [l2]]
    refine wpAny_bind (ge i l1 l2 _ _ ?_)
    wp_walk
    rw [show ((i : Int) + 1) = ((i + 1 : Nat) : Int) by push_cast; rfl]
    refine ⟨plainId_quiet plain_eq_loop _, codeAny_builtin entry_eq_loop ?_⟩
    rw [Around.under_plainId plain_eq_loop _]
    exact ih (i + 1) (by omega) A R _ ⟨gl, gb, ge, r⟩
theorem list_ne (l b : Addr) (xs ys : Array Value) (n m : Nat) (d1 d2 : Option Addr) (s1 s2 : Array (Option Value)) (hs : xs.size = ys.size) :
    MeetsIn P w (Builtin.«list.__ne__» ⟨[.ref l, .ref b], []⟩) (fun A R s => LsAt s l xs n d1 s1 ∧ LsAt s b ys m d2 s2 ∧ (∀ j (h1 : j < xs.size) (h2 : j < ys.size), EqP P w A.in1 s xs[j] ys[j] true) ∧ R (.ok (.ret (.bool false))) s) := by
  intro A R s hh
  obtain ⟨hp, g, d, tk, os⟩ := s
  obtain ⟨gl, gb, ge, r⟩ := hh
  have f3 := AutoSeq1.sub_list_list
  have nz : ¬ (xs.size != ys.size) = true := by simp [hs]
  wp_walk using wpAny_loadPart' gl, wpAny_loadPart' gb
  refine ⟨plainId_quiet plain_eq_loop _, codeAny_builtin entry_eq_loop ?_⟩
  rw [Around.under_plainId plain_eq_loop _]
  exact loop_ne l b xs ys n m d1 d2 s1 s2 hs _ 0 rfl A R _ ⟨gl, gb, ge, r⟩
theorem lists_ne {A : Around} {s : Shared} {l b : Addr} {xs ys : Array Value} (hl : s.heap.IsList l xs) (hb : s.heap.IsList b ys) (hs : xs.size = ys.size) (hu : A.units < cLine) (he : ∀ j (h1 : j < xs.size) (h2 : j < ys.size), EqP P w A.in1 s xs[j] ys[j] true) (E Q : Value → Shared → Prop) (q : Q (.bool false) s) :
    wpAny (model P w) A (richCompare .NotEq (.ref l) (.ref b)) Q E s := by
  obtain ⟨⟨c1, d1, t1, s1⟩, o1, e1, n, f1⟩ := id hl
  obtain ⟨⟨c2, d2, t2, s2⟩, o2, e2, m, f2⟩ := id hb
  simp only at e1 f1 e2 f2
  subst e1 f1 e2 f2
  have y1 : s.TypeIs (.ref l) "list" := ⟨_, o1, rfl⟩
  have y2 : s.TypeIs (.ref b) "list" := ⟨_, o2, rfl⟩
  refine wpAny_richCompare_same_room (op := .NotEq) y1 y2 F.slot_list_ne (call_meetsIn F.slot_list_ne y1 F.entry_list_ne (F.args_list_ne_2 _ _) (list_ne l b xs ys n m d1 d2 s1 s2 hs) ?_) hu
  exact ⟨o1, o2, he, show Value.bool false ≠ Value.notImplemented ∧ Q (.bool false) s from ⟨(fun x => nomatch x), q⟩⟩
end
end NeL

/-! ### dicts, what is shown of caught errors (printed by mk_bank16.py) -/
namespace L2
open PySem PySem.Spec PyProof.Rows
open TL (tl)
open Evl hiding RetV RetL
theorem putK_len (kvs : List (Key × V)) (k : Key) (v : V) : (putK kvs k v).length ≤ kvs.length + 1 := by
  unfold putK
  split
  · rw [List.length_map]; omega
  · rw [List.length_append]; simp
theorem dgetK {H : Hp} {d : Addr} {kvs : List (Key × V)} {s : Str} (h : H d = some (.dK kvs)) : DGet H d (.str s) (valV kvs (.inr s)) := .inl ⟨kvs, .inr s, .inl h, rfl, rfl⟩
theorem putK_nodup {kvs : List (Key × V)} {k : Key} {v : V} (h : (kvs.map (·.1)).Nodup) : ((putK kvs k v).map (·.1)).Nodup := by
  unfold putK
  cases ha : (kvs.any fun kv => decide (kv.1 = k)) with
  | true =>
    rw [if_pos rfl, List.map_map]
    refine (?_ : List.map _ kvs = kvs.map (·.1)) ▸ h
    refine List.map_congr_left fun p _ => ?_
    dsimp only [Function.comp]
    split <;> simp_all
  | false =>
    rw [if_neg (by decide), List.map_append, List.nodup_append]
    refine ⟨h, by simp, fun a ha2 b hb => ?_⟩
    obtain ⟨p, hp, rfl⟩ := List.mem_map.mp ha2
    have : b = k := by simpa using hb
    subst this
    intro he
    have : (kvs.any fun kv => decide (kv.1 = b)) = true := List.any_eq_true.mpr ⟨p, hp, by simpa using he⟩
    rw [ha] at this
    cases this
theorem c_lock {t : TS} {D : Ends} {σ : St} {H : Hp} {d : Addr} {u : HO} (hd : H d = some u) (hm : Mut (some u)) (h : ∀ od, t ⟨fun σ' H' => H' d = some (.frz od u) ∧ D.nx σ' (upd H' d u), fun v H' => H' d = some (.frz od u) ∧ D.rt v (upd H' d u), fun σ' H' => H' d = some (.frz od u) ∧ D.bk σ' (upd H' d u), fun σ' H' => H' d = some (.frz od u) ∧ D.ct σ' (upd H' d u)⟩ σ (upd H d (.frz od u))) : tLock t D σ H := ⟨d, u, hd, hm, h⟩
theorem c_forK {td : TE} {g : L2.TG} {tb : TS} {D : Ends} {σ : St} {H : Hp} (h : td σ H fun x H1 => ∃ d o, x = .ref d ∧ ((∃ kvs, H1 d = some (.frz o (.dK kvs)) ∧ ForI (Itk d o kvs) g tb D σ H1) ∨ ∃ kvs, H1 d = some (.frz o (.dT kvs)) ∧ ForI (Itkt d o kvs) g tb D σ H1)) : tFor (iKeys td) g tb D σ H := h
theorem forK {tb : TS} {D : Ends} {σ : St} {H : Hp} {d : Addr} {o : Obj} {kvs : List (Key × V)} {j : Nat} (Pv : Nat → St → Hp → Prop) (h0 : Pv 0 σ H) (hl : ∀ i σ' H', i ≤ kvs.length → Pv i σ' H' → H' d = some (.frz o (.dK kvs)))
    (hs : ∀ i k v σ' H', kvs[i]? = some (k, v) → Pv i σ' H' → tb { D with nx := Pv (i + 1), ct := Pv (i + 1), bk := D.nx } (σ'.set j (some (kV k))) H') (hd : ∀ σ' H', Pv kvs.length σ' H' → D.nx σ' H') : ForI (Itk d o kvs) (gName j) tb D σ H :=
  for_it walk_keys Pv h0 hl (fun i x σ' H' H'' _ p y => by
    obtain ⟨rfl, k, v, hk, rfl⟩ := y
    exact hs i k v σ' H'' hk p) hd
theorem valV_mem {kv : List (Key × V)} {k : Key} {v : V} (hn : (kv.map (·.1)).Nodup) (h : (k, v) ∈ kv) : valV kv k = some v := by
  induction kv with
  | nil => cases h
  | cons p r ih =>
    rw [List.map_cons, List.nodup_cons] at hn
    rcases List.mem_cons.mp h with e | h
    · subst e
      exact valV_pos rfl
    · have hne : ¬ p.1 = k := fun z => hn.1 (by rw [z]; exact List.mem_map.mpr ⟨(k, v), h, rfl⟩)
      rw [valV_neg hne]
      exact ih hn.2 h
theorem putK_len2 (kvs : List (Key × V)) (k : Key) (v : V) : (valV kvs k = none ∧ (putK kvs k v).length = kvs.length + 1) ∨ (putK kvs k v).length = kvs.length := by
  unfold putK
  cases h : (kvs.any fun kv => decide (kv.1 = k)) with
  | true => right; rw [if_pos rfl, List.length_map]
  | false =>
    left
    rw [valV_any] at h
    refine ⟨?_, by rw [if_neg (by decide), List.length_append]; rfl⟩
    cases hv : valV kvs k with
    | none => rfl
    | some x => rw [hv] at h; cases h
theorem valV_drop {kvs : List (Key × V)} {k k' : Key} : valV (dropK kvs k) k' = if k' = k then none else valV kvs k' := by
  induction kvs with
  | nil => split <;> rfl
  | cons p r ih =>
    by_cases e : p.1 = k
    · rw [dropK_pos e, ih]
      split
      · rfl
      · rename_i h
        rw [valV_neg (fun z => h (z.symm.trans e))]
    · rw [dropK_neg e]
      by_cases e2 : p.1 = k'
      · rw [valV_pos e2, valV_pos e2, if_neg (fun z => e (e2.trans z))]
      · rw [valV_neg e2, valV_neg e2, ih]
theorem c_dpop {σ : St} {H : Hp} {Q : VK} {td ty : TE} (h : td σ H fun x H1 => ∃ a, x = .ref a ∧ IsD H1 a ∧ ty σ H1 fun y H2 => ∃ kvs k v, H2 a = some (.dK kvs) ∧ y = kV k ∧ valV kvs k = some v ∧ Q v (upd H2 a (.dK (dropK kvs k)))) : tDPop1 td ty σ H Q := h
theorem c_lockE {t : TE} {Q : VK} {σ : St} {H : Hp} {d : Addr} {u : HO} (hd : H d = some u) (hm : Mut (some u)) (h : ∀ od, t σ (upd H d (.frz od u)) fun v H' => H' d = some (.frz od u) ∧ Q v (upd H' d u)) : tLockE t σ H Q := ⟨d, u, hd, hm, h⟩
theorem c_lcK {td : TE} {g : L2.TG} {tt : TT} {te : TE} {vs : List Nat} {σ : St} {H : Hp} {Q : VK} (h : td σ H fun x H1 => ∃ d o, x = .ref d ∧ ((∃ kvs, H1 d = some (.frz o (.dK kvs)) ∧ LcI (Itk d o kvs) g tt te vs σ H1 Q) ∨ ∃ kvs, H1 d = some (.frz o (.dT kvs)) ∧ LcI (Itkt d o kvs) g tt te vs σ H1 Q)) : tLc (iKeys td) g tt te vs σ H Q := h
theorem call_lenK {X : Cx} : CallR X (.builtin "len") (fun xs H Q => ∃ (a : Addr) (kvs : List (Key × V)), xs = [.ref a] ∧ Rd H a (.dK kvs) ∧ Q (.int kvs.length) H) := by
  intro pins s σ H xs us Q I r h
  obtain ⟨a, kvs, rfl, e, q⟩ := h
  rw [Vals.ref1 r]
  exact d_len I e fun t s' I' => ⟨.int _, H, I', ⟨_, rfl⟩, q⟩
theorem paired_up {α β : Type} {F G : α → β → Prop} (h : ∀ a b, F a b → G a b) : ∀ {l : List α} {m : List β}, Paired F l m → Paired G l m
  | _, _, .nil => .nil
  | _, _, .cons p q => .cons (h _ _ p) (paired_up h q)
theorem paired_snoc {α β : Type} {F : α → β → Prop} {a : α} {b : β} (p : F a b) : ∀ {l : List α} {m : List β}, Paired F l m → Paired F (l ++ [a]) (m ++ [b])
  | _, _, .nil => .cons p .nil
  | _, _, .cons q r => .cons q (paired_snoc p r)
theorem paired_len {α β : Type} {F : α → β → Prop} : ∀ {l : List α} {m : List β}, Paired F l m → l.length = m.length
  | _, _, .nil => rfl
  | _, _, .cons _ q => by rw [List.length_cons, List.length_cons, paired_len q]
theorem lcK {d : Addr} {o : Obj} {kvs : List (Key × V)} {g : L2.TG} {tt : TT} {te : TE} {vs : List Nat} {σ : St} {H : Hp} {Q : VK} (F : Key × V → Bool) (R0 : Key × V → V → Hp → Prop) (hst : ∀ kv y G G2, NL G G2 → R0 kv y G → R0 kv y G2)
    (hd : H d = some (.frz o (.dK kvs))) (hn : kvs.length ≤ 1000)
    (ht : ∀ (i : Nat) (kv : Key × V), kvs[i]? = some kv → ∀ H2, Ex H H2 → ∀ (R : V → Hp → Prop) (N : Hp → Prop), (F kv = true → ∀ y H3, Ex H2 H3 → R0 kv y H3 → R y H3) → (F kv = false → ∀ H3, Ex H2 H3 → N H3) →
      g (kV kv.1) (wipe σ vs) H2 fun σ2 H3 => wipe σ2 vs = wipe σ vs ∧ tt σ2 H3 fun c H4 => if c = true then te σ2 H4 fun y H5 => R y H5 else N H4)
    (k : ∀ ys p H2, Paired (fun y kv => R0 kv y H2) ys (kvs.filter F) → H p = none → Ex H H2 → H2 p = some (.lst ys) → Q (.ref p) H2) : LcI (Itk d o kvs) g tt te vs σ H Q := by
  refine fun D hD => ?_
  have ex : ∀ {G : Hp} {o : HO}, Ex H G → Ex H (upd G D o) := fun e b u hb => by rw [upd_ne (ne_of_none hb hD)]; exact e b u hb
  refine lc_it walk_keys (fun i H' => i ≤ kvs.length ∧ Ex H H' ∧ ∃ ys, Paired (fun y kv => R0 kv y H') ys ((kvs.take i).filter F) ∧ H' D = some (.lst ys))
    ⟨Nat.zero_le _, ex (Ex.refl _), [], .nil, upd_same⟩ (fun i H' _ p => p.2.1 _ _ hd) (fun i x H' H'' hi p y => ?_) (fun H' p => ?_)
  · obtain ⟨rfl, key, v, hk, rfl⟩ := y
    obtain ⟨_, e1, ys, hy, hD'⟩ := p
    have hyl : ys.length ≤ i := by
      rw [paired_len hy]
      exact Nat.le_trans (List.length_filter_le _ _) (by rw [List.length_take]; omega)
    have htk : kvs.take (i + 1) = kvs.take i ++ [(key, v)] := by rw [List.take_add_one, hk]; rfl
    refine ht i (key, v) hk H'' e1 (fun y H4 => ∃ acc, H4 D = some (.lst acc) ∧ acc.length < sizeLine ∧ (i + 1 ≤ kvs.length ∧ Ex H (upd H4 D (.lst (acc ++ [y]))) ∧ ∃ zs, Paired (fun z kv => R0 kv z (upd H4 D (.lst (acc ++ [y])))) zs ((kvs.take (i + 1)).filter F) ∧ upd H4 D (.lst (acc ++ [y])) D = some (.lst zs))) (fun H4 => i + 1 ≤ kvs.length ∧ Ex H H4 ∧ ∃ zs, Paired (fun y kv => R0 kv y H4) zs ((kvs.take (i + 1)).filter F) ∧ H4 D = some (.lst zs)) (fun hF y H3 e3 py => ?_) (fun hF H3 e3 => ?_)
    · have hD3 := e3 _ _ hD'
      have eD : NL H3 (upd H3 D (.lst (ys ++ [y]))) := NL.upd hD3
      refine ⟨ys, hD3, Evl.sz_lt (by omega), hi, ex (e1.trans e3), ys ++ [y], ?_, upd_same⟩
      rw [htk, List.filter_append, List.filter_cons_of_pos hF, List.filter_nil]
      exact paired_snoc (F := fun a b => R0 b a (upd H3 D (HO.lst (ys ++ [y])))) (hst _ _ _ _ eD py) (paired_up (fun a b h => hst _ _ _ _ eD (hst _ _ _ _ (NL.of e3) h)) hy)
    · refine ⟨hi, e1.trans e3, ys, ?_, e3 _ _ hD'⟩
      rw [htk, List.filter_append, List.filter_cons_of_neg (by rw [hF]; decide), List.filter_nil, List.append_nil]
      exact paired_up (fun a b h => hst _ _ _ _ (NL.of e3) h) hy
  · obtain ⟨_, e1, ys, hy, hD'⟩ := p
    rw [List.take_length] at hy
    exact k ys D H' hy hD e1 hD'
theorem ex_unlock {H G : Hp} {d : Addr} {od : Obj} {u : HO} (hd : H d = some u) (e : Ex (upd H d (.frz od u)) G) : Ex H (upd G d u) := fun a o ha => by
  by_cases h : a = d
  · subst h
    rw [upd_same, ← ha, hd]
  · rw [upd_ne h]
    exact e a o (by rw [upd_ne h]; exact ha)
theorem putK_fresh {kvs : List (Key × V)} {k : Key} {v : V} (h : k ∉ kvs.map (·.1)) : putK kvs k v = kvs ++ [(k, v)] := by
  unfold putK
  rw [if_neg]
  intro ha
  obtain ⟨p, hp, he⟩ := List.any_eq_true.mp ha
  exact h (List.mem_map.mpr ⟨p, hp, by simpa using he⟩)
theorem mergeK_nodup : ∀ (more kvs : List (Key × V)), ((kvs ++ more).map (·.1)).Nodup → mergeK kvs more = kvs ++ more
  | [], kvs, _ => (List.append_nil _).symm
  | p :: more, kvs, h => by
    have hp : p.1 ∉ kvs.map (·.1) := by
      rw [List.map_append, List.nodup_append] at h
      intro hm
      exact h.2.2 _ hm _ (List.mem_map.mpr ⟨p, List.mem_cons_self, rfl⟩) rfl
    show mergeK (putK kvs p.1 p.2) more = _
    rw [putK_fresh hp, mergeK_nodup more (kvs ++ [(p.1, p.2)]) (by rw [List.append_assoc]; exact h), List.append_assoc]
    rfl
theorem valV_filter {kvs : List (Key × V)} {F : Key × V → Bool} {k : Key} (h : ∀ v v', F (k, v) = F (k, v')) {v0 : V} (hF : F (k, v0) = true) : valV (kvs.filter F) k = valV kvs k := by
  induction kvs with
  | nil => rfl
  | cons p r ih =>
    by_cases e : p.1 = k
    · have hp : F p = true := by rw [← hF, show p = (k, p.2) from by rw [← e]]; exact h _ _
      rw [List.filter_cons_of_pos hp, valV_pos e, valV_pos e]
    · rw [valV_neg e]
      cases hp : F p with
      | true => rw [List.filter_cons_of_pos hp, valV_neg e, ih]
      | false => rw [List.filter_cons_of_neg (by rw [hp]; decide), ih]
theorem eqK_refl {kv : List (Key × V)} (hn : (kv.map (·.1)).Nodup) (hf : ∀ p ∈ kv, okV p.2 = true) : eqK kv kv = true := by
  unfold eqK
  rw [beq_self_eq_true, Bool.true_and, List.all_eq_true]
  intro p hp
  rw [valV_mem (k := p.1) (v := p.2) hn hp]
  exact eqV_refl (okV_flat (hf p hp))
def fK (kv : List (Key × V)) (s : Str) : Str := match valV kv (.inr s) with
  | some (.str s') => s'
  | _ => s
theorem fK_of {kv : List (Key × V)} {s s' : Str} (h : valV kv (.inr s) = some (.str s')) : fK kv s = s' := by unfold fK; rw [h]
theorem exB_put {b ld : Addr} {H G : Hp} {o : HO} (e : ExB b H G) (h : H ld = none) : ExB b H (upd G ld o) := fun a q na ha => by rw [upd_ne (ne_of_none ha h)]; exact e a q na ha
theorem box_put {b ld : Addr} {G : Hp} {o : HO} (h : BoxAt G b) (n : b ≠ ld) : BoxAt (upd G ld o) b := by
  obtain ⟨x, y, z, h0, q⟩ := h
  exact ⟨x, y, z, h0, by rw [upd_ne n]; exact q⟩
theorem freshB {b ld : Addr} {H G : Hp} (e : ExB b H G) (hb : BoxAt G b) (h : G ld = none) : H ld = none := by
  cases hq : H ld with
  | none => rfl
  | some o =>
    by_cases hn : ld = b
    · subst hn
      obtain ⟨ob, hob⟩ := hb.some
      exact absurd rfl (ne_of_none hob h)
    · have := e ld o hn hq
      rw [h] at this
      cases this
theorem at_last {xs : List V} (h : 0 < xs.length) : atI xs (-1) = xs[xs.length - 1]? := by
  unfold atI ixN
  rw [if_neg (by omega), if_pos (by omega)]
  show xs[_]? = _
  congr 1
  omega
theorem nodup_at {l : List Str} (h : l.Nodup) {j i : Nat} {s z : Str} (hj : l[j]? = some s) (hz : z ∈ l.take i) (hi : i ≤ j) : z ≠ s := by
  obtain ⟨k, hk, he⟩ := List.mem_iff_getElem.mp hz
  rw [List.length_take] at hk
  rw [List.getElem_take] at he
  intro e
  have hjl := (List.getElem?_eq_some_iff.mp hj).1
  have e2 : l[k]'(by omega) = l[j]'hjl := by rw [he, e]; exact ((List.getElem?_eq_some_iff.mp hj).2).symm
  have := (List.getElem_inj h).mp e2
  omega
theorem exB_ex {b : Addr} {H G G2 : Hp} (e : Ex H G) (hb : H b = none) (x : ExB b G G2) : Ex H G2 := fun a o h => x a o (ne_of_none h hb) (e a o h)
def RpV (K : PySem.W.Frag) (H : Hp) (v : V) (t : Str) : Prop := ∃ d : PyData, (Dp K H v d ∧ RpOk 50 100000 d ∨ ∃ a, v = .ref a ∧ H a = some (.dK []) ∧ d = .dict []) ∧ t = d.shown
def rReprQ (K : PySem.W.Frag) : List V → Hp → VK → Prop := fun xs H Q => ∃ (v : V) (t : Str), xs = [v] ∧ RpV K H v t ∧ Q (.str t) H
theorem un62 {n : Nat} {A : Around} (h : Room n A) : A.units + 62 < cLine := by have := h.un; omega
theorem call_reprQ {X : Cx} (hgd : X.A.guards = some []) (hu : X.A.units + 62 < cLine) : CallR X (.builtin "repr") (rReprQ X.K) := by
  intro pins s σ H xs us Q I r h
  obtain ⟨v, t, rfl, ⟨d, hd, rfl⟩, q⟩ := h
  cases r with
  | cons ra rr =>
    cases rr
    rename_i u
    rcases hd with ⟨hd, hk⟩ | ⟨a, rfl, ha, rfl⟩
    · have hz : d.shown.length ≤ sizeLine := PyData.shown_fits_bulk (B := 13) (by decide) (by decide) hk.2.2.1 (Nat.le_trans hk.2.2.2.2 (by decide))
      have hdp : d.depth ≤ 60 := Nat.le_trans hk.2.2.2.1 (by decide)
      have hnd : d.hasDict = false := PyData.hasDict_of_canLay d hk.2.1
      cases hd with
      | non =>
        cases ra
        exact PySem.P.repr_of_none ⟨.str _, H, I.tok _, ⟨_, by rw [PyData.shown]⟩, q⟩
      | bl b =>
        cases ra
        exact PySem.P.repr_of_bool ⟨.str _, H, I.tok _, ⟨_, by rw [PyData.shown]⟩, q⟩
      | int i =>
        obtain ⟨t, rfl⟩ := ra
        exact PySem.P.repr_of_int (by have := hk.1; simpa only [PyData.showable, decide_eq_true_eq] using this) ⟨.str _, H, I.tok _, ⟨_, by rw [PyData.shown]⟩, q⟩
      | str x =>
        obtain ⟨t, rfl⟩ := ra
        rw [PyData.shown] at hz
        exact PySem.P.repr_of_str ⟨.str _, H, I.tok _, ⟨_, by rw [PyData.shown]⟩, q⟩ hz
      | lst hs ha =>
        cases ra
        obtain ⟨as, rd⟩ := Dp.reads I _ _ _ (.lst hs ha) rfl
        refine repr_of_reads' rd hk.1 (fun z => by rw [hnd] at z; cases z) hgd (by omega) (fun _ _ z => z) (fun h' u tk hk => ?_) hz
        exact ⟨.str _, H, I.kept (t' := tk) hk, ⟨_, rfl⟩, q⟩
      | tup hs ha =>
        cases ra
        obtain ⟨as, rd⟩ := Dp.reads I _ _ _ (.tup hs ha) rfl
        refine repr_of_reads' rd hk.1 (fun z => by rw [hnd] at z; cases z) hgd (by omega) (fun _ _ z => z) (fun h' u tk hk => ?_) hz
        exact ⟨.str _, H, I.kept (t' := tk) hk, ⟨_, rfl⟩, q⟩
    · cases (show u = Value.ref a from ra)
      obtain ⟨_, hsys, vs, hkv, o, es, ep, ho, hx, hda, _, hp, _⟩ := I.hok a _ ha
      cases hkv
      have he : es = #[] := by
        obtain ⟨l⟩ := es
        cases hp
        rfl
      subst he
      have rd : Reads s.heap (.ref a) (.dict []) [a] := Reads.dict (kvs := []) (as := []) (bs := []) ho hx.1 hda (by exact ReadsAll.nil) (by exact ReadsAll.nil)
      refine repr_of_reads' rd (by simp only [PyData.showable, PyData.showableKv]) (fun _ z => ?_) hgd (by simp only [PyData.depth, PyData.depthKv]; omega) (fun _ _ z => z) (fun h' u tk hk => ?_) (by simp only [PyData.shown, PyData.shownKv]; rw [sizeLine_eq]; decide +kernel)
      · have : sysModules = a := by simpa using z
        rw [this] at hsys
        simp at hsys
      · exact ⟨.str _, H, I.kept (t' := tk) hk, ⟨_, rfl⟩, q⟩
theorem call_reprS {X : Cx} {a : Addr} {pn : List (Addr × Obj)} (hgd : X.A.guards = some []) (hu : X.A.units + 62 < cLine) : CallR (X.suite a pn) (.builtin "repr") (rReprQ X.K) := call_reprQ (X := X.suite a pn) hgd hu
def rIsP (K : PySem.W.Frag) (D a : Addr) (cls : Value) (d : Option Addr) : List V → Hp → VK → Prop := fun xs H Q => ∃ (c : V) (cv : Value) (b : Bool), xs = [.ref a, c] ∧ ClsV c cv ∧ cls = .ref D ∧ (∃ (dd : Addr) (fs : List (Str × V)), d = some dd ∧ H dd = some (.xd fs)) ∧ PySem.W.kitOne K (.ref D) cv = some b ∧ Q (.bl b) H
theorem call_isP {X : Cx} {a D : Addr} {oe : Obj} {cls : Value} {d : Option Addr} {pn : List (Addr × Obj)} (C : IcC X.K D) (hz : Zc cls d oe) (hf : ∃ vs, oe.data = .fields vs) : CallR (X.suite a ((a, oe) :: pn)) (.builtin "isinstance") (rIsP X.K D a cls d) := by
  intro pins s σ H xs us Q I r h
  obtain ⟨c, cv, b, rfl, hcv, rfl, ⟨dd, fs, rfl, ea⟩, e, q⟩ := h
  cases r with
  | cons rx rr =>
    cases rr with
    | cons rt rr =>
      cases rr
      cases rx
      have ec := hcv.eq rt
      subst ec
      obtain ⟨hget, _⟩ := I.pin (a, oe) (List.mem_append.mpr (.inl List.mem_cons_self))
      obtain ⟨vs, hd⟩ := hf
      have hx : ObjOk X.prog X.w H s.heap dd (.xd fs) := I.hok dd _ ea
      obtain ⟨mA, hns, hr⟩ := hx
      obtain ⟨od, ho, hl⟩ := lookIn_ns hns
      have J : PySem.W.InstAt s.heap a oe D (some od) := ⟨hget, hz.1, by unfold PySem.W.notCls; rw [hd] <;> rfl, by rw [hz.2]; exact ho⟩
      exact PySem.W.kia_one (PySem.W.kitx_exc C.cl C.xf.ga C.xf.gg C.xf.exC C.ha C.hn C.ht C.hm) I.kIn J e (fun z => nomatch z) fun tk => ⟨.bl b, H, I.kept (t' := tk) fun _ _ z => z, rfl, q⟩
theorem okc_repr {q c : Nat} (hq : q < 1114112) (hc : c < 1114112) : ∀ z ∈ Builtin.Str.reprChar q c, z < 1114112 := by
  intro z hz
  have hd : ∀ w, z ∈ (List.replicate (w - ((Nat.toDigits 16 c).map Char.toNat).length) 48 ++ (Nat.toDigits 16 c).map Char.toNat) → z < 1114112 := by
    intro w hz
    rcases List.mem_append.mp hz with h | h
    · have := List.eq_of_mem_replicate h; omega
    · obtain ⟨ch, _, rfl⟩ := List.mem_map.mp h
      rcases ch.valid with h | h
      · exact Nat.lt_trans h (by decide)
      · exact h.2
  unfold Builtin.Str.reprChar at hz
  dsimp only at hz
  repeat' split at hz
  all_goals simp only [List.mem_cons, List.mem_append, List.not_mem_nil, or_false] at hz
  all_goals first | omega | (rcases hz with (h | h) | h; · omega
                             · omega
                             · exact hd _ (List.mem_append.mpr h))
theorem okf_repr (q : Nat) (hq : q < 1114112) : ∀ (l : List Nat) (acc : Array Nat), (∀ z ∈ acc.toList, z < 1114112) → (∀ c ∈ l, c < 1114112) → ∀ z ∈ (l.foldl (fun out c => out ++ (Builtin.Str.reprChar q c).toArray) acc).toList, z < 1114112
  | [], acc, h, _ => h
  | c :: r, acc, h, hl => by
    rw [List.foldl_cons]
    refine okf_repr q hq r _ (fun z hz => ?_) fun d hd => hl d (List.mem_cons_of_mem _ hd)
    rw [Array.toList_append] at hz
    rcases List.mem_append.mp hz with h2 | h2
    · exact h z h2
    · exact okc_repr hq (hl c List.mem_cons_self) z h2
theorem okT_repr {x : Str} (h : OkT x) : OkT (reprText x) := by
  have hq : reprQuote x < 1114112 := by
    unfold reprQuote
    split <;> omega
  intro c hc
  have hc2 : c ∈ ((x.cps.foldl (fun out c => out ++ (Builtin.Str.reprChar (reprQuote x) c).toArray) #[reprQuote x]).push (reprQuote x)).toList := hc
  rw [Array.toList_push, ← Array.foldl_toList] at hc2
  rcases List.mem_append.mp hc2 with h2 | h2
  · refine okf_repr _ hq _ _ (fun z hz => ?_) (fun z hz => h z hz) c h2
    have : z = reprQuote x := by simpa using hz
    omega
  · have : c = reprQuote x := by simpa using h2
    omega
/-! new ones -/
section
variable {X : Cx} {σ : St} {H : Hp} {Q : VK} {D : Ends}
theorem c_dget2 {td ty tx : TE} (h : td σ H fun x H1 => ∃ a, x = .ref a ∧ IsD H1 a ∧ ty σ H1 fun y H2 => tx σ H2 fun z H3 => ∃ o, DGet H3 a y o ∧ Q (o.getD z) H3) : tDGet2 td ty tx σ H Q := h
theorem c_dget1 {td ty : TE} (h : td σ H fun x H1 => ∃ a, x = .ref a ∧ IsD H1 a ∧ ty σ H1 fun y H2 => ∃ o, DGet H2 a y o ∧ Q (o.getD .non) H2) : tDGet1 td ty σ H Q := h
theorem isD {d : Addr} {kvs : List (Key × V)} (h : H d = some (.dK kvs)) : IsD H d := .inl ⟨kvs, .inl h⟩
theorem isDz {d : Addr} {o : Obj} {kvs : List (Key × V)} (h : H d = some (.frz o (.dK kvs))) : IsD H d := .inl ⟨kvs, .inr ⟨o, h⟩⟩
theorem dgetZ {d : Addr} {o : Obj} {kvs : List (Key × V)} {s : Str} (h : H d = some (.frz o (.dK kvs))) : DGet H d (.str s) (valV kvs (.inr s)) := .inl ⟨kvs, .inr s, .inr ⟨o, h⟩, rfl, rfl⟩
theorem c_forIt {td : TE} {g : TG} {tb : TS} (h : td σ H fun x H1 => ∃ d o kvs, x = .ref d ∧ H1 d = some (.frz o (.dK kvs)) ∧ ForI (Iti d o kvs) g tb D σ H1) : tFor (iItems td) g tb D σ H := h
/-- for k, v in d.items() -/
theorem forIt {tb : TS} {g : TG} {d : Addr} {o : Obj} {kvs : List (Key × V)} (Pv : Nat → St → Hp → Prop) (h0 : Pv 0 σ H) (hl : ∀ i σ' H', i ≤ kvs.length → Pv i σ' H' → H' d = some (.frz o (.dK kvs)))
    (hs : ∀ i k v T σ' H', kvs[i]? = some (k, v) → Pv i σ' H' → H' T = none → g (.ref T) σ' (upd H' T (.tup [kV k, v])) fun σ2 H2 => tb { D with nx := Pv (i + 1), ct := Pv (i + 1), bk := D.nx } σ2 H2)
    (hd : ∀ σ' H', Pv kvs.length σ' H' → D.nx σ' H') : ForI (Iti d o kvs) g tb D σ H :=
  for_it walk_items Pv h0 hl (fun i v σ' H' H'' hi p y => by
    obtain ⟨T, x, z, rfl, hT, rfl, ex, ez⟩ := y
    cases hk : kvs[i]? with
    | none =>
      have h1 : (kvs[i]?.map fun kv => kV kv.1) = some x := ex
      rw [hk] at h1
      cases h1
    | some kv =>
      have h1 : (kvs[i]?.map fun kv => kV kv.1) = some x := ex
      have h2 : kvs[i]?.map Prod.snd = some z := ez
      rw [hk] at h1 h2
      cases h1
      cases h2
      exact hs i kv.1 kv.2 T σ' H' hk p hT) hd
/-- a dict that was locked is let go ahead of a statement -/
def tUnl (H0 : Hp) (t : TS) : TS := fun D σ H => ∃ d od u, H d = some (.frz od u) ∧ (∀ o' u', H0 d ≠ some (.frz o' u')) ∧ t D σ (upd H d u)
theorem ps_unl {st : Stmt} {t : TS} (h : PS X st t) : PS X st (tUnl X.H_0 t) := ⟨fun pins s σ H D I hw => let ⟨_, _, _, e, n, q⟩ := hw; h.run pins s σ _ D (I.unlock e n) q⟩
theorem c_listIt {te : TE} (h : te σ H fun x H1 => LiI.rItemsL x H1 Q) : LiI.tListItems te σ H Q := h
/-- s * n, n from 0 -/
def rRepA : R2 := fun x y H Q => ∃ (z : Str) (n : Int), x = .str z ∧ y = .int n ∧ 0 ≤ n ∧ n ≤ 1000 ∧ 0 < z.length ∧ z.length ≤ 100 ∧ Q (.str (repS z n.toNat)) H
theorem op_rep_strA : OpR X (binaryOp .Mult) rRepA := by
  intro pins s σ H x y v u Q I rx ry h
  obtain ⟨z, n, rfl, rfl, h0, h1, z0, z1, q⟩ := h
  rcases (by omega : n = 0 ∨ n = 1 ∨ 2 ≤ n) with rfl | rfl | h2
  · exact op_rep_str01 pins s σ H _ _ v u Q I rx ry ⟨z, 0, rfl, rfl, .inl ⟨rfl, q⟩⟩
  · refine op_rep_str01 pins s σ H _ _ v u Q I rx ry ⟨z, 1, rfl, rfl, .inr ⟨rfl, ?_⟩⟩
    have e : repS z (Int.toNat 1) = z := by
      show repS z 1 = z
      simp [repS]
    rw [e] at q
    exact q
  · exact op_rep_str pins s σ H _ _ v u Q I rx ry ⟨z, n, rfl, rfl, h2, by omega, z0, z1, q⟩
theorem rep_mem (a : Array Nat) : ∀ (n : Nat) (acc : Array Nat) (c : Nat), c ∈ ((List.replicate n a).foldl (· ++ ·) acc).toList → c ∈ acc.toList ∨ c ∈ a.toList
  | 0, acc, c, h => .inl (by simpa using h)
  | n + 1, acc, c, h => by
    rw [List.replicate_succ, List.foldl_cons] at h
    rcases rep_mem a n _ c h with h | h
    · rw [Array.toList_append] at h
      exact List.mem_append.mp h
    · exact .inr h
/-- a text of at most n signs that may be shown -/
def Tx (n : Nat) (s : Str) : Prop := OkT s ∧ s.length ≤ n
theorem Tx.mono {m n : Nat} {s : Str} (h : Tx m s) (k : m ≤ n) : Tx n s := ⟨h.1, Nat.le_trans h.2 k⟩
theorem Tx.app {m n : Nat} {s t : Str} (h : Tx m s) (k : Tx n t) : Tx (m + n) (s ++ t) := ⟨h.1.app k.1, by rw [add_len]; have := h.2; have := k.2; omega⟩
theorem Tx.rep {m : Nat} {s : Str} (h : Tx m s) (n : Nat) : Tx (n * m) (repS s n) := by
  refine ⟨fun c hc => ?_, by rw [repS_len]; exact Nat.mul_le_mul_left _ h.2⟩
  have hc2 : c ∈ ((List.replicate n s.cps).foldl (· ++ ·) #[]).toList := hc
  rcases rep_mem s.cps n #[] c hc2 with h2 | h2
  · simp at h2
  · exact h.1 c h2
theorem cut_len (z : Str) (lo hi : Option Int) : (cutS z lo hi).length ≤ z.length := by
  rw [← tl_len, tl_cut, List.length_take, List.length_drop, tl_len]
  omega
theorem Tx.cut {m : Nat} {s : Str} (h : Tx m s) (lo hi : Option Int) : Tx m (cutS s lo hi) := ⟨h.1.cut lo hi, Nat.le_trans (cut_len s lo hi) h.2⟩
theorem tx_sign {c : Nat} (h : c < 1114112) : Tx 1 ⟨#[c]⟩ := ⟨fun d hd => by
  have : d = c := by simpa [tl] using hd
  omega, Nat.le_refl _⟩
theorem tx_lit {n : Nat} {t : Str} (h : ((tl t).all (fun c => decide (c < 1114112)) && decide (t.length ≤ n)) = true) : Tx n t := by
  rw [Bool.and_eq_true, decide_eq_true_eq] at h
  exact ⟨OkT.lit h.1, h.2⟩
theorem at_str {ns : List Str} {d : Int} (h0 : 0 ≤ d) (h1 : d < (ns.length : Int)) : ∃ s, atI (ns.map V.str) d = some (.str s) ∧ s ∈ ns := by
  obtain ⟨j, rfl⟩ := Int.eq_ofNat_of_zero_le h0
  have hj : j < ns.length := by omega
  exact ⟨ns[j], atI_nat (by rw [List.getElem?_map, List.getElem?_eq_getElem hj] <;> rfl), List.getElem_mem hj⟩
theorem at_tl {t : Str} {n : Nat} {d : Int} (h0 : 0 ≤ d) (h1 : d < (t.length : Int)) (ht : Tx n t) : ∃ c, atI (tl t) d = some c ∧ c < 1114112 := by
  obtain ⟨j, rfl⟩ := Int.eq_ofNat_of_zero_le h0
  have hj : j < (tl t).length := by rw [tl_len]; omega
  exact ⟨(tl t)[j], atI_nat (List.getElem?_eq_getElem hj), ht.1 _ (List.getElem_mem hj)⟩
end
/-! != of two lists of dicts that are equal -/
section
variable {X : Cx} {pins : List (Addr × Obj)} {σ : St} {H : Hp} {s : Shared}
theorem hitsA (I : Inv X pins σ H s) {A : Around} (hu : A.units + 66 < cLine) {ls : List (Key × V)} {vb : List (Key × Value)} (rb : KV ls vb) (fl : ∀ k u, valV ls k = some u → okV u = true) {ks : List (Key × V)} {va : List (Key × Value)} (ra : KV ks va) (fk : ∀ p ∈ ks, okV p.2 = true) :
    PySem.W.KeqHits A.in1 s vb va (ks.all fun p => match valV ls p.1 with | some u => eqV p.2 u | none => false) := by
  unfold KV at ra
  induction ra with
  | nil => exact .nil
  | @cons p q ps qs h t ih =>
    obtain ⟨key, v⟩ := q
    obtain ⟨h1, h2⟩ := h
    have h1' : p.1 = key := h1
    have ih' := ih fun p' hm => fk p' (List.mem_cons_of_mem _ hm)
    rw [List.all_cons]
    have rr : RelO (valV ls p.1) (PySem.valueAt vb p.1) := rb.val p.1
    rw [h1'] at rr ⊢
    cases e : valV ls key with
    | none =>
      rw [e] at rr
      cases e2 : PySem.valueAt vb key with
      | none => exact .miss e2
      | some y =>
        rw [e2] at rr
        exact rr.elim
    | some u =>
      rw [e] at rr
      obtain ⟨y, hy, ry⟩ := rr.some_of
      have fp := fk p List.mem_cons_self
      have fu := fl key u e
      obtain ⟨as, r1⟩ := Dp.reads I (dOf p.2) p.2 v (dp_flat (okV_flat fp)) h2
      obtain ⟨bs, r2⟩ := Dp.reads I (dOf u) u y (dp_flat (okV_flat fu)) ry
      have z := PySem.W.keq_at (A := A) r1 r2 (shaped_flat fp) (shaped_flat fu) (by show A.units + 1 + 64 < cLine; omega)
      rw [eqv_flat (okV_flat fp) (okV_flat fu)] at z
      exact .hit hy z ih'
/-- two dicts of flat things that are equal -/
def EqDs (H : Hp) (u v : V) : Prop := ∃ (d e : Addr) (ks ls : List (Key × V)), u = .ref d ∧ v = .ref e ∧ d ≠ e ∧ H d = some (.dK ks) ∧ H e = some (.dK ls) ∧ (∀ p ∈ ks, okV p.2 = true) ∧ (∀ k u, valV ls k = some u → okV u = true) ∧ eqK ks ls = true
theorem eqds_at (I : Inv X pins σ H s) {A : Around} (hu : A.units + 66 < cLine) {u v : V} {x y : Value} (h : EqDs H u v) (rx : RelV u x) (ry : RelV v y) : SeqAt.EqP X.prog X.w A s x y true := by
  obtain ⟨d, e, ks, ls, rfl, rfl, hde, hd, he, fk, fl, hq⟩ := h
  cases (show x = Value.ref d from rx)
  cases (show y = Value.ref e from ry)
  obtain ⟨_, ya, va, ra, da⟩ := (show ObjOk X.prog X.w H s.heap d (.dK ks) from I.hok d _ hd)
  obtain ⟨_, yb, vb, rb, db⟩ := (show ObjOk X.prog X.w H s.heap e (.dK ls) from I.hok e _ he)
  refine SeqAt.eqP_refs hde fun E Q q => PySem.W.keq_eq (knd := mixKind X.prog X.w) ya yb da db (by omega) (fun _ => hitsA I hu rb fl ra fk) ?_
  rw [← ra.length, ← rb.length]
  unfold eqK at hq
  rw [hq]
  exact q
theorem eqds_all (I : Inv X pins σ H s) {A : Around} (hu : A.units + 66 < cLine) : ∀ {xs ys : List V}, Paired (EqDs H) xs ys → ∀ {us ws : List Value}, Vals xs us → Vals ys ws → ∀ (j : Nat) (h1 : j < us.length) (h2 : j < ws.length), SeqAt.EqP X.prog X.w A s us[j] ws[j] true
  | _, _, .nil, _, _, r1, _, j, h1, _ => by cases r1; exact absurd h1 (Nat.not_lt_zero j)
  | _, _, .cons h k, _, _, .cons a1 b1, .cons a2 b2, 0, _, _ => eqds_at I hu h a1 a2
  | _, _, .cons h k, _, _, .cons a1 b1, .cons a2 b2, j + 1, h1, h2 => eqds_all I hu k b1 b2 j (Nat.lt_of_succ_lt_succ h1) (Nat.lt_of_succ_lt_succ h2)
def rNeLD : R2 := fun x y H Q => ∃ (a b : Addr) (xs ys : List V), x = .ref a ∧ y = .ref b ∧ H a = some (.lst xs) ∧ H b = some (.lst ys) ∧ Paired (EqDs H) xs ys ∧ Q (.bl false) H
theorem op_neLD (hu : X.A.units + 68 < cLine) : OpR X (compareOp .NotEq) rNeLD := by
  intro pins s σ H x y v u Q I rx ry h
  obtain ⟨a, b, xs, ys, rfl, rfl, ha, hb, hp, q⟩ := h
  cases (show v = Value.ref a from rx)
  cases (show u = Value.ref b from ry)
  obtain ⟨us, r1, p1, _⟩ := I.list (SqL.of ha)
  obtain ⟨ws, r2, p2, _⟩ := I.list (SqL.of hb)
  have hsz : us.toArray.size = ws.toArray.size := by
    rw [List.size_toArray, List.size_toArray, ← r1.length, ← r2.length]
    exact Paired.length hp
  refine NeL.lists_ne p1.isList p2.isList hsz (by omega) (fun j h1 h2 => ?_) _ _ ⟨.bl false, H, I, rfl, q⟩
  have k := eqds_all I (A := X.A.in1) (by show X.A.units + 1 + 66 < cLine; omega) hp r1 r2 j (by simpa using h1) (by simpa using h2)
  simpa using k
theorem hu68 {A : Around} {k : Nat} (hr : Room k A) : A.units + 68 < cLine := by have := hr.un; omega
end
end L2

/-! ### == and != of dicts whose values are data that are equal; comprehensions over dicts that make lists -/
namespace L2
open PySem PySem.Spec PyProof.Rows
open Evl hiding RetV RetL
section
variable {X : Cx} {pins : List (Addr × Obj)} {σ : St} {H : Hp} {s : Shared}
def LikeD (K : PySem.W.Frag) (H : Hp) (ls : List (Key × V)) (p : Key × V) : Prop := ∃ u d e, valV ls p.1 = some u ∧ Dp K H p.2 d ∧ Dp K H u e ∧ SeqAt.shaped d = true ∧ SeqAt.shaped e = true ∧ PyData.eqv d e = true
theorem hitsD (I : Inv X pins σ H s) (hu : X.A.units + 66 < cLine) {ls : List (Key × V)} {vb : List (Key × Value)} (rb : KV ls vb) {ks : List (Key × V)} {va : List (Key × Value)} (ra : KV ks va) (fk : ∀ p ∈ ks, LikeD X.K H ls p) :
    PySem.W.KeqHits X.A.in1 s vb va true := by
  unfold KV at ra
  induction ra with
  | nil => exact .nil
  | @cons p q ps qs h t ih =>
    obtain ⟨key, v⟩ := q
    obtain ⟨h1, h2⟩ := h
    have h1' : p.1 = key := h1
    have ih' := ih fun p' hm => fk p' (List.mem_cons_of_mem _ hm)
    obtain ⟨u, d, e, e1, d1, d2, s1, s2, eq⟩ := fk p List.mem_cons_self
    have rr : RelO (valV ls p.1) (PySem.valueAt vb p.1) := rb.val p.1
    rw [h1'] at rr e1
    rw [e1] at rr
    obtain ⟨y, hy, ry⟩ := rr.some_of
    obtain ⟨as, r1⟩ := Dp.reads I d p.2 v d1 h2
    obtain ⟨bs, r2⟩ := Dp.reads I e u y d2 ry
    have z := PySem.W.keq_at (A := X.A) r1 r2 s1 s2 (by show X.A.units + 1 + 64 < cLine; omega)
    rw [eq] at z
    exact .hit (b := true) hy z ih'
def rEqKD (K : PySem.W.Frag) : R2 := fun x y H Q => ∃ (a b : Addr) (ks ls : List (Key × V)), x = .ref a ∧ y = .ref b ∧ H a = some (.dK ks) ∧ H b = some (.dK ls) ∧ ks.length = ls.length ∧ (∀ p ∈ ks, LikeD K H ls p) ∧ Q (.bl true) H
def rNeKD (K : PySem.W.Frag) : R2 := fun x y H Q => ∃ (a b : Addr) (ks ls : List (Key × V)), x = .ref a ∧ y = .ref b ∧ H a = some (.dK ks) ∧ H b = some (.dK ls) ∧ ks.length = ls.length ∧ (∀ p ∈ ks, LikeD K H ls p) ∧ Q (.bl false) H
theorem op_eqKD (hu : X.A.units + 66 < cLine) : OpR X (compareOp .Eq) (rEqKD X.K) := by
  intro pins s σ H x y v u Q I rx ry h
  obtain ⟨a, b, ks, ls, rfl, rfl, ha, hb, hl, fk, q⟩ := h
  cases (show v = Value.ref a from rx)
  cases (show u = Value.ref b from ry)
  obtain ⟨_, ya, va, ra, da⟩ := (show ObjOk X.prog X.w H s.heap a (.dK ks) from I.hok a _ ha)
  obtain ⟨_, yb, vb, rb, db⟩ := (show ObjOk X.prog X.w H s.heap b (.dK ls) from I.hok b _ hb)
  refine PySem.W.keq_eq (knd := mixKind X.prog X.w) ya yb da db (by omega) (fun _ => hitsD I hu rb ra fk) ?_
  rw [← ra.length, ← rb.length, hl, beq_self_eq_true, Bool.true_and]
  exact ⟨.bl _, H, I, rfl, q⟩
theorem op_neKD (hu : X.A.units + 66 < cLine) : OpR X (compareOp .NotEq) (rNeKD X.K) := by
  intro pins s σ H x y v u Q I rx ry h
  obtain ⟨a, b, ks, ls, rfl, rfl, ha, hb, hl, fk, q⟩ := h
  cases (show v = Value.ref a from rx)
  cases (show u = Value.ref b from ry)
  obtain ⟨_, ya, va, ra, da⟩ := (show ObjOk X.prog X.w H s.heap a (.dK ks) from I.hok a _ ha)
  obtain ⟨_, yb, vb, rb, db⟩ := (show ObjOk X.prog X.w H s.heap b (.dK ls) from I.hok b _ hb)
  refine PySem.W.keq_ne (knd := mixKind X.prog X.w) ya yb da db (by omega) (fun _ => hitsD I hu rb ra fk) ?_
  rw [← ra.length, ← rb.length, hl, beq_self_eq_true, Bool.true_and]
  exact ⟨.bl _, H, I, rfl, q⟩
theorem like_lists {K : PySem.W.Frag} {H : Hp} {ls : List (Key × V)} {k : Key} {p q : Addr} {xs : List V} (h : valV ls k = some (.ref q)) (hp : SqL K H p xs) (hq : SqL K H q xs) (ho : xs.all okV = true) : LikeD K H ls (k, .ref p) :=
  ⟨_, _, _, h, .lst hp (dpAll_flat (okL_flat ho)), .lst hq (dpAll_flat (okL_flat ho)), shaped_lst ho, shaped_lst ho, by rw [PyData.eqv, eqvAll_flat (okL_flat ho) (okL_flat ho)]; exact eqL_refl (okL_flat ho)⟩
end
theorem lcKD {d : Addr} {o : Obj} {kvs : List (Key × V)} {g : L2.TG} {tt : TT} {te : TE} {vs : List Nat} {σ : St} {H : Hp} {Q : VK} (F : Key × V → Bool) (R0 : Addr → Key × V → V → Hp → Prop) (hst : ∀ D kv y G G2, ExB D G G2 → R0 D kv y G → R0 D kv y G2)
    (hd : H d = some (.frz o (.dK kvs))) (hn : kvs.length ≤ 1000)
    (ht : ∀ (D : Addr) (i : Nat) (kv : Key × V), H D = none → kvs[i]? = some kv → ∀ H2, Ex H H2 → (∃ o, H2 D = some o) → ∀ (R : V → Hp → Prop) (N : Hp → Prop), (F kv = true → ∀ y H3, Ex H2 H3 → R0 D kv y H3 → R y H3) → (F kv = false → ∀ H3, Ex H2 H3 → N H3) →
      g (kV kv.1) (wipe σ vs) H2 fun σ2 H3 => wipe σ2 vs = wipe σ vs ∧ tt σ2 H3 fun c H4 => if c = true then te σ2 H4 fun y H5 => R y H5 else N H4)
    (k : ∀ ys p H2, Paired (fun y kv => R0 p kv y H2) ys (kvs.filter F) → H p = none → Ex H H2 → H2 p = some (.lst ys) → Q (.ref p) H2) : LcI (Itk d o kvs) g tt te vs σ H Q := by
  refine fun D hD => ?_
  have ex : ∀ {G : Hp} {o : HO}, Ex H G → Ex H (upd G D o) := fun e b u hb => by rw [upd_ne (ne_of_none hb hD)]; exact e b u hb
  refine lc_it walk_keys (fun i H' => i ≤ kvs.length ∧ Ex H H' ∧ ∃ ys, Paired (fun y kv => R0 D kv y H') ys ((kvs.take i).filter F) ∧ H' D = some (.lst ys))
    ⟨Nat.zero_le _, ex (Ex.refl _), [], .nil, upd_same⟩ (fun i H' _ p => p.2.1 _ _ hd) (fun i x H' H'' hi p y => ?_) (fun H' p => ?_)
  · obtain ⟨rfl, key, v, hk, rfl⟩ := y
    obtain ⟨_, e1, ys, hy, hD'⟩ := p
    have hyl : ys.length ≤ i := by
      rw [paired_len hy]
      exact Nat.le_trans (List.length_filter_le _ _) (by rw [List.length_take]; omega)
    have htk : kvs.take (i + 1) = kvs.take i ++ [(key, v)] := by rw [List.take_add_one, hk]; rfl
    refine ht D i (key, v) hD hk H'' e1 ⟨_, hD'⟩ (fun y H4 => ∃ acc, H4 D = some (.lst acc) ∧ acc.length < sizeLine ∧ (i + 1 ≤ kvs.length ∧ Ex H (upd H4 D (.lst (acc ++ [y]))) ∧ ∃ zs, Paired (fun z kv => R0 D kv z (upd H4 D (.lst (acc ++ [y])))) zs ((kvs.take (i + 1)).filter F) ∧ upd H4 D (.lst (acc ++ [y])) D = some (.lst zs))) (fun H4 => i + 1 ≤ kvs.length ∧ Ex H H4 ∧ ∃ zs, Paired (fun y kv => R0 D kv y H4) zs ((kvs.take (i + 1)).filter F) ∧ H4 D = some (.lst zs)) (fun hF y H3 e3 py => ?_) (fun hF H3 e3 => ?_)
    · have hD3 := e3 _ _ hD'
      have eD : ExB D H3 (upd H3 D (.lst (ys ++ [y]))) := ExB.upd
      refine ⟨ys, hD3, Evl.sz_lt (by omega), hi, ex (e1.trans e3), ys ++ [y], ?_, upd_same⟩
      rw [htk, List.filter_append, List.filter_cons_of_pos hF, List.filter_nil]
      exact paired_snoc (F := fun a b => R0 D b a (upd H3 D (HO.lst (ys ++ [y])))) (hst _ _ _ _ _ eD py) (paired_up (fun a b h => hst _ _ _ _ _ eD (hst _ _ _ _ _ (ExB.of e3) h)) hy)
    · refine ⟨hi, e1.trans e3, ys, ?_, e3 _ _ hD'⟩
      rw [htk, List.filter_append, List.filter_cons_of_neg (by rw [hF]; decide), List.filter_nil, List.append_nil]
      exact paired_up (fun a b h => hst _ _ _ _ _ (ExB.of e3) h) hy
  · obtain ⟨_, e1, ys, hy, hD'⟩ := p
    rw [List.take_length] at hy
    exact k ys D H' hy hD e1 hD'
/-- as lcLP, and what is not a list is kept -/
theorem lcLPl {K : PySem.W.Frag} {σ : St} {H : Hp} {Q : VK} {g : L2.TG} {tt : TT} {te : TE} {vs : List Nat} {a : Addr} {xs : List V} (P : Addr → Nat → V → Hp → Prop) (hst : ∀ D i y G G2, ExB D G G2 → NL G G2 → P D i y G → P D i y G2) (hs : SqL K H a xs) (hn : xs.length ≤ 1000)
    (ht : ∀ (D : Addr) (i : Nat) (x : V), H D = none → xs[i]? = some x → ∀ H2, Ex H H2 → (∃ o, H2 D = some o) → ∀ (R : V → Hp → Prop) (N : Hp → Prop), (∀ y H3, Ex H2 H3 → P D i y H3 → R y H3) →
      g x (wipe σ vs) H2 fun σ2 H3 => wipe σ2 vs = wipe σ vs ∧ tt σ2 H3 fun c H4 => if c = true then te σ2 H4 fun y H5 => R y H5 else N H4)
    (k : ∀ ys p H2, ys.length = xs.length → (∀ i y, ys[i]? = some y → P p i y H2) → H p = none → Ex H H2 → H2 p = some (.lst ys) → Q (.ref p) H2) : LcI (Itl K a) g tt te vs σ H Q := by
  refine fun D hD => ?_
  have ex : ∀ {G : Hp} {o : HO}, Ex H G → Ex H (upd G D o) := fun e b u hb => by rw [upd_ne (ne_of_none hb hD)]; exact e b u hb
  refine lc_list (xs := xs) (fun i H' => i ≤ xs.length ∧ Ex H H' ∧ ∃ ys, ys.length = i ∧ (∀ j y, ys[j]? = some y → P D j y H') ∧ H' D = some (.lst ys))
    ⟨Nat.zero_le _, ex (Ex.refl _), [], rfl, (fun j y h => by simp at h), upd_same⟩ (fun i H' _ p => Evl.ex_l p.2.1 hs) (fun i x H' hi p => ?_) (fun H' p => ?_)
  · obtain ⟨_, e1, ys, hl, hy, hD'⟩ := p
    have hil := (List.getElem?_eq_some_iff.mp hi).1
    refine ht D i x hD hi H' e1 ⟨_, hD'⟩ (fun y H4 => ∃ acc, H4 D = some (.lst acc) ∧ acc.length < sizeLine ∧ (i + 1 ≤ xs.length ∧ Ex H (upd H4 D (.lst (acc ++ [y]))) ∧ ∃ zs, zs.length = i + 1 ∧ (∀ j y2, zs[j]? = some y2 → P D j y2 (upd H4 D (.lst (acc ++ [y])))) ∧ upd H4 D (.lst (acc ++ [y])) D = some (.lst zs))) _ (fun y H3 e3 py => ?_)
    have eD : ExB D H3 (upd H3 D (.lst (ys ++ [y]))) := ExB.upd
    have eN : NL H3 (upd H3 D (.lst (ys ++ [y]))) := NL.upd (e3 _ _ hD')
    refine ⟨ys, e3 _ _ hD', Evl.sz_lt (by omega), hil, ex (e1.trans e3), ys ++ [y], by rw [List.length_append, hl]; rfl, fun j y2 hj => ?_, upd_same⟩
    rcases Nat.lt_or_ge j ys.length with h | h
    · rw [List.getElem?_append_left h] at hj
      exact hst _ _ _ _ _ eD eN (hst _ _ _ _ _ (ExB.of e3) (NL.of e3) (hy j y2 hj))
    · rw [List.getElem?_append_right h] at hj
      have hj0 : j - ys.length = 0 := by
        have := (List.getElem?_eq_some_iff.mp hj).1
        rw [List.length_singleton] at this
        omega
      rw [hj0] at hj
      have hyy : y = y2 := by simpa using hj
      subst hyy
      have : j = i := by omega
      subst this
      exact hst _ _ _ _ _ eD eN py
  · obtain ⟨_, e1, ys, hl, hy, hD'⟩ := p
    exact k ys D H' hl hy hD e1 hD'
/-- as lcRB, each thing with a property that no change of lists takes away -/
theorem lcRBP {σ : St} {H : Hp} {Q : VK} {g : L2.TG} {tt : TT} {te : TE} {vs : List Nat} {n : Nat} {b : Addr} (P : V → Hp → Prop) (hst : ∀ y G G2, NL G G2 → P y G → P y G2) (hn : n ≤ 1000) (hB : BoxAt H b)
    (ht : ∀ (i : Nat), i < n → ∀ H2, BoxAt H2 b → ExB b H H2 → ∀ (R : V → Hp → Prop) (N : Hp → Prop), (∀ y H3, P y H3 → BoxAt H3 b → ExB b H2 H3 → R y H3) →
      g (.int (i : Int)) (wipe σ vs) H2 fun σ2 H3 => wipe σ2 vs = wipe σ vs ∧ tt σ2 H3 fun c H4 => if c = true then te σ2 H4 fun y H5 => R y H5 else N H4)
    (k : ∀ ys p H2, ys.length = n → (∀ y ∈ ys, P y H2) → H p = none → ExB b H H2 → BoxAt H2 b → H2 p = some (.lst ys) → Q (.ref p) H2) : LcI (Itr 0 n) g tt te vs σ H Q := by
  refine fun D hD => ?_
  obtain ⟨ob, hob⟩ := hB.some
  have nDb : D ≠ b := (ne_of_none hob hD).symm
  have bx : ∀ {G : Hp} {o : HO}, BoxAt G b → BoxAt (upd G D o) b := fun ⟨x, y, z, p, q⟩ => ⟨x, y, z, p, by rw [upd_ne nDb.symm]; exact q⟩
  have ex : ∀ {G : Hp} {o : HO}, ExB b H G → ExB b H (upd G D o) := fun e a u na ha => by rw [upd_ne (ne_of_none ha hD)]; exact e a u na ha
  refine lc_range (lo := 0) (n := n) (fun i H' => i ≤ n ∧ ExB b H H' ∧ BoxAt H' b ∧ ∃ ys, ys.length = i ∧ (∀ y ∈ ys, P y H') ∧ H' D = some (.lst ys)) ⟨Nat.zero_le _, ex (ExB.refl _ _), bx hB, [], rfl, (fun _ h => by cases h), upd_same⟩ (fun i H' hi p => ?_) (fun H' p => ?_)
  · obtain ⟨_, e1, b1, ys, hl, hg, hy⟩ := p
    have e0 : (0 : Int) + (i : Int) = (i : Int) := Int.zero_add _
    rw [e0]
    refine ht i hi H' b1 e1 (fun y H4 => ∃ acc, H4 D = some (.lst acc) ∧ acc.length < sizeLine ∧ (i + 1 ≤ n ∧ ExB b H (upd H4 D (.lst (acc ++ [y]))) ∧ BoxAt (upd H4 D (.lst (acc ++ [y]))) b ∧ ∃ zs, zs.length = i + 1 ∧ (∀ y2 ∈ zs, P y2 (upd H4 D (.lst (acc ++ [y])))) ∧ upd H4 D (.lst (acc ++ [y])) D = some (.lst zs))) _ (fun y H3 gy b3 e3 => ?_)
    have hD3 := e3 D _ nDb hy
    have eN : NL H3 (upd H3 D (.lst (ys ++ [y]))) := NL.upd hD3
    refine ⟨ys, hD3, Evl.sz_lt (by omega), hi, ex (e1.trans e3), bx b3, ys ++ [y], by rw [List.length_append, hl]; rfl, fun z hz => ?_, upd_same⟩
    rcases List.mem_append.mp hz with h | h
    · exact hst _ _ _ eN (hst _ _ _ (NL.box e3 b1) (hg z h))
    · have : z = y := by simpa using h
      rw [this]
      exact hst _ _ _ eN gy
  · obtain ⟨_, e1, b1, ys, hl, hg, hy⟩ := p
    exact k ys D H' hl hg hD e1 b1 hy
end L2

/-! ### while, without a word of the test -/
namespace L2
open PySem PySem.Spec PyProof.Rows
open Evl hiding RetV RetL
/-- the turn of a while that comes back to Pv with less -/
def WTurn (tb : TS) (D : Ends) (Pv : St → Hp → Prop) (μ : St → Hp → Nat) (m : Nat) (σ : St) (H : Hp) : Prop := ∃ N : St → Hp → Prop, (∀ σ' H', N σ' H' → ∃ m', m' < m ∧ m' = μ σ' H' ∧ Pv σ' H') ∧ tb { D with nx := N, ct := N, bk := D.nx } σ H
theorem c_turn {tb : TS} {D : Ends} {Pv : St → Hp → Prop} {μ : St → Hp → Nat} {m : Nat} {σ : St} {H : Hp} (h : tb { D with nx := fun σ' H' => Pv σ' H' ∧ μ σ' H' < m, ct := fun σ' H' => Pv σ' H' ∧ μ σ' H' < m, bk := D.nx } σ H) : WTurn tb D Pv μ m σ H := ⟨_, fun _ _ ⟨p, l⟩ => ⟨_, l, rfl, p⟩, h⟩
theorem while_do {c : TT} {tb : TS} {D : Ends} {σ : St} {H : Hp} (Pv : St → Hp → Prop) (μ : St → Hp → Nat) (h0 : Pv σ H)
    (hs : ∀ σ H, Pv σ H → c σ H fun b H1 => if b = true then WTurn tb D Pv μ (μ σ H) σ H1 else D.nx σ H1) : tWhile c tb D σ H := by
  refine ⟨fun m σ H => m = μ σ H ∧ Pv σ H, ⟨_, rfl, h0⟩, ?_⟩
  rintro m σ H ⟨rfl, p⟩
  exact hs σ H p
end L2

/-! ### except suites that call defs: the context of what is handled is None -/
namespace L2
open PySem PySem.Spec PyProof.Rows
open L2H (HotC Hot1 FnH RoomH cxH)
section
variable {X : Cx} {x : Str} {p q pos : Pos} {e : Expr} {es : List Expr} {ta : TA}
theorem pmkN_oex {CX : CXT} {C fI : Addr} {k : Nat} {fd : FuncData} {ps : List Str} {sp : Sp} {ds : List Value} {dvs : List V} (T : OexC X.K C) (iC : PySem.W.findIn X.K (.ref C) "__init__" = some (some (.ref fI))) (tI : PySem.W.typeIn X.K (.ref fI) = some (.type "function"))
    (F1 : FnOk X.prog X.w X.K X.mg X.base CX k fI fd ps sp) (hr : Room (k + 1) X.A) (hb : Binds X.K fd ps ds) (hd : Vals dvs ds) (hx : Passes CX X (fun _ _ _ => False)) (hg : Gl X x) (hm : X.mg x = some (.ref C)) (ha : PA X (e :: es) ta)
    (hdb : (x == ("__debug__" : Str)) = false := by decide) (he : starEach (e :: es) X.env = (false, eval e X.env) :: starEach es X.env := by rfl) (hpl : (backTo pos (starEach es X.env)).any (·.1) = false := by rfl) :
    L2N.PMk X (.Call (.Name x p) (e :: es) [] pos) (tMkO C sp dvs ta) := by
  intro pins s σ H Q I h
  obtain ⟨nm, q, N, bs, bm, sn, sub, ab, col, dd, k0, k1, k2, k3, k5, hC, hbm⟩ := T.cls
  refine wpAny_Call_Name_kw (ld_glob I hg hm ?_ hdb)
  refine PySem.W.callWith_K (h₀ := X.base) I.ok.mod.kin T.kC (thn (ha.run pos pins s σ H _ I h) fun us s1 hh => ?_) he hpl
  obtain ⟨vs, H1, I1, r1, hz, q1⟩ := hh
  refine ⟨I1.kIn, ?_⟩
  show wpAny _ _ (call (.ref C) us) _ _ _
  obtain ⟨hp, g, dr, tk, os⟩ := s1
  have le1 : hp.objs.size ≤ hp.objs.size + 1 := Nat.le_succ _
  have hn : H1 (hp.objs.size + 1) = none := I1.hok.fresh le1
  have hq := q1 (hp.objs.size + 1) hn
  have kep : ∀ b o, hp.get? b = some o → ((hp.push (PySem.W.kdv_tup us)).push (PySem.HandSPX.excO C hp.objs.size)).get? b = some o := fun b o z => Heap.get?_push_of_some _ (Heap.get?_push_of_some _ z)
  have hget : ((hp.push (PySem.W.kdv_tup us)).push (PySem.HandSPX.excO C hp.objs.size)).get? (hp.objs.size + 1) = some (PySem.HandSPX.excO C hp.objs.size) := by heap_get
  have J2 : Inv X pins σ (upd H1 (hp.objs.size + 1) (exo (hp.objs.size + 1) C none)) ⟨(hp.push (PySem.W.kdv_tup us)).push (PySem.HandSPX.excO C hp.objs.size), g, dr, tk, os⟩ :=
    I1.laid (t' := tk) (a := hp.objs.size + 1) (o := exo (hp.objs.size + 1) C none) (h' := (hp.push (PySem.W.kdv_tup us)).push (PySem.HandSPX.excO C hp.objs.size)) kep le1 (exo_ok hget)
  have rv2 : Vals (V.ref (hp.objs.size + 1) :: (vs ++ dvs)) (Value.ref (hp.objs.size + 1) :: (us ++ ds)) := .cons rfl (r1.append hd)
  have hlen : (Value.ref (hp.objs.size + 1) :: us ++ ds).length = ps.length := by
    have z := rv2.length
    rw [F1.len _ _ _ _ hq] at z
    exact z.symm
  have hus : us.length ≤ sizeLine := by
    rw [← Paired.length r1, sizeLine_eq]
    omega
  refine wpAny_call (PySem.HandSPX.call_own F.excBase_ValueError (fun Y => PySem.HandSPX.refsVE_contains Y bm hbm) (I1.kIn _ _ hC) (PySem.W.looks_findIn I1.kIn iC) (fun self => PySem.W.bind_fn I1.kIn self tI) hus ?_)
  refine codeAny_mono (F1.run _ X.stack _ _ ⟨Value.ref (hp.objs.size + 1) :: us, []⟩ (Value.ref (hp.objs.size + 1) :: (us ++ ds)) _ _ (fun _ _ _ => False) (hr.make C us []) (J2.env0.make C us []) (hb _ (Value.ref (hp.objs.size + 1) :: us) J2.kIn hlen) rv2 hq) fun r s' hq' => ?_
  cases r with
  | error er => exact hx pins σ _ _ er s' J2 hq'
  | ok fl =>
    cases fl with
    | ret u =>
      obtain ⟨v, H2, os2, bare2, un2, hok2, rv, ev, d, fs, ea, ed, hd1, q2⟩ := hq'
      subst ev
      obtain ⟨h2, g2, d2, t2, os'⟩ := s'
      obtain ⟨t0, G, J, kG, ge, hoe, na⟩ := mk_end0 (d2 := d2) (t2 := t2) I1 le1 kep un2 hok2 os2 bare2 ea ed hd1
      refine ⟨rv, hp.objs.size + 1, _, _, ⟨G, g2, d2, t2, os'⟩, _, .ref C, some d, rfl, J, kG, ge, hoe, ⟨rfl, rfl, fun vs hv => ?_⟩, rfl, rfl, na, rfl, bare2, raises_own T.exC T.tyC, q2⟩
      cases hv
      rfl
    | next => exact False.elim hq'
    | brk => exact False.elim hq'
    | cont => exact False.elim hq'
theorem passAt0 {σ : St} : PassesAt CX0 X σ E0 := fun _ _ _ _ _ _ z => z.elim
theorem passH {W : WX} {E : XK} (tk : L2N.Takes X W) (hW : ∀ cls d σ H, E cls d H → W cls d σ H) : Passes (L2N.CX X.prog X.w) X E := fun pins σ H s e s' I c => L2N.passes_call tk hW pins σ H s e s' I c
end
section
variable {P : Program} {w : World} {K : PySem.W.Frag} {mg : Str → Option Value} {base : Heap}
theorem Fun.okN {x qual : Str} {st : Stmt} {f : Addr} {fd : FuncData} {N ps : List Str} {k : Nat} {sp : Sp} (F : Fun K x qual st f fd) (S : FnScope N ps (defScope st)) (len : ∀ vs H Q E, sp vs H Q E → vs.length = ps.length)
    (hbody : ∀ (cdv : Value) (A : Around) (outer : List Env) (s : Shared) (H : Hp) (vs : List V) (Q : VK) (E : XK), Room k (A.deeper (envOfC qual (defScope st) s.heap.objs.size f cdv)) → sp vs H Q E →
      ∃ t, PSs (cxOf (L2N.CX P w) P w K mg base N qual (defScope st) f cdv A outer s H E) (defBody st) t ∧ t { nx := fun _ H' => Q .non H', rt := Q } (start N vs) H) : FnOk P w K mg base (L2N.CX P w) (k + 1) f fd ps sp := by
  obtain ⟨oc, od, kV, doc, pm, an, cdv, ct, osl, rfl, lk, hcd⟩ := F.ex
  exact fn_of lk hcd S len fun A outer s H vs Q E hr hsp => hbody cdv A outer s H vs Q E hr hsp
/-- a def by its body, called where an exception is handled -/
theorem Fun.okH {x qual : Str} {st : Stmt} {f : Addr} {fd : FuncData} {N ps : List Str} {k : Nat} {sp : Sp} (F : Fun K x qual st f fd) (S : FnScope N ps (defScope st)) (len : ∀ vs H Q E, sp vs H Q E → vs.length = ps.length)
    (hbody : ∀ (cdv : Value) (A : Around) (outer : List Env) (s : Shared) (H : Hp) (vs : List V) (Q : VK) (E : XK) (p : Addr × Obj), HotC (cxH CX0 P w K mg base N qual (defScope st) f cdv A outer s H E p).nox → RoomH k (A.deeper (envOfC qual (defScope st) s.heap.objs.size f cdv)) → sp vs H Q E →
      ∃ t, PSs (cxH CX0 P w K mg base N qual (defScope st) f cdv A outer s H E p).nox (defBody st) t ∧ t { nx := fun _ H' => Q .non H', rt := Q } (start N vs) H) : FnH P w K mg base CX0 (k + 1) f fd ps sp := by
  obtain ⟨oc, od, kV, doc, pm, an, cdv, ct, osl, rfl, lk, hcd⟩ := F.ex
  refine L2H.fn_ofH lk hcd S len fun A outer s H vs Q E p hot hr hsp => ?_
  obtain ⟨t, ht, hq⟩ := hbody cdv A outer s H vs Q E p ⟨p, ⟨hot.1, hot.2⟩, List.mem_cons_self⟩ hr hsp
  exact ⟨t, ht.nox, hq⟩
theorem huH {A : Around} {k : Nat} (hr : RoomH k A) : A.units + 1 < cLine := by have := hr.un; omega
theorem hu66H {A : Around} {k : Nat} (hr : RoomH k A) : A.units + 66 < cLine := by have := hr.un; omega
theorem hu68H {A : Around} {k : Nat} (hr : RoomH k A) : A.units + 68 < cLine := by have := hr.un; omega
theorem unitsH {A : Around} {k : Nat} (hr : RoomH k A) : A.units + 64 < cLine := by have := hr.un; omega
end
/-! try, where the suites may call defs -/
abbrev SuiOkN (X : Cx) (ss : List Stmt) (ts : Sui) : Prop := ∀ (a : Addr) (oe : Obj) (k : Value) (d : Option Addr) (pn : List (Addr × Obj)), Zc k d oe → (∃ vs, oe.data = .fields vs) → HotC (X.suite a ((a, oe) :: pn)) → PSs (X.suite a ((a, oe) :: pn)) ss (ts a k d)
inductive HdsN (X : Cx) : List ExceptHandler → List (Value × Option Nat × Sui) → Prop
  | nil : HdsN X [] []
  | anon {x : Str} {c : Value} {ts : Sui} {s0 : Stmt} {ss : List Stmt} {p1 p2 : Pos} {hs : List ExceptHandler} {l : List (Value × Option Nat × Sui)} (hc : Names X x c) (su : SuiOkN X (s0 :: ss) ts) (r : HdsN X hs l) : HdsN X (.ExceptHandler (some (.Name x p1)) none (s0 :: ss) p2 :: hs) ((c, none, ts) :: l)
  | named {x n : Str} {i : Nat} {c : Value} {ts : Sui} {s0 : Stmt} {ss : List Stmt} {p1 p2 : Pos} {hs : List ExceptHandler} {l : List (Value × Option Nat × Sui)} (hi : X.N[i]? = some n) (hk : X.env.kindOf n = some .local) (hc : Names X x c) (su : SuiOkN X (s0 :: ss) ts) (r : HdsN X hs l) : HdsN X (.ExceptHandler (some (.Name x p1)) (some n) (s0 :: ss) p2 :: hs) ((c, some i, ts) :: l)
section
variable {X : Cx}
theorem ps_try_allN {bd el : List Stmt} {g0 : ExceptHandler} {gs : List ExceptHandler} {l : List (Value × Option Nat × Sui)} {p : Pos} {tb : WX → TS} {te : TS} {Wo : WX} (hN : X.N.Nodup) (hs : X.stack = X.env :: X.outer) (hf : X.env.frame = some X.env.locals) (tk : L2.Takes X Wo)
    (hb : ∀ (W : WX) (pn : List (Addr × Obj)) (xe : Value → Shared → Prop), L2N.Takes (X.tr pn xe) W → PassesOwn (model X.prog X.w) X.A X.env xe → PSs (X.tr pn xe) bd (tb W)) (hh : HdsN X (g0 :: gs) l) (he : PSs X el te) :
    PS X (.Try bd (g0 :: gs) el [] p) (fun D σ H => tb (wAll X.K Wo D l) { D with nx := te D } σ H) := by
  refine ⟨fun pins s σ H D I h => ?_⟩
  have ok := I.ok
  have fr : X.A.frames = some (X.env :: X.outer) := by rw [ok.frames, hs]
  let M := model X.prog X.w
  let catches : Value → Shared → Prop := fun e s1 => wpAny M X.A (noteFrame e X.env) (fun _ s2 => wpAny M X.A (setFlight e none) (fun _ s3 => wpAny M X.A (handleBy e X.env (g0 :: gs)) (SP X pins D) X.xe s3) X.xe s2) X.xe s1
  refine wpAny_Try_except ?_
  have run := (hb (wAll X.K Wo D l) (X.pn ++ pins) catches (fun u s' got => ?_) PassesOwn.looking).run [] s σ H { D with nx := te D } (I.toTry _) h
  refine wpAny_mono run (fun f s1 out => ?_) (fun e s1 z => z)
  · cases f with
    | next => obtain ⟨σ1, H1, J1, q⟩ := out; exact he.run pins s1 σ1 H1 D (J1.ofTry ok) q
    | brk => obtain ⟨σ1, H1, J1, q⟩ := out; exact ⟨σ1, H1, J1.ofTry ok, q⟩
    | cont => obtain ⟨σ1, H1, J1, q⟩ := out; exact ⟨σ1, H1, J1.ofTry ok, q⟩
    | ret u => obtain ⟨v, σ1, H1, J1, r, q⟩ := out; exact ⟨v, σ1, H1, J1.ofTry ok, r, q⟩
  · obtain ⟨a, B, sI, pins1, σ1, H1, k, d, rfl, J1, nb, up, sky, na, os, ag, wish⟩ := got
    have J : Inv X pins σ1 H1 sI := J1.ofTry ok
    have sk : Sky B (X.env :: X.outer) a (L2N.Zn k d) X.env.locals s'.heap := hs ▸ sky
    show wpAny M X.A (noteFrame (.ref a) X.env) _ _ _
    refine L2N.Sky.land L2N.Zn.steady fr hf sk fun hA flA upA => ?_
    have JA : Inv X pins σ1 H1 { s' with heap := hA } := J.landed nb flA.1 (up.trans upA) os ag
    obtain ⟨oA, vA, eA, zA, dA⟩ := flA.there
    have off : a ∉ frs (X.env :: X.outer) := fun hm => by
      obtain ⟨_, o1, e1, hn⟩ := flA.2.2.1.mem hm
      rw [eA] at e1
      cases e1
      exact hn _ dA
    have off1 : a ≠ X.env.locals := fun z => off (List.mem_filterMap.mpr ⟨X.env, List.mem_cons_self, by rw [hf, z]⟩)
    have off2 : a ∉ X.fs := fun hm => by
      obtain ⟨e, h1, h2⟩ := List.mem_filterMap.mp hm
      exact off (List.mem_filterMap.mpr ⟨e, List.mem_cons_of_mem _ h1, h2⟩)
    have SA := JA.suite eA dA na off1 off2
    have ask : ∀ {x : Str} {c : Value} {np : Pos} {Q E : Value → Shared → Prop}, Names X x c → Q c { s' with heap := hA } → wpAny M (X.A.mark (some (.ref a))) (eval (.Name x np) X.env) Q E { s' with heap := hA } := fun {x c np Q E} hc q => by
      obtain ⟨hg, hd, hm | ⟨hm, hv, hn⟩⟩ := hc
      · exact ld_glob (X := X.suite a ((a, oA) :: (X.pn ++ pins))) SA hg hm q hd
      · exact ld_blt (X := X.suite a ((a, oA) :: (X.pn ++ pins))) SA hg hm hv q hn hd
    have type_ : PySem.W.Looks M hA (typeOf (.ref a)) k := fun A Q E s q1 q2 => wpAny_typeOf_ref (q1 _ _ eA) (by rw [zA.1]; exact q2)
    suffices go : ∀ {hs1 : List ExceptHandler} {l1 : List (Value × Option Nat × Sui)}, HdsN X hs1 l1 → wAll X.K Wo D l1 k d σ1 H1 → wpAny M X.A (handleBy (.ref a) X.env hs1) (SP X pins D) X.xe { s' with heap := hA } from go hh wish
    intro hs1 l1 hk
    induction hk with
    | nil =>
      intro wsh
      refine wpAny_handleBy_nil ?_
      obtain ⟨_, _, _, oe, vs, T, oT, tt, e0, z0, d0, t0, r0⟩ := id flA
      unfold PySem.passOn
      refine wpAny_bind (wpAny_field e0 d0 t0 ?_)
      rw [if_neg (show ¬ ((Value.ref T == Value.none) = true) by simp)]
      have last : wpAny M X.A (setFlight (.ref a) X.env.frame) (fun _ s4 => wpAny M X.A (throw (.ref a) : Sem Flow) (SP X pins D) X.xe s4) X.xe { s' with heap := hA } := by
        rw [hf]
        refine HandSPX.setFlight_upZ (L2H.flyingZ_imp (fun o z => z.zc) flA) fun hB kB upB => wpAny_throw (tk _ _ ?_)
        exact ⟨a, B, sI, pins, σ1, H1, k, d, rfl, J, nb, (up.trans upA).trans upB, .inr (.inr (hs ▸ kB)), na, os, ag, wsh⟩
      first
        | exact wpAny_bind (wpAny_pure (wpAny_bind last))
        | exact wpAny_bind last
    | @anon x c ts s0 ss p1 p2 hs2 l2 hc su r ih =>
      intro wsh
      obtain ⟨b, hb1, yes, no⟩ := wsh
      have LM := PySem.W.exm_one (M := M) JA.kIn type_ hb1
      refine wpAny_handleBy_cons (codeAny_handlers_test (ask hc (LM.here ?_))) (by intro q; cases q)
      cases b with
      | false => exact ih (no rfl)
      | true =>
        refine codeAny_handlers_suite (HandSPX.lands_againZ flA fun hB flB upB => ?_)
        have JB : Inv X pins σ1 H1 { s' with heap := hB } := J.landed nb flB.1 ((up.trans upA).trans upB) os ag
        obtain ⟨oB, vB, eB, zB, dB⟩ := flB.there
        have run2 := (su a oB k d (X.pn ++ pins) zB.zc ⟨_, dB⟩ ⟨(a, oB), ⟨rfl, vB, dB, zB.2.2 vB dB⟩, List.mem_cons_self⟩).run [] _ _ H1 _ (JB.suite eB dB na off1 off2) (yes rfl a na)
        refine wpAny_mono run2 (fun f s6 out => ?_) (fun _ _ z => False.elim z)
        cases f with
        | next => obtain ⟨σ6, H6, S6, q6⟩ := out; exact ⟨_, _, S6.unsuite ok, q6⟩
        | brk => obtain ⟨σ6, H6, S6, q6⟩ := out; exact ⟨_, _, S6.unsuite ok, q6⟩
        | cont => obtain ⟨σ6, H6, S6, q6⟩ := out; exact ⟨_, _, S6.unsuite ok, q6⟩
        | ret u => obtain ⟨v6, σ6, H6, S6, r6, q6⟩ := out; exact ⟨_, _, _, S6.unsuite ok, r6, q6⟩
    | @named x n i c ts s0 ss p1 p2 hs2 l2 hi hkn hc su r ih =>
      intro wsh
      obtain ⟨b, hb1, yes, no⟩ := wsh
      have LM := PySem.W.exm_one (M := M) JA.kIn type_ hb1
      refine wpAny_handleBy_cons (codeAny_handlers_test (ask hc (LM.here ?_))) (by intro q; cases q)
      cases b with
      | false => exact ih (no rfl)
      | true =>
        refine codeAny_handlers_suite_as (HandSPX.lands_againZ flA fun hB flB upB => ?_)
        have JB : Inv X pins σ1 H1 { s' with heap := hB } := J.landed nb flB.1 ((up.trans upA).trans upB) os ag
        obtain ⟨oB, vB, eB, zB, dB⟩ := flB.there
        refine store_ok (X := X.suite a ((a, oB) :: (X.pn ++ pins))) (v := .ref a) (JB.suite eB dB na off1 off2) hN hi (.inl hkn) rfl (fun s5 S5 => ?_) (.inr hkn)
        have run2 := (su a oB k d (X.pn ++ pins) zB.zc ⟨_, dB⟩ ⟨(a, oB), ⟨rfl, vB, dB, zB.2.2 vB dB⟩, List.mem_cons_self⟩).run [] s5 _ H1 _ S5 (yes rfl a na)
        refine wpAny_mono run2 (fun f s6 out => ?_) (fun _ _ z => False.elim z)
        cases f with
        | next => obtain ⟨σ6, H6, S6, q6⟩ := out; exact gone_ok (S6.unsuite ok) hN hi hkn fun s7 J7 => ⟨_, _, J7, q6⟩
        | brk => obtain ⟨σ6, H6, S6, q6⟩ := out; exact gone_ok (S6.unsuite ok) hN hi hkn fun s7 J7 => ⟨_, _, J7, q6⟩
        | cont => obtain ⟨σ6, H6, S6, q6⟩ := out; exact gone_ok (S6.unsuite ok) hN hi hkn fun s7 J7 => ⟨_, _, J7, q6⟩
        | ret u => obtain ⟨v6, σ6, H6, S6, r6, q6⟩ := out; exact gone_ok (S6.unsuite ok) hN hi hkn fun s7 J7 => ⟨_, _, _, J7, r6, q6⟩
end
end L2

/-! ### repr of a dict from texts to tuples of texts -/
namespace L2
open PySem PySem.Spec PyProof.Rows
open TL (tl)
def ktD (L : List (Str × List Str)) : PyData := .dict (L.map fun q => (PyData.str q.1, PyData.tuple (q.2.map PyData.str)))
def KtAt (H : Hp) (a : Addr) (L : List (Str × List Str)) : Prop := ∃ kv, H a = some (.dK kv) ∧ Paired (fun (p : Key × V) (q : Str × List Str) => p.1 = .inr q.1 ∧ ∃ t, p.2 = .ref t ∧ H t = some (.tup (q.2.map V.str))) kv L
def TxS (s : Str) : Prop := OkT s ∧ s.length ≤ 80
def KtOk (L : List (Str × List Str)) : Prop := L.length ≤ 40 ∧ ∀ q ∈ L, TxS q.1 ∧ q.2.length ≤ 40 ∧ ∀ z ∈ q.2, TxS z
def rReprKT : List V → Hp → VK → Prop := fun xs H Q => ∃ a L, xs = [.ref a] ∧ KtAt H a L ∧ KtOk L ∧ Q (.str (ktD L).shown) H
section
variable {X : Cx} {pins : List (Addr × Obj)} {σ : St} {H : Hp} {s : Shared}
theorem reads_strs {h : Heap} : ∀ {l : List Str} {us : List Value}, Vals (l.map V.str) us → ReadsAll h us (l.map PyData.str) []
  | [], _, .nil => ReadsAll.nil
  | a :: l, _, .cons r t => by
    obtain ⟨tk, rfl⟩ := (show ∃ t, _ = Value.str a t from r)
    exact ReadsAll.cons (as := []) (bs := []) (.str a tk) (reads_strs t)
theorem kt_reads (I : Inv X pins σ H s) : ∀ {L : List (Str × List Str)} {kv : List (Key × V)} {vs : List (Key × Value)} {es : List DictEntry}, Paired (fun (p : Key × V) (q : Str × List Str) => p.1 = .inr q.1 ∧ ∃ t, p.2 = .ref t ∧ H t = some (.tup (q.2.map V.str))) kv L → KV kv vs → Pairs (mixKind X.prog X.w) es vs →
    ReadsAll s.heap (es.map (·.key)) (L.map fun q => PyData.str q.1) [] ∧ ReadsAll s.heap (es.map (·.val)) (L.map fun q => PyData.tuple (q.2.map PyData.str)) []
  | [], _, _, _, .nil, hkv, hp => by
    cases hkv
    cases hp
    exact ⟨.nil, .nil⟩
  | q :: L, _, _, _, .cons h t, hkv, hp => by
    unfold KV at hkv
    cases hkv with
    | cons h2 t2 =>
      cases hp with
      | cons k1 k2 t3 =>
        obtain ⟨e1, ta, e2, hta⟩ := h
        obtain ⟨f1, f2⟩ := h2
        obtain ⟨r1, r2⟩ := kt_reads I t t2 t3
        rw [← f1, e1] at k1
        obtain ⟨tk, ek⟩ := (show ∃ t, _ = Value.str q.1 t from relV_key (k := .inr q.1) (show keyIs _ _ = true from k1))
        rw [e2] at f2
        have f2' := (show _ = Value.ref ta from f2)
        obtain ⟨its, rv, hp2, hlen⟩ := I.tuple (SqT.of hta)
        obtain ⟨o, ho, hc, n, hd⟩ := hp2
        refine ⟨?_, ?_⟩
        · rw [List.map_cons, List.map_cons, ek]
          exact ReadsAll.cons (as := []) (bs := []) (.str _ _) r1
        · rw [List.map_cons, List.map_cons, k2, f2']
          exact ReadsAll.cons (as := []) (bs := []) (Reads.tuple ho hc hd (by simpa using reads_strs rv)) r2
theorem kv_ok {B D : Nat} : ∀ {L : List (Str × List Str)}, (∀ q ∈ L, RpOk 0 B (.str q.1) ∧ RpOk D B (.tuple (q.2.map PyData.str))) → PyData.showableKv (L.map fun q => (PyData.str q.1, PyData.tuple (q.2.map PyData.str))) = true ∧ PyData.leavesShortKv 13 (L.map fun q => (PyData.str q.1, PyData.tuple (q.2.map PyData.str))) = true ∧ PyData.depthKv (L.map fun q => (PyData.str q.1, PyData.tuple (q.2.map PyData.str))) ≤ D ∧ PyData.bulkKv (L.map fun q => (PyData.str q.1, PyData.tuple (q.2.map PyData.str))) ≤ L.length * (2 * B + 2)
  | [], _ => by simp [PyData.showableKv, PyData.leavesShortKv, PyData.depthKv, PyData.bulkKv]
  | q :: L, h => by
    obtain ⟨⟨a1, a2, a3, a4, a5⟩, b1, b2, b3, b4, b5⟩ := h q List.mem_cons_self
    obtain ⟨h1, h2, h3, h4⟩ := kv_ok (L := L) fun z hz => h z (List.mem_cons_of_mem _ hz)
    rw [List.map_cons]
    refine ⟨by simp only [PyData.showableKv, a1, b1, h1, Bool.and_self], by simp only [PyData.leavesShortKv, a3, b3, h2, Bool.and_self], by simp only [PyData.depthKv]; omega, ?_⟩
    simp only [PyData.bulkKv]
    rw [List.length_cons, Nat.succ_mul]
    omega
theorem strs_ok : ∀ {l : List Str}, (∀ z ∈ l, TxS z) → RpAll 0 (l.length * 81) (l.map PyData.str)
  | [], _ => rp_nil
  | a :: l, h => by
    have h1 := (rp_str (h a List.mem_cons_self).1).mono (Nat.le_refl 0) (h a List.mem_cons_self).2
    obtain ⟨k1, k2, k3, k4, k5⟩ := rp_cons h1 (strs_ok (l := l) fun z hz => h z (List.mem_cons_of_mem _ hz))
    refine ⟨k1, k2, k3, Nat.le_trans k4 (by decide), ?_⟩
    rw [List.length_cons, Nat.succ_mul]
    have k5' : PyData.bulkAll ((a :: l).map PyData.str) ≤ 80 + 1 + l.length * 81 := k5
    omega
theorem call_reprKT (hgd : X.A.guards = some []) (hu : X.A.units + 62 < cLine) : CallR X (.builtin "repr") rReprKT := by
  intro pins s σ H xs us Q I r h
  obtain ⟨a, L, rfl, ⟨kv, ha, hp⟩, ⟨hl, hL⟩, q⟩ := h
  cases r with
  | cons ra rr =>
    cases rr
    rename_i u
    cases (show u = Value.ref a from ra)
    obtain ⟨_, hsys, vs, hkv, o, es, ep, ho, hx, hda, _, hpr, _⟩ := I.hok a _ ha
    obtain ⟨r1, r2⟩ := kt_reads I hp hkv hpr
    have rd : Reads s.heap (.ref a) (ktD L) [a] := Reads.dict (as := []) (bs := []) ho hx.1 hda (by rw [List.map_map]; exact r1) (by rw [List.map_map]; exact r2)
    have ok := kv_ok (B := 3240) (D := 1) (L := L) fun q hq => ⟨(rp_str (hL q hq).1.1).mono (Nat.le_refl _) (by have := (hL q hq).1.2; omega), (rp_tup (strs_ok (hL q hq).2.2)).mono (by omega) (by have := (hL q hq).2.1; have := Nat.mul_le_mul_right 81 this; omega)⟩
    obtain ⟨k1, k2, k3, k4⟩ := ok
    have hb : (ktD L).bulk ≤ 2 ^ 20 := by
      unfold ktD
      simp only [PyData.bulk]
      have := Nat.mul_le_mul_right (2 * 3240 + 2) hl
      omega
    have hls : (ktD L).leavesShort 13 = true := by unfold ktD; simp only [PyData.leavesShort]; exact k2
    refine repr_of_reads' rd (by unfold ktD; simp only [PyData.showable]; exact k1) (fun _ z => ?_) hgd (by unfold ktD; simp only [PyData.depth]; omega) (fun _ _ z => z) (fun h' u tk hk => ?_) (PyData.shown_fits_bulk (B := 13) (by decide) (by decide) hls hb)
    · have : sysModules = a := by simpa using z
      rw [this] at hsys
      simp at hsys
    · exact ⟨.str _, H, I.kept (t' := tk) hk, ⟨_, rfl⟩, q⟩
end
end L2

/-! ### a comprehension over any walk of given things, some left out, each thing made with a property -/
namespace L2
open PySem PySem.Spec PyProof.Rows
open Evl hiding RetV RetL
section
variable {K : PySem.W.Frag} {σ : St} {H : Hp} {Q : VK} {g : L2.TG} {tt : TT} {te : TE} {vs : List Nat}
theorem lcW {α : Type} {J : It} {xs : List V} {G0 : Hp → Prop} {as : List α} (w : Walk J xs.length G0 (YAt xs)) (hG : ∀ G, Ex H G → G0 G) (hl : as.length = xs.length) (hn : xs.length ≤ 1000) (F : α → Bool) (P : Addr → α → V → Hp → Prop)
    (hst : ∀ D r y G G2, ExB D G G2 → NL G G2 → P D r y G → P D r y G2)
    (ht : ∀ (D : Addr) (i : Nat) (r : α) (x : V), H D = none → as[i]? = some r → xs[i]? = some x → ∀ H2, Ex H H2 → (∃ o, H2 D = some o) → ∀ (R : V → Hp → Prop) (N : Hp → Prop), (F r = true → ∀ y H3, Ex H2 H3 → P D r y H3 → R y H3) → (F r = false → ∀ H3, Ex H2 H3 → N H3) →
      g x (wipe σ vs) H2 fun σ2 H3 => wipe σ2 vs = wipe σ vs ∧ tt σ2 H3 fun c H4 => if c = true then te σ2 H4 fun y H5 => R y H5 else N H4)
    (k : ∀ ys p H2, Paired (fun r y => P p r y H2) (as.filter F) ys → H p = none → Ex H H2 → H2 p = some (.lst ys) → Q (.ref p) H2) : LcI J g tt te vs σ H Q := by
  refine fun D hD => ?_
  have ex : ∀ {G : Hp} {o : HO}, Ex H G → Ex H (upd G D o) := fun e b u hb => by rw [upd_ne (ne_of_none hb hD)]; exact e b u hb
  refine lc_it w (fun i H' => i ≤ xs.length ∧ Ex H H' ∧ ∃ ys, Paired (fun r y => P D r y H') ((as.take i).filter F) ys ∧ H' D = some (.lst ys))
    ⟨Nat.zero_le _, ex (Ex.refl _), [], .nil, upd_same⟩ (fun i H' _ p => hG _ p.2.1) (fun i x H' H'' hi p y => ?_) (fun H' p => ?_)
  · obtain ⟨rfl, hx⟩ := y
    obtain ⟨_, e1, ys, hy, hD'⟩ := p
    have hil : i < as.length := by omega
    have hr : as[i]? = some as[i] := List.getElem?_eq_getElem hil
    have hyl : ys.length ≤ i := by
      rw [← paired_len hy]
      exact Nat.le_trans (List.length_filter_le _ _) (by rw [List.length_take]; omega)
    have htk : as.take (i + 1) = as.take i ++ [as[i]] := by rw [List.take_add_one, hr]; rfl
    refine ht D i as[i] x hD hr hx H'' e1 ⟨_, hD'⟩ (fun y H4 => ∃ acc, H4 D = some (.lst acc) ∧ acc.length < sizeLine ∧ (i + 1 ≤ xs.length ∧ Ex H (upd H4 D (.lst (acc ++ [y]))) ∧ ∃ zs, Paired (fun r z => P D r z (upd H4 D (.lst (acc ++ [y])))) ((as.take (i + 1)).filter F) zs ∧ upd H4 D (.lst (acc ++ [y])) D = some (.lst zs))) (fun H4 => i + 1 ≤ xs.length ∧ Ex H H4 ∧ ∃ zs, Paired (fun r z => P D r z H4) ((as.take (i + 1)).filter F) zs ∧ H4 D = some (.lst zs)) (fun hF y H3 e3 py => ?_) (fun hF H3 e3 => ?_)
    · have hD3 := e3 _ _ hD'
      have eD : ExB D H3 (upd H3 D (.lst (ys ++ [y]))) := ExB.upd
      have eN : NL H3 (upd H3 D (.lst (ys ++ [y]))) := NL.upd hD3
      refine ⟨ys, hD3, Evl.sz_lt (by omega), hi, ex (e1.trans e3), ys ++ [y], ?_, upd_same⟩
      rw [htk, List.filter_append, List.filter_cons_of_pos hF, List.filter_nil]
      exact paired_snoc (F := fun r z => P D r z (upd H3 D (HO.lst (ys ++ [y])))) (hst _ _ _ _ _ eD eN py) (paired_up (fun a b h => hst _ _ _ _ _ eD eN (hst _ _ _ _ _ (ExB.of e3) (NL.of e3) h)) hy)
    · refine ⟨hi, e1.trans e3, ys, ?_, e3 _ _ hD'⟩
      rw [htk, List.filter_append, List.filter_cons_of_neg (by rw [hF]; decide), List.filter_nil, List.append_nil]
      exact paired_up (fun a b h => hst _ _ _ _ _ (ExB.of e3) (NL.of e3) h) hy
  · obtain ⟨_, e1, ys, hy, hD'⟩ := p
    rw [← hl, List.take_length] at hy
    exact k ys D H' hy hD e1 hD'
end
end L2

/-! ### a call of a local name that holds a def; what is raised is wished for at the caller's slots -/
namespace L2
open PySem PySem.Spec PyProof.Rows
section
variable {X : Cx} {CX : CXT} {k i : Nat} {f : Addr} {fd : FuncData} {ps : List Str} {sp : Sp} {x : Str} {p pos : Pos} {e : Expr} {es : List Expr} {t : TA} {E : St → XK}
def tCallLS (i : Nat) (f : Addr) (sp : Sp) (E : St → XK) (t : TA) : TE := fun σ H Q => σ[i]? = some (some (.ref f)) ∧ t σ H fun vs H1 => sp vs H1 Q (E σ)
theorem pe_callLS (F : FnOk X.prog X.w X.K X.mg X.base CX k f fd ps sp) (hr : Room k X.A) (hN : X.N[i]? = some x) (hv : Vis X.env.scope x) (hk : PySem.W.keepIn X.K (.ref f) = true) (hb : Binds X.K fd ps []) (hx : ∀ σ, PassesAt CX X σ (E σ)) (ha : PA X (e :: es) t)
    (hdb : (x == ("__debug__" : Str)) = false := by decide) (hcd : (x == ("__classdict__" : Str)) = false := by decide)
    (he : starEach (e :: es) X.env = (false, eval e X.env) :: starEach es X.env := by rfl) (hpl : (backTo pos (starEach es X.env)).any (·.1) = false := by rfl) : PE X (.Call (.Name x p) (e :: es) [] pos) (tCallLS i f sp E t) := by
  refine ⟨fun pins s σ H Q I h => ?_⟩
  obtain ⟨hs, ht⟩ := h
  refine wpAny_Call_Name_kw (thn ((pe_var (pos := p) hN hv hdb hcd).run pins s σ H (fun v H1 => v = .ref f ∧ H1 = H) I ⟨.ref f, hs, rfl, rfl⟩) fun u s1 ⟨v, H1, I1, r1, q1⟩ => ?_)
  obtain ⟨rfl, rfl⟩ := q1
  cases r1
  refine PySem.W.callWith_K (h₀ := X.base) I.ok.mod.kin hk (thn (ha.run pos pins s1 σ _ _ I1 ht) fun us s2 ⟨vs, H2, I2, r, q⟩ => ⟨I2.kIn, ?_⟩) he hpl
  exact run_fnS F hr hb (hx σ) I2 r q
theorem c_callLS {σ : St} {H : Hp} {Q : VK} (hs : σ[i]? = some (some (.ref f))) (h : t σ H fun vs H1 => sp vs H1 Q (E σ)) : tCallLS i f sp E t σ H Q := ⟨hs, h⟩
end
end L2

open L2 in
local macro_rules | `(tactic| walk_at "s") => `(tactic| with_reducible (first
  | refine c_var (by with_unfolding_all rfl) ?_ | refine c_c ?_ | refine c_op ?_ | refine c_test ?_ | refine c_cons ?_ | refine c_nil ?_ | refine c_call ?_ | refine c_cb ?_ | refine c_seq ?_ | refine c_asg ?_ | refine c_gName ?_ | refine c_ret ?_ | refine c_ifS ?_
  | (refine d_nx ?_; refine c_nx ?_) | (refine d_rt ?_; refine c_rt ?_) | (refine d_bk ?_; refine c_bk ?_) | (refine d_ct ?_; refine c_ct ?_) | refine c_next ?_ | refine c_drop ?_ | refine c_un ?_ | refine c_b ?_ | refine c_and ?_ | refine c_or ?_ | refine c_not ?_ | refine c_andV ?_ | refine c_orV ?_ | refine c_notV ?_ | refine c_if ?_
  | refine c_tup ?_ | refine c_lst ?_ | refine c_sl ?_ | refine c_noPart ?_ | refine c_part ?_ | refine c_bm ?_ | refine c_bm0 ?_ | refine c_m0 ?_ | refine c_m1 ?_ | refine c_chain ?_ | refine c_retN ?_ | refine c_gCons ?_ | refine c_gNil ?_ | refine c_gSub ?_
  | refine c_I0 ?_ | refine c_U ?_ | refine c_eq (by with_unfolding_all rfl) ?_ | refine c_ne (by with_unfolding_all rfl) ?_ | refine c_yes ?_ | refine c_forS ?_ | refine c_lcSi ?_ | refine c_forR1 ?_ | refine c_forR2 ?_ | refine c_forL ?_ | refine c_forT ?_ | refine c_lcR1 ?_ | refine c_lcLi ?_ | refine c_lcTi ?_ | refine c_forE ?_ | refine c_lcZi ?_ | refine c_xfv ?_ | refine c_mkv ?_ | refine c_mp ?_ | refine c_fld ?_ | refine c_sfld ?_ | refine c_make ?_ | refine c_ckw ?_ | refine c_sdput ?_ | refine c_dget ?_ | refine c_callS ?_ | refine c_xf ?_ | refine c_mko ?_ | refine c_mps ?_ | refine c_lcK ?_ | refine c_forK ?_ | refine c_dpop ?_ | refine c_dget2 ?_ | refine c_dget1 ?_ | refine c_forIt ?_ | refine c_listIt ?_ | refine c_break ?_ | refine c_cont ?_ | refine c_orT ?_ | refine c_andT ?_ | refine c_notT ?_ | refine iteT ?_ | refine iteF ?_ | refine if_nt ?_ | refine if_nf ?_
  | refine ⟨_, rfl, ?_⟩ | refine ⟨_, _, rfl, rfl, ?_⟩ | refine And.intro rfl ?_))
local macro_rules | `(tactic| walk_at "ss") => `(tactic| repeat (walk_at "s"))

namespace Toy
open PySem L2
open Evl hiding RetV RetL
def top (i : Nat) : Stmt := PySem.Challenge.pw_beatrows_k34_nodes_told.main.body.getD i (.Pass ⟨0, 0, 0, 0⟩)
abbrev s_NoName_init : Stmt := (cBody (top 4)).getD 0 (.Pass ⟨0, 0, 0, 0⟩)
abbrev s_Unknown_init : Stmt := (cBody (top 9)).getD 0 (.Pass ⟨0, 0, 0, 0⟩)
abbrev s_is_whole : Stmt := top 18
abbrev s_is_within : Stmt := top 19
abbrev s_is_name : Stmt := top 20
abbrev s_is_pointed : Stmt := top 21
abbrev s_is_value : Stmt := top 22
abbrev s_ops_told : Stmt := top 26
abbrev s_Term_parts : Stmt := (cBody (top 29)).getD 0 (.Pass ⟨0, 0, 0, 0⟩)
abbrev s_Term_names : Stmt := (cBody (top 29)).getD 1 (.Pass ⟨0, 0, 0, 0⟩)
abbrev s_Term_levels : Stmt := (cBody (top 29)).getD 2 (.Pass ⟨0, 0, 0, 0⟩)
abbrev s_need_term : Stmt := top 30
abbrev s_Name_init : Stmt := (cBody (top 31)).getD 0 (.Pass ⟨0, 0, 0, 0⟩)
abbrev s_Name_names : Stmt := (cBody (top 31)).getD 1 (.Pass ⟨0, 0, 0, 0⟩)
abbrev s_Name_told : Stmt := (cBody (top 31)).getD 4 (.Pass ⟨0, 0, 0, 0⟩)
abbrev s_Value_init : Stmt := (cBody (top 32)).getD 0 (.Pass ⟨0, 0, 0, 0⟩)
abbrev s_Value_told : Stmt := (cBody (top 32)).getD 2 (.Pass ⟨0, 0, 0, 0⟩)
abbrev s_Two_init : Stmt := (cBody (top 33)).getD 0 (.Pass ⟨0, 0, 0, 0⟩)
abbrev s_Two_parts : Stmt := (cBody (top 33)).getD 1 (.Pass ⟨0, 0, 0, 0⟩)
abbrev s_Two_told : Stmt := (cBody (top 33)).getD 4 (.Pass ⟨0, 0, 0, 0⟩)
abbrev s_Not_init : Stmt := (cBody (top 34)).getD 0 (.Pass ⟨0, 0, 0, 0⟩)
abbrev s_Not_parts : Stmt := (cBody (top 34)).getD 1 (.Pass ⟨0, 0, 0, 0⟩)
abbrev s_Not_told : Stmt := (cBody (top 34)).getD 4 (.Pass ⟨0, 0, 0, 0⟩)
abbrev s_Pick_init : Stmt := (cBody (top 35)).getD 0 (.Pass ⟨0, 0, 0, 0⟩)
abbrev s_Pick_parts : Stmt := (cBody (top 35)).getD 1 (.Pass ⟨0, 0, 0, 0⟩)
abbrev s_Pick_told : Stmt := (cBody (top 35)).getD 4 (.Pass ⟨0, 0, 0, 0⟩)
abbrev s_simple_of : Stmt := top 36
abbrev s_made_of_told : Stmt := top 37
abbrev s_term_of : Stmt := top 38
abbrev s_each_once : Stmt := top 40
abbrev s_Equation_init : Stmt := (cBody (top 41)).getD 0 (.Pass ⟨0, 0, 0, 0⟩)
abbrev s_Equation_told : Stmt := (cBody (top 41)).getD 1 (.Pass ⟨0, 0, 0, 0⟩)
abbrev s_Equation_tells : Stmt := (cBody (top 41)).getD 2 (.Pass ⟨0, 0, 0, 0⟩)
abbrev s_Equation_names : Stmt := (cBody (top 41)).getD 3 (.Pass ⟨0, 0, 0, 0⟩)
abbrev s_Equation_term : Stmt := (cBody (top 41)).getD 4 (.Pass ⟨0, 0, 0, 0⟩)
abbrev s_Equation_is_call : Stmt := (cBody (top 41)).getD 5 (.Pass ⟨0, 0, 0, 0⟩)
abbrev s_Plain_init : Stmt := (cBody (top 42)).getD 0 (.Pass ⟨0, 0, 0, 0⟩)
abbrev s_Plain_names : Stmt := (cBody (top 42)).getD 1 (.Pass ⟨0, 0, 0, 0⟩)
abbrev s_Plain_term : Stmt := (cBody (top 42)).getD 2 (.Pass ⟨0, 0, 0, 0⟩)
abbrev s_When_names : Stmt := (cBody (top 44)).getD 0 (.Pass ⟨0, 0, 0, 0⟩)
abbrev s_Same_tells : Stmt := (cBody (top 47)).getD 0 (.Pass ⟨0, 0, 0, 0⟩)
abbrev s_Same_names : Stmt := (cBody (top 47)).getD 1 (.Pass ⟨0, 0, 0, 0⟩)
abbrev s_Call_tells : Stmt := (cBody (top 48)).getD 0 (.Pass ⟨0, 0, 0, 0⟩)
abbrev s_Call_names : Stmt := (cBody (top 48)).getD 1 (.Pass ⟨0, 0, 0, 0⟩)
abbrev s_Call_is_call : Stmt := (cBody (top 48)).getD 2 (.Pass ⟨0, 0, 0, 0⟩)
abbrev s_are_pointed : Stmt := top 49
abbrev s_is_valued : Stmt := top 50
abbrev s_plain_of : Stmt := top 51
abbrev s_valued_of : Stmt := top 52
abbrev s_call_of : Stmt := top 53
abbrev s_made_of : Stmt := top 54
abbrev s_equation_of : Stmt := top 55
abbrev s_need_names : Stmt := top 58
abbrev s_equations_of : Stmt := top 59
abbrev s_Node_init : Stmt := (cBody (top 60)).getD 0 (.Pass ⟨0, 0, 0, 0⟩)
abbrev s_Node_take_tellers : Stmt := (cBody (top 60)).getD 1 (.Pass ⟨0, 0, 0, 0⟩)
abbrev s_Node_need_told : Stmt := (cBody (top 60)).getD 2 (.Pass ⟨0, 0, 0, 0⟩)
abbrev s_Node_inputs : Stmt := (cBody (top 60)).getD 3 (.Pass ⟨0, 0, 0, 0⟩)
abbrev s_Node_outs : Stmt := (cBody (top 60)).getD 4 (.Pass ⟨0, 0, 0, 0⟩)
abbrev s_Node_rows : Stmt := (cBody (top 60)).getD 5 (.Pass ⟨0, 0, 0, 0⟩)
abbrev s_Node_names : Stmt := (cBody (top 60)).getD 6 (.Pass ⟨0, 0, 0, 0⟩)
abbrev s_Node_teller : Stmt := (cBody (top 60)).getD 7 (.Pass ⟨0, 0, 0, 0⟩)
abbrev s_Node_has_calls : Stmt := (cBody (top 60)).getD 8 (.Pass ⟨0, 0, 0, 0⟩)
abbrev s_Node_told : Stmt := (cBody (top 60)).getD 9 (.Pass ⟨0, 0, 0, 0⟩)
abbrev s_node_of : Stmt := top 61
abbrev s_same_node : Stmt := top 62
abbrev s_cell_at_l : Stmt := top 64
abbrev s_box_l : Stmt := top 65
abbrev s_take_l : Stmt := top 66
abbrev s_names_l : Stmt := top 67
abbrev s_value_l : Stmt := top 68
abbrev s_term_l : Stmt := top 69
abbrev s_row_l : Stmt := top 70
abbrev s_term_names_l : Stmt := top 71
abbrev s_once_l : Stmt := top 72
abbrev s_mentions_l : Stmt := top 73
abbrev s_tells_l : Stmt := top 74
abbrev s_read_row_l : Stmt := top 75
abbrev s_node_l : Stmt := top 76
abbrev s_told_names_l : Stmt := top 77
abbrev s_due_l : Stmt := top 78
abbrev s_told_l : Stmt := top 79
abbrev s_right_l : Stmt := top 80
abbrev s_unknown_l : Stmt := top 81
abbrev s_made_l : Stmt := top 82
abbrev s_changed_l : Stmt := top 83
abbrev s_alike_l : Stmt := top 84
abbrev s_law : Stmt := top 85
/-- where the defs stand -/
structure Adr where
  f_NoName_init : Addr
  fd_NoName_init : FuncData
  f_Unknown_init : Addr
  fd_Unknown_init : FuncData
  f_is_whole : Addr
  fd_is_whole : FuncData
  f_is_within : Addr
  fd_is_within : FuncData
  f_is_name : Addr
  fd_is_name : FuncData
  f_is_pointed : Addr
  fd_is_pointed : FuncData
  f_is_value : Addr
  fd_is_value : FuncData
  f_ops_told : Addr
  fd_ops_told : FuncData
  f_Term_parts : Addr
  fd_Term_parts : FuncData
  f_Term_names : Addr
  fd_Term_names : FuncData
  f_Term_levels : Addr
  fd_Term_levels : FuncData
  f_need_term : Addr
  fd_need_term : FuncData
  f_Name_init : Addr
  fd_Name_init : FuncData
  f_Name_names : Addr
  fd_Name_names : FuncData
  f_Name_told : Addr
  fd_Name_told : FuncData
  f_Value_init : Addr
  fd_Value_init : FuncData
  f_Value_told : Addr
  fd_Value_told : FuncData
  f_Two_init : Addr
  fd_Two_init : FuncData
  f_Two_parts : Addr
  fd_Two_parts : FuncData
  f_Two_told : Addr
  fd_Two_told : FuncData
  f_Not_init : Addr
  fd_Not_init : FuncData
  f_Not_parts : Addr
  fd_Not_parts : FuncData
  f_Not_told : Addr
  fd_Not_told : FuncData
  f_Pick_init : Addr
  fd_Pick_init : FuncData
  f_Pick_parts : Addr
  fd_Pick_parts : FuncData
  f_Pick_told : Addr
  fd_Pick_told : FuncData
  f_simple_of : Addr
  fd_simple_of : FuncData
  f_made_of_told : Addr
  fd_made_of_told : FuncData
  f_term_of : Addr
  fd_term_of : FuncData
  f_each_once : Addr
  fd_each_once : FuncData
  f_Equation_init : Addr
  fd_Equation_init : FuncData
  f_Equation_told : Addr
  fd_Equation_told : FuncData
  f_Equation_tells : Addr
  fd_Equation_tells : FuncData
  f_Equation_names : Addr
  fd_Equation_names : FuncData
  f_Equation_term : Addr
  fd_Equation_term : FuncData
  f_Equation_is_call : Addr
  fd_Equation_is_call : FuncData
  f_Plain_init : Addr
  fd_Plain_init : FuncData
  f_Plain_names : Addr
  fd_Plain_names : FuncData
  f_Plain_term : Addr
  fd_Plain_term : FuncData
  f_When_names : Addr
  fd_When_names : FuncData
  f_Same_tells : Addr
  fd_Same_tells : FuncData
  f_Same_names : Addr
  fd_Same_names : FuncData
  f_Call_tells : Addr
  fd_Call_tells : FuncData
  f_Call_names : Addr
  fd_Call_names : FuncData
  f_Call_is_call : Addr
  fd_Call_is_call : FuncData
  f_are_pointed : Addr
  fd_are_pointed : FuncData
  f_is_valued : Addr
  fd_is_valued : FuncData
  f_plain_of : Addr
  fd_plain_of : FuncData
  f_valued_of : Addr
  fd_valued_of : FuncData
  f_call_of : Addr
  fd_call_of : FuncData
  f_made_of : Addr
  fd_made_of : FuncData
  f_equation_of : Addr
  fd_equation_of : FuncData
  f_need_names : Addr
  fd_need_names : FuncData
  f_equations_of : Addr
  fd_equations_of : FuncData
  f_Node_init : Addr
  fd_Node_init : FuncData
  f_Node_take_tellers : Addr
  fd_Node_take_tellers : FuncData
  f_Node_need_told : Addr
  fd_Node_need_told : FuncData
  f_Node_inputs : Addr
  fd_Node_inputs : FuncData
  f_Node_outs : Addr
  fd_Node_outs : FuncData
  f_Node_rows : Addr
  fd_Node_rows : FuncData
  f_Node_names : Addr
  fd_Node_names : FuncData
  f_Node_teller : Addr
  fd_Node_teller : FuncData
  f_Node_has_calls : Addr
  fd_Node_has_calls : FuncData
  f_Node_told : Addr
  fd_Node_told : FuncData
  f_node_of : Addr
  fd_node_of : FuncData
  f_same_node : Addr
  fd_same_node : FuncData
  f_cell_at_l : Addr
  fd_cell_at_l : FuncData
  f_box_l : Addr
  fd_box_l : FuncData
  f_take_l : Addr
  fd_take_l : FuncData
  f_names_l : Addr
  fd_names_l : FuncData
  f_value_l : Addr
  fd_value_l : FuncData
  f_term_l : Addr
  fd_term_l : FuncData
  f_row_l : Addr
  fd_row_l : FuncData
  f_term_names_l : Addr
  fd_term_names_l : FuncData
  f_once_l : Addr
  fd_once_l : FuncData
  f_mentions_l : Addr
  fd_mentions_l : FuncData
  f_tells_l : Addr
  fd_tells_l : FuncData
  f_read_row_l : Addr
  fd_read_row_l : FuncData
  f_node_l : Addr
  fd_node_l : FuncData
  f_told_names_l : Addr
  fd_told_names_l : FuncData
  f_due_l : Addr
  fd_due_l : FuncData
  f_told_l : Addr
  fd_told_l : FuncData
  f_right_l : Addr
  fd_right_l : FuncData
  f_unknown_l : Addr
  fd_unknown_l : FuncData
  f_made_l : Addr
  fd_made_l : FuncData
  f_changed_l : Addr
  fd_changed_l : FuncData
  f_alike_l : Addr
  fd_alike_l : FuncData
  f_law : Addr
  fd_law : FuncData
  a_OPS : Addr
  a_OWN : Addr
  c_BeatError : Addr
  c_NoName : Addr
  c_Unknown : Addr
  c_Term : Addr
  c_Name : Addr
  c_Value : Addr
  c_Two : Addr
  c_Not : Addr
  c_Pick : Addr
  c_Equation : Addr
  c_Plain : Addr
  c_Before : Addr
  c_When : Addr
  c_Hold : Addr
  c_Like : Addr
  c_Same : Addr
  c_Call : Addr
  c_Node : Addr
structure Txt (K : PySem.W.Frag) (mg : Str → Option Value) (Z : Adr) : Prop where
  F_NoName_init : Fun K "__init__" "NoName.__init__" s_NoName_init Z.f_NoName_init Z.fd_NoName_init
  b_NoName_init : Binds K Z.fd_NoName_init ["self", "found"] []
  F_Unknown_init : Fun K "__init__" "Unknown.__init__" s_Unknown_init Z.f_Unknown_init Z.fd_Unknown_init
  b_Unknown_init : Binds K Z.fd_Unknown_init ["self", "name"] []
  F_is_whole : Fun K "is_whole" "is_whole" s_is_whole Z.f_is_whole Z.fd_is_whole
  b_is_whole : Binds K Z.fd_is_whole ["thing"] []
  g_is_whole : mg "is_whole" = some (.ref Z.f_is_whole)
  F_is_within : Fun K "is_within" "is_within" s_is_within Z.f_is_within Z.fd_is_within
  b_is_within : Binds K Z.fd_is_within ["thing", "low", "high"] []
  g_is_within : mg "is_within" = some (.ref Z.f_is_within)
  F_is_name : Fun K "is_name" "is_name" s_is_name Z.f_is_name Z.fd_is_name
  b_is_name : Binds K Z.fd_is_name ["thing"] []
  g_is_name : mg "is_name" = some (.ref Z.f_is_name)
  F_is_pointed : Fun K "is_pointed" "is_pointed" s_is_pointed Z.f_is_pointed Z.fd_is_pointed
  b_is_pointed : Binds K Z.fd_is_pointed ["thing"] []
  g_is_pointed : mg "is_pointed" = some (.ref Z.f_is_pointed)
  F_is_value : Fun K "is_value" "is_value" s_is_value Z.f_is_value Z.fd_is_value
  b_is_value : Binds K Z.fd_is_value ["thing"] []
  g_is_value : mg "is_value" = some (.ref Z.f_is_value)
  F_ops_told : Fun K "ops_told" "ops_told" s_ops_told Z.f_ops_told Z.fd_ops_told
  b_ops_told : Binds K Z.fd_ops_told [] []
  g_ops_told : mg "ops_told" = some (.ref Z.f_ops_told)
  F_Term_parts : Fun K "parts" "Term.parts" s_Term_parts Z.f_Term_parts Z.fd_Term_parts
  b_Term_parts : Binds K Z.fd_Term_parts ["self"] []
  y_Term_parts : PySem.W.isFn K (.ref Z.f_Term_parts) = true
  F_Term_names : Fun K "names" "Term.names" s_Term_names Z.f_Term_names Z.fd_Term_names
  b_Term_names : Binds K Z.fd_Term_names ["self"] []
  y_Term_names : PySem.W.isFn K (.ref Z.f_Term_names) = true
  F_Term_levels : Fun K "levels" "Term.levels" s_Term_levels Z.f_Term_levels Z.fd_Term_levels
  b_Term_levels : Binds K Z.fd_Term_levels ["self"] []
  y_Term_levels : PySem.W.isFn K (.ref Z.f_Term_levels) = true
  F_need_term : Fun K "need_term" "need_term" s_need_term Z.f_need_term Z.fd_need_term
  b_need_term : Binds K Z.fd_need_term ["thing"] []
  g_need_term : mg "need_term" = some (.ref Z.f_need_term)
  F_Name_init : Fun K "__init__" "Name.__init__" s_Name_init Z.f_Name_init Z.fd_Name_init
  b_Name_init : Binds K Z.fd_Name_init ["self", "name"] []
  y_Name_init : PySem.W.isFn K (.ref Z.f_Name_init) = true
  F_Name_names : Fun K "names" "Name.names" s_Name_names Z.f_Name_names Z.fd_Name_names
  b_Name_names : Binds K Z.fd_Name_names ["self"] []
  y_Name_names : PySem.W.isFn K (.ref Z.f_Name_names) = true
  F_Name_told : Fun K "told" "Name.told" s_Name_told Z.f_Name_told Z.fd_Name_told
  b_Name_told : Binds K Z.fd_Name_told ["self"] []
  y_Name_told : PySem.W.isFn K (.ref Z.f_Name_told) = true
  F_Value_init : Fun K "__init__" "Value.__init__" s_Value_init Z.f_Value_init Z.fd_Value_init
  b_Value_init : Binds K Z.fd_Value_init ["self", "value"] []
  y_Value_init : PySem.W.isFn K (.ref Z.f_Value_init) = true
  F_Value_told : Fun K "told" "Value.told" s_Value_told Z.f_Value_told Z.fd_Value_told
  b_Value_told : Binds K Z.fd_Value_told ["self"] []
  y_Value_told : PySem.W.isFn K (.ref Z.f_Value_told) = true
  F_Two_init : Fun K "__init__" "Two.__init__" s_Two_init Z.f_Two_init Z.fd_Two_init
  b_Two_init : Binds K Z.fd_Two_init ["self", "op", "one", "other"] []
  y_Two_init : PySem.W.isFn K (.ref Z.f_Two_init) = true
  F_Two_parts : Fun K "parts" "Two.parts" s_Two_parts Z.f_Two_parts Z.fd_Two_parts
  b_Two_parts : Binds K Z.fd_Two_parts ["self"] []
  y_Two_parts : PySem.W.isFn K (.ref Z.f_Two_parts) = true
  F_Two_told : Fun K "told" "Two.told" s_Two_told Z.f_Two_told Z.fd_Two_told
  b_Two_told : Binds K Z.fd_Two_told ["self"] []
  y_Two_told : PySem.W.isFn K (.ref Z.f_Two_told) = true
  F_Not_init : Fun K "__init__" "Not.__init__" s_Not_init Z.f_Not_init Z.fd_Not_init
  b_Not_init : Binds K Z.fd_Not_init ["self", "one"] []
  y_Not_init : PySem.W.isFn K (.ref Z.f_Not_init) = true
  F_Not_parts : Fun K "parts" "Not.parts" s_Not_parts Z.f_Not_parts Z.fd_Not_parts
  b_Not_parts : Binds K Z.fd_Not_parts ["self"] []
  y_Not_parts : PySem.W.isFn K (.ref Z.f_Not_parts) = true
  F_Not_told : Fun K "told" "Not.told" s_Not_told Z.f_Not_told Z.fd_Not_told
  b_Not_told : Binds K Z.fd_Not_told ["self"] []
  y_Not_told : PySem.W.isFn K (.ref Z.f_Not_told) = true
  F_Pick_init : Fun K "__init__" "Pick.__init__" s_Pick_init Z.f_Pick_init Z.fd_Pick_init
  b_Pick_init : Binds K Z.fd_Pick_init ["self", "by", "one", "other"] []
  y_Pick_init : PySem.W.isFn K (.ref Z.f_Pick_init) = true
  F_Pick_parts : Fun K "parts" "Pick.parts" s_Pick_parts Z.f_Pick_parts Z.fd_Pick_parts
  b_Pick_parts : Binds K Z.fd_Pick_parts ["self"] []
  y_Pick_parts : PySem.W.isFn K (.ref Z.f_Pick_parts) = true
  F_Pick_told : Fun K "told" "Pick.told" s_Pick_told Z.f_Pick_told Z.fd_Pick_told
  b_Pick_told : Binds K Z.fd_Pick_told ["self"] []
  y_Pick_told : PySem.W.isFn K (.ref Z.f_Pick_told) = true
  F_simple_of : Fun K "simple_of" "simple_of" s_simple_of Z.f_simple_of Z.fd_simple_of
  b_simple_of : Binds K Z.fd_simple_of ["word", "thing"] []
  g_simple_of : mg "simple_of" = some (.ref Z.f_simple_of)
  F_made_of_told : Fun K "made_of_told" "made_of_told" s_made_of_told Z.f_made_of_told Z.fd_made_of_told
  b_made_of_told : Binds K Z.fd_made_of_told ["told", "left"] []
  g_made_of_told : mg "made_of_told" = some (.ref Z.f_made_of_told)
  F_term_of : Fun K "term_of" "term_of" s_term_of Z.f_term_of Z.fd_term_of
  b_term_of : Binds K Z.fd_term_of ["told"] []
  g_term_of : mg "term_of" = some (.ref Z.f_term_of)
  F_each_once : Fun K "each_once" "each_once" s_each_once Z.f_each_once Z.fd_each_once
  b_each_once : Binds K Z.fd_each_once ["names"] []
  g_each_once : mg "each_once" = some (.ref Z.f_each_once)
  F_Equation_init : Fun K "__init__" "Equation.__init__" s_Equation_init Z.f_Equation_init Z.fd_Equation_init
  b_Equation_init : Binds K Z.fd_Equation_init ["self", "row"] []
  y_Equation_init : PySem.W.isFn K (.ref Z.f_Equation_init) = true
  F_Equation_told : Fun K "told" "Equation.told" s_Equation_told Z.f_Equation_told Z.fd_Equation_told
  b_Equation_told : Binds K Z.fd_Equation_told ["self"] []
  y_Equation_told : PySem.W.isFn K (.ref Z.f_Equation_told) = true
  F_Equation_tells : Fun K "tells" "Equation.tells" s_Equation_tells Z.f_Equation_tells Z.fd_Equation_tells
  b_Equation_tells : Binds K Z.fd_Equation_tells ["self"] []
  y_Equation_tells : PySem.W.isFn K (.ref Z.f_Equation_tells) = true
  F_Equation_names : Fun K "names" "Equation.names" s_Equation_names Z.f_Equation_names Z.fd_Equation_names
  b_Equation_names : Binds K Z.fd_Equation_names ["self"] []
  y_Equation_names : PySem.W.isFn K (.ref Z.f_Equation_names) = true
  F_Equation_term : Fun K "term" "Equation.term" s_Equation_term Z.f_Equation_term Z.fd_Equation_term
  b_Equation_term : Binds K Z.fd_Equation_term ["self"] []
  y_Equation_term : PySem.W.isFn K (.ref Z.f_Equation_term) = true
  F_Equation_is_call : Fun K "is_call" "Equation.is_call" s_Equation_is_call Z.f_Equation_is_call Z.fd_Equation_is_call
  b_Equation_is_call : Binds K Z.fd_Equation_is_call ["self"] []
  y_Equation_is_call : PySem.W.isFn K (.ref Z.f_Equation_is_call) = true
  F_Plain_init : Fun K "__init__" "Plain.__init__" s_Plain_init Z.f_Plain_init Z.fd_Plain_init
  b_Plain_init : Binds K Z.fd_Plain_init ["self", "row"] []
  y_Plain_init : PySem.W.isFn K (.ref Z.f_Plain_init) = true
  F_Plain_names : Fun K "names" "Plain.names" s_Plain_names Z.f_Plain_names Z.fd_Plain_names
  b_Plain_names : Binds K Z.fd_Plain_names ["self"] []
  y_Plain_names : PySem.W.isFn K (.ref Z.f_Plain_names) = true
  F_Plain_term : Fun K "term" "Plain.term" s_Plain_term Z.f_Plain_term Z.fd_Plain_term
  b_Plain_term : Binds K Z.fd_Plain_term ["self"] []
  y_Plain_term : PySem.W.isFn K (.ref Z.f_Plain_term) = true
  F_When_names : Fun K "names" "When.names" s_When_names Z.f_When_names Z.fd_When_names
  b_When_names : Binds K Z.fd_When_names ["self"] []
  y_When_names : PySem.W.isFn K (.ref Z.f_When_names) = true
  F_Same_tells : Fun K "tells" "Same.tells" s_Same_tells Z.f_Same_tells Z.fd_Same_tells
  b_Same_tells : Binds K Z.fd_Same_tells ["self"] []
  y_Same_tells : PySem.W.isFn K (.ref Z.f_Same_tells) = true
  F_Same_names : Fun K "names" "Same.names" s_Same_names Z.f_Same_names Z.fd_Same_names
  b_Same_names : Binds K Z.fd_Same_names ["self"] []
  y_Same_names : PySem.W.isFn K (.ref Z.f_Same_names) = true
  F_Call_tells : Fun K "tells" "Call.tells" s_Call_tells Z.f_Call_tells Z.fd_Call_tells
  b_Call_tells : Binds K Z.fd_Call_tells ["self"] []
  y_Call_tells : PySem.W.isFn K (.ref Z.f_Call_tells) = true
  F_Call_names : Fun K "names" "Call.names" s_Call_names Z.f_Call_names Z.fd_Call_names
  b_Call_names : Binds K Z.fd_Call_names ["self"] []
  y_Call_names : PySem.W.isFn K (.ref Z.f_Call_names) = true
  F_Call_is_call : Fun K "is_call" "Call.is_call" s_Call_is_call Z.f_Call_is_call Z.fd_Call_is_call
  b_Call_is_call : Binds K Z.fd_Call_is_call ["self"] []
  y_Call_is_call : PySem.W.isFn K (.ref Z.f_Call_is_call) = true
  F_are_pointed : Fun K "are_pointed" "are_pointed" s_are_pointed Z.f_are_pointed Z.fd_are_pointed
  b_are_pointed : Binds K Z.fd_are_pointed ["thing", "least"] []
  g_are_pointed : mg "are_pointed" = some (.ref Z.f_are_pointed)
  F_is_valued : Fun K "is_valued" "is_valued" s_is_valued Z.f_is_valued Z.fd_is_valued
  b_is_valued : Binds K Z.fd_is_valued ["row"] []
  g_is_valued : mg "is_valued" = some (.ref Z.f_is_valued)
  F_plain_of : Fun K "plain_of" "plain_of" s_plain_of Z.f_plain_of Z.fd_plain_of
  b_plain_of : Binds K Z.fd_plain_of ["row"] []
  g_plain_of : mg "plain_of" = some (.ref Z.f_plain_of)
  F_valued_of : Fun K "valued_of" "valued_of" s_valued_of Z.f_valued_of Z.fd_valued_of
  b_valued_of : Binds K Z.fd_valued_of ["row"] []
  g_valued_of : mg "valued_of" = some (.ref Z.f_valued_of)
  F_call_of : Fun K "call_of" "call_of" s_call_of Z.f_call_of Z.fd_call_of
  b_call_of : Binds K Z.fd_call_of ["row"] []
  g_call_of : mg "call_of" = some (.ref Z.f_call_of)
  F_made_of : Fun K "made_of" "made_of" s_made_of Z.f_made_of Z.fd_made_of
  b_made_of : Binds K Z.fd_made_of ["row"] []
  g_made_of : mg "made_of" = some (.ref Z.f_made_of)
  F_equation_of : Fun K "equation_of" "equation_of" s_equation_of Z.f_equation_of Z.fd_equation_of
  b_equation_of : Binds K Z.fd_equation_of ["told"] []
  g_equation_of : mg "equation_of" = some (.ref Z.f_equation_of)
  F_need_names : Fun K "need_names" "need_names" s_need_names Z.f_need_names Z.fd_need_names
  b_need_names : Binds K Z.fd_need_names ["things"] []
  g_need_names : mg "need_names" = some (.ref Z.f_need_names)
  F_equations_of : Fun K "equations_of" "equations_of" s_equations_of Z.f_equations_of Z.fd_equations_of
  b_equations_of : Binds K Z.fd_equations_of ["rows"] []
  g_equations_of : mg "equations_of" = some (.ref Z.f_equations_of)
  F_Node_init : Fun K "__init__" "Node.__init__" s_Node_init Z.f_Node_init Z.fd_Node_init
  b_Node_init : Binds K Z.fd_Node_init ["self", "name", "inputs", "outs", "rows"] []
  y_Node_init : PySem.W.isFn K (.ref Z.f_Node_init) = true
  F_Node_take_tellers : Fun K "take_tellers" "Node.take_tellers" s_Node_take_tellers Z.f_Node_take_tellers Z.fd_Node_take_tellers
  b_Node_take_tellers : Binds K Z.fd_Node_take_tellers ["self"] []
  y_Node_take_tellers : PySem.W.isFn K (.ref Z.f_Node_take_tellers) = true
  F_Node_need_told : Fun K "need_told" "Node.need_told" s_Node_need_told Z.f_Node_need_told Z.fd_Node_need_told
  b_Node_need_told : Binds K Z.fd_Node_need_told ["self"] []
  y_Node_need_told : PySem.W.isFn K (.ref Z.f_Node_need_told) = true
  F_Node_inputs : Fun K "inputs" "Node.inputs" s_Node_inputs Z.f_Node_inputs Z.fd_Node_inputs
  b_Node_inputs : Binds K Z.fd_Node_inputs ["self"] []
  y_Node_inputs : PySem.W.isFn K (.ref Z.f_Node_inputs) = true
  F_Node_outs : Fun K "outs" "Node.outs" s_Node_outs Z.f_Node_outs Z.fd_Node_outs
  b_Node_outs : Binds K Z.fd_Node_outs ["self"] []
  y_Node_outs : PySem.W.isFn K (.ref Z.f_Node_outs) = true
  F_Node_rows : Fun K "rows" "Node.rows" s_Node_rows Z.f_Node_rows Z.fd_Node_rows
  b_Node_rows : Binds K Z.fd_Node_rows ["self"] []
  y_Node_rows : PySem.W.isFn K (.ref Z.f_Node_rows) = true
  F_Node_names : Fun K "names" "Node.names" s_Node_names Z.f_Node_names Z.fd_Node_names
  b_Node_names : Binds K Z.fd_Node_names ["self"] []
  y_Node_names : PySem.W.isFn K (.ref Z.f_Node_names) = true
  F_Node_teller : Fun K "teller" "Node.teller" s_Node_teller Z.f_Node_teller Z.fd_Node_teller
  b_Node_teller : Binds K Z.fd_Node_teller ["self", "name"] []
  y_Node_teller : PySem.W.isFn K (.ref Z.f_Node_teller) = true
  F_Node_has_calls : Fun K "has_calls" "Node.has_calls" s_Node_has_calls Z.f_Node_has_calls Z.fd_Node_has_calls
  b_Node_has_calls : Binds K Z.fd_Node_has_calls ["self"] []
  y_Node_has_calls : PySem.W.isFn K (.ref Z.f_Node_has_calls) = true
  F_Node_told : Fun K "told" "Node.told" s_Node_told Z.f_Node_told Z.fd_Node_told
  b_Node_told : Binds K Z.fd_Node_told ["self"] []
  y_Node_told : PySem.W.isFn K (.ref Z.f_Node_told) = true
  F_node_of : Fun K "node_of" "node_of" s_node_of Z.f_node_of Z.fd_node_of
  b_node_of : Binds K Z.fd_node_of ["told"] []
  g_node_of : mg "node_of" = some (.ref Z.f_node_of)
  F_same_node : Fun K "same_node" "same_node" s_same_node Z.f_same_node Z.fd_same_node
  b_same_node : Binds K Z.fd_same_node ["one", "other"] []
  g_same_node : mg "same_node" = some (.ref Z.f_same_node)
  F_cell_at_l : Fun K "_law_cell_at" "_law_cell_at" s_cell_at_l Z.f_cell_at_l Z.fd_cell_at_l
  b_cell_at_l : Binds K Z.fd_cell_at_l ["_law_script", "_law_k"] []
  g_cell_at_l : mg "_law_cell_at" = some (.ref Z.f_cell_at_l)
  F_box_l : Fun K "_law_box" "_law_box" s_box_l Z.f_box_l Z.fd_box_l
  b_box_l : Binds K Z.fd_box_l ["_law_cell"] []
  g_box_l : mg "_law_box" = some (.ref Z.f_box_l)
  F_take_l : Fun K "_law_take" "_law_take" s_take_l Z.f_take_l Z.fd_take_l
  b_take_l : Binds K Z.fd_take_l ["_law_box_here", "_law_many"] []
  g_take_l : mg "_law_take" = some (.ref Z.f_take_l)
  F_names_l : Fun K "_law_names" "_law_names" s_names_l Z.f_names_l Z.fd_names_l
  b_names_l : Binds K Z.fd_names_l ["_law_box_here", "_law_many"] []
  g_names_l : mg "_law_names" = some (.ref Z.f_names_l)
  F_value_l : Fun K "_law_value" "_law_value" s_value_l Z.f_value_l Z.fd_value_l
  b_value_l : Binds K Z.fd_value_l ["_law_box_here"] []
  g_value_l : mg "_law_value" = some (.ref Z.f_value_l)
  F_term_l : Fun K "_law_term" "_law_term" s_term_l Z.f_term_l Z.fd_term_l
  b_term_l : Binds K Z.fd_term_l ["_law_box_here", "_law_names_here", "_law_levels"] []
  g_term_l : mg "_law_term" = some (.ref Z.f_term_l)
  F_row_l : Fun K "_law_row" "_law_row" s_row_l Z.f_row_l Z.fd_row_l
  b_row_l : Binds K Z.fd_row_l ["_law_box_here", "_law_told_here", "_law_names_here"] []
  g_row_l : mg "_law_row" = some (.ref Z.f_row_l)
  F_term_names_l : Fun K "_law_term_names" "_law_term_names" s_term_names_l Z.f_term_names_l Z.fd_term_names_l
  b_term_names_l : Binds K Z.fd_term_names_l ["_law_term_here"] []
  g_term_names_l : mg "_law_term_names" = some (.ref Z.f_term_names_l)
  F_once_l : Fun K "_law_once" "_law_once" s_once_l Z.f_once_l Z.fd_once_l
  b_once_l : Binds K Z.fd_once_l ["_law_names_here"] []
  g_once_l : mg "_law_once" = some (.ref Z.f_once_l)
  F_mentions_l : Fun K "_law_mentions" "_law_mentions" s_mentions_l Z.f_mentions_l Z.fd_mentions_l
  b_mentions_l : Binds K Z.fd_mentions_l ["_law_row_here"] []
  g_mentions_l : mg "_law_mentions" = some (.ref Z.f_mentions_l)
  F_tells_l : Fun K "_law_tells" "_law_tells" s_tells_l Z.f_tells_l Z.fd_tells_l
  b_tells_l : Binds K Z.fd_tells_l ["_law_row_here"] []
  g_tells_l : mg "_law_tells" = some (.ref Z.f_tells_l)
  F_read_row_l : Fun K "_law_read_row" "_law_read_row" s_read_row_l Z.f_read_row_l Z.fd_read_row_l
  b_read_row_l : Binds K Z.fd_read_row_l ["_law_box_here", "_law_told_here", "_law_names_here"] []
  g_read_row_l : mg "_law_read_row" = some (.ref Z.f_read_row_l)
  F_node_l : Fun K "_law_node" "_law_node" s_node_l Z.f_node_l Z.fd_node_l
  b_node_l : Binds K Z.fd_node_l ["_law_box_here", "_law_names_here"] []
  g_node_l : mg "_law_node" = some (.ref Z.f_node_l)
  F_told_names_l : Fun K "_law_told_names" "_law_told_names" s_told_names_l Z.f_told_names_l Z.fd_told_names_l
  b_told_names_l : Binds K Z.fd_told_names_l ["_law_rows"] []
  g_told_names_l : mg "_law_told_names" = some (.ref Z.f_told_names_l)
  F_due_l : Fun K "_law_due" "_law_due" s_due_l Z.f_due_l Z.fd_due_l
  b_due_l : Binds K Z.fd_due_l ["_law_node_here"] []
  g_due_l : mg "_law_due" = some (.ref Z.f_due_l)
  F_told_l : Fun K "_law_told" "_law_told" s_told_l Z.f_told_l Z.fd_told_l
  b_told_l : Binds K Z.fd_told_l ["_law_equation"] []
  g_told_l : mg "_law_told" = some (.ref Z.f_told_l)
  F_right_l : Fun K "_law_right" "_law_right" s_right_l Z.f_right_l Z.fd_right_l
  b_right_l : Binds K Z.fd_right_l ["_law_found", "_law_node_here"] []
  g_right_l : mg "_law_right" = some (.ref Z.f_right_l)
  F_unknown_l : Fun K "_law_unknown" "_law_unknown" s_unknown_l Z.f_unknown_l Z.fd_unknown_l
  b_unknown_l : Binds K Z.fd_unknown_l ["_law_node_here", "_law_thing"] []
  g_unknown_l : mg "_law_unknown" = some (.ref Z.f_unknown_l)
  F_made_l : Fun K "_law_made" "_law_made" s_made_l Z.f_made_l Z.fd_made_l
  b_made_l : Binds K Z.fd_made_l ["_law_box_here", "_law_node_here"] []
  g_made_l : mg "_law_made" = some (.ref Z.f_made_l)
  F_changed_l : Fun K "_law_changed" "_law_changed" s_changed_l Z.f_changed_l Z.fd_changed_l
  b_changed_l : Binds K Z.fd_changed_l ["_law_found"] []
  g_changed_l : mg "_law_changed" = some (.ref Z.f_changed_l)
  F_alike_l : Fun K "_law_alike" "_law_alike" s_alike_l Z.f_alike_l Z.fd_alike_l
  b_alike_l : Binds K Z.fd_alike_l ["_law_one", "_law_other", "_law_due_here"] []
  g_alike_l : mg "_law_alike" = some (.ref Z.f_alike_l)
  F_law : Fun K "law" "law" s_law Z.f_law Z.fd_law
  b_law : Binds K Z.fd_law ["_law_script"] []
  g_law : mg "law" = some (.ref Z.f_law)
  m_BeatError : mg "BeatError" = some (.ref Z.c_BeatError)
  q_BeatError : baseB K Z.c_BeatError = true
  e_BeatError : PySem.W.excIn K Z.c_BeatError [.type "ValueError", .type "Exception", .type "BaseException", .type "object"] "ValueError.__new__" = true
  k_BeatError : PySem.W.keepIn K (.ref Z.c_BeatError) = true
  w_BeatError : icB K Z.c_BeatError = true
  m_NoName : mg "NoName" = some (.ref Z.c_NoName)
  x_NoName : exB K Z.c_NoName ["found"] = true
  i_NoName : PySem.W.findIn K (.ref Z.c_NoName) "__init__" = some (some (.ref Z.f_NoName_init))
  y_NoName : PySem.W.typeIn K (.ref Z.f_NoName_init) = some (.type "function")
  m_Unknown : mg "Unknown" = some (.ref Z.c_Unknown)
  x_Unknown : exB K Z.c_Unknown ["name"] = true
  i_Unknown : PySem.W.findIn K (.ref Z.c_Unknown) "__init__" = some (some (.ref Z.f_Unknown_init))
  y_Unknown : PySem.W.typeIn K (.ref Z.f_Unknown_init) = some (.type "function")
  m_Term : mg "Term" = some (.ref Z.c_Term)
  m_Name : mg "Name" = some (.ref Z.c_Name)
  x_Name : tcB K Z.c_Name ["name"] = true
  i_Name : PySem.W.findIn K (.ref Z.c_Name) "__init__" = some (some (.ref Z.f_Name_init))
  h_parts_Name : PySem.W.findIn K (.ref Z.c_Name) "parts" = some (some (.ref Z.f_Term_parts))
  h_names_Name : PySem.W.findIn K (.ref Z.c_Name) "names" = some (some (.ref Z.f_Name_names))
  h_levels_Name : PySem.W.findIn K (.ref Z.c_Name) "levels" = some (some (.ref Z.f_Term_levels))
  h_told_Name : PySem.W.findIn K (.ref Z.c_Name) "told" = some (some (.ref Z.f_Name_told))
  m_Value : mg "Value" = some (.ref Z.c_Value)
  x_Value : tcB K Z.c_Value ["amount"] = true
  i_Value : PySem.W.findIn K (.ref Z.c_Value) "__init__" = some (some (.ref Z.f_Value_init))
  h_parts_Value : PySem.W.findIn K (.ref Z.c_Value) "parts" = some (some (.ref Z.f_Term_parts))
  h_names_Value : PySem.W.findIn K (.ref Z.c_Value) "names" = some (some (.ref Z.f_Term_names))
  h_levels_Value : PySem.W.findIn K (.ref Z.c_Value) "levels" = some (some (.ref Z.f_Term_levels))
  h_told_Value : PySem.W.findIn K (.ref Z.c_Value) "told" = some (some (.ref Z.f_Value_told))
  m_Two : mg "Two" = some (.ref Z.c_Two)
  x_Two : tcB K Z.c_Two ["op", "one", "second"] = true
  i_Two : PySem.W.findIn K (.ref Z.c_Two) "__init__" = some (some (.ref Z.f_Two_init))
  h_parts_Two : PySem.W.findIn K (.ref Z.c_Two) "parts" = some (some (.ref Z.f_Two_parts))
  h_names_Two : PySem.W.findIn K (.ref Z.c_Two) "names" = some (some (.ref Z.f_Term_names))
  h_levels_Two : PySem.W.findIn K (.ref Z.c_Two) "levels" = some (some (.ref Z.f_Term_levels))
  h_told_Two : PySem.W.findIn K (.ref Z.c_Two) "told" = some (some (.ref Z.f_Two_told))
  m_Not : mg "Not" = some (.ref Z.c_Not)
  x_Not : tcB K Z.c_Not ["one"] = true
  i_Not : PySem.W.findIn K (.ref Z.c_Not) "__init__" = some (some (.ref Z.f_Not_init))
  h_parts_Not : PySem.W.findIn K (.ref Z.c_Not) "parts" = some (some (.ref Z.f_Not_parts))
  h_names_Not : PySem.W.findIn K (.ref Z.c_Not) "names" = some (some (.ref Z.f_Term_names))
  h_levels_Not : PySem.W.findIn K (.ref Z.c_Not) "levels" = some (some (.ref Z.f_Term_levels))
  h_told_Not : PySem.W.findIn K (.ref Z.c_Not) "told" = some (some (.ref Z.f_Not_told))
  m_Pick : mg "Pick" = some (.ref Z.c_Pick)
  x_Pick : tcB K Z.c_Pick ["by", "one", "second"] = true
  i_Pick : PySem.W.findIn K (.ref Z.c_Pick) "__init__" = some (some (.ref Z.f_Pick_init))
  h_parts_Pick : PySem.W.findIn K (.ref Z.c_Pick) "parts" = some (some (.ref Z.f_Pick_parts))
  h_names_Pick : PySem.W.findIn K (.ref Z.c_Pick) "names" = some (some (.ref Z.f_Term_names))
  h_levels_Pick : PySem.W.findIn K (.ref Z.c_Pick) "levels" = some (some (.ref Z.f_Term_levels))
  h_told_Pick : PySem.W.findIn K (.ref Z.c_Pick) "told" = some (some (.ref Z.f_Pick_told))
  m_Equation : mg "Equation" = some (.ref Z.c_Equation)
  x_Equation : tcB K Z.c_Equation ["told_row"] = true
  i_Equation : PySem.W.findIn K (.ref Z.c_Equation) "__init__" = some (some (.ref Z.f_Equation_init))
  h_names_Equation : PySem.W.findIn K (.ref Z.c_Equation) "names" = some (some (.ref Z.f_Equation_names))
  h_told_Equation : PySem.W.findIn K (.ref Z.c_Equation) "told" = some (some (.ref Z.f_Equation_told))
  h_tells_Equation : PySem.W.findIn K (.ref Z.c_Equation) "tells" = some (some (.ref Z.f_Equation_tells))
  h_term_Equation : PySem.W.findIn K (.ref Z.c_Equation) "term" = some (some (.ref Z.f_Equation_term))
  h_is_call_Equation : PySem.W.findIn K (.ref Z.c_Equation) "is_call" = some (some (.ref Z.f_Equation_is_call))
  m_Plain : mg "Plain" = some (.ref Z.c_Plain)
  x_Plain : tcB K Z.c_Plain ["told_row", "kept_term"] = true
  i_Plain : PySem.W.findIn K (.ref Z.c_Plain) "__init__" = some (some (.ref Z.f_Plain_init))
  h_names_Plain : PySem.W.findIn K (.ref Z.c_Plain) "names" = some (some (.ref Z.f_Plain_names))
  h_told_Plain : PySem.W.findIn K (.ref Z.c_Plain) "told" = some (some (.ref Z.f_Equation_told))
  h_tells_Plain : PySem.W.findIn K (.ref Z.c_Plain) "tells" = some (some (.ref Z.f_Equation_tells))
  h_term_Plain : PySem.W.findIn K (.ref Z.c_Plain) "term" = some (some (.ref Z.f_Plain_term))
  h_is_call_Plain : PySem.W.findIn K (.ref Z.c_Plain) "is_call" = some (some (.ref Z.f_Equation_is_call))
  m_Before : mg "Before" = some (.ref Z.c_Before)
  x_Before : tcB K Z.c_Before ["told_row"] = true
  i_Before : PySem.W.findIn K (.ref Z.c_Before) "__init__" = some (some (.ref Z.f_Equation_init))
  h_names_Before : PySem.W.findIn K (.ref Z.c_Before) "names" = some (some (.ref Z.f_Equation_names))
  h_told_Before : PySem.W.findIn K (.ref Z.c_Before) "told" = some (some (.ref Z.f_Equation_told))
  h_tells_Before : PySem.W.findIn K (.ref Z.c_Before) "tells" = some (some (.ref Z.f_Equation_tells))
  h_term_Before : PySem.W.findIn K (.ref Z.c_Before) "term" = some (some (.ref Z.f_Equation_term))
  h_is_call_Before : PySem.W.findIn K (.ref Z.c_Before) "is_call" = some (some (.ref Z.f_Equation_is_call))
  m_When : mg "When" = some (.ref Z.c_When)
  x_When : tcB K Z.c_When ["told_row"] = true
  i_When : PySem.W.findIn K (.ref Z.c_When) "__init__" = some (some (.ref Z.f_Equation_init))
  h_names_When : PySem.W.findIn K (.ref Z.c_When) "names" = some (some (.ref Z.f_When_names))
  h_told_When : PySem.W.findIn K (.ref Z.c_When) "told" = some (some (.ref Z.f_Equation_told))
  h_tells_When : PySem.W.findIn K (.ref Z.c_When) "tells" = some (some (.ref Z.f_Equation_tells))
  h_term_When : PySem.W.findIn K (.ref Z.c_When) "term" = some (some (.ref Z.f_Equation_term))
  h_is_call_When : PySem.W.findIn K (.ref Z.c_When) "is_call" = some (some (.ref Z.f_Equation_is_call))
  m_Hold : mg "Hold" = some (.ref Z.c_Hold)
  x_Hold : tcB K Z.c_Hold ["told_row"] = true
  i_Hold : PySem.W.findIn K (.ref Z.c_Hold) "__init__" = some (some (.ref Z.f_Equation_init))
  h_names_Hold : PySem.W.findIn K (.ref Z.c_Hold) "names" = some (some (.ref Z.f_Equation_names))
  h_told_Hold : PySem.W.findIn K (.ref Z.c_Hold) "told" = some (some (.ref Z.f_Equation_told))
  h_tells_Hold : PySem.W.findIn K (.ref Z.c_Hold) "tells" = some (some (.ref Z.f_Equation_tells))
  h_term_Hold : PySem.W.findIn K (.ref Z.c_Hold) "term" = some (some (.ref Z.f_Equation_term))
  h_is_call_Hold : PySem.W.findIn K (.ref Z.c_Hold) "is_call" = some (some (.ref Z.f_Equation_is_call))
  m_Like : mg "Like" = some (.ref Z.c_Like)
  x_Like : tcB K Z.c_Like ["told_row"] = true
  i_Like : PySem.W.findIn K (.ref Z.c_Like) "__init__" = some (some (.ref Z.f_Equation_init))
  h_names_Like : PySem.W.findIn K (.ref Z.c_Like) "names" = some (some (.ref Z.f_Equation_names))
  h_told_Like : PySem.W.findIn K (.ref Z.c_Like) "told" = some (some (.ref Z.f_Equation_told))
  h_tells_Like : PySem.W.findIn K (.ref Z.c_Like) "tells" = some (some (.ref Z.f_Equation_tells))
  h_term_Like : PySem.W.findIn K (.ref Z.c_Like) "term" = some (some (.ref Z.f_Equation_term))
  h_is_call_Like : PySem.W.findIn K (.ref Z.c_Like) "is_call" = some (some (.ref Z.f_Equation_is_call))
  m_Same : mg "Same" = some (.ref Z.c_Same)
  x_Same : tcB K Z.c_Same ["told_row"] = true
  i_Same : PySem.W.findIn K (.ref Z.c_Same) "__init__" = some (some (.ref Z.f_Equation_init))
  h_names_Same : PySem.W.findIn K (.ref Z.c_Same) "names" = some (some (.ref Z.f_Same_names))
  h_told_Same : PySem.W.findIn K (.ref Z.c_Same) "told" = some (some (.ref Z.f_Equation_told))
  h_tells_Same : PySem.W.findIn K (.ref Z.c_Same) "tells" = some (some (.ref Z.f_Same_tells))
  h_term_Same : PySem.W.findIn K (.ref Z.c_Same) "term" = some (some (.ref Z.f_Equation_term))
  h_is_call_Same : PySem.W.findIn K (.ref Z.c_Same) "is_call" = some (some (.ref Z.f_Equation_is_call))
  m_Call : mg "Call" = some (.ref Z.c_Call)
  x_Call : tcB K Z.c_Call ["told_row"] = true
  i_Call : PySem.W.findIn K (.ref Z.c_Call) "__init__" = some (some (.ref Z.f_Equation_init))
  h_names_Call : PySem.W.findIn K (.ref Z.c_Call) "names" = some (some (.ref Z.f_Call_names))
  h_told_Call : PySem.W.findIn K (.ref Z.c_Call) "told" = some (some (.ref Z.f_Equation_told))
  h_tells_Call : PySem.W.findIn K (.ref Z.c_Call) "tells" = some (some (.ref Z.f_Call_tells))
  h_term_Call : PySem.W.findIn K (.ref Z.c_Call) "term" = some (some (.ref Z.f_Equation_term))
  h_is_call_Call : PySem.W.findIn K (.ref Z.c_Call) "is_call" = some (some (.ref Z.f_Call_is_call))
  m_Node : mg "Node" = some (.ref Z.c_Node)
  x_Node : tcB K Z.c_Node ["name", "kept_inputs", "kept_outs", "kept_rows", "tellers"] = true
  i_Node : PySem.W.findIn K (.ref Z.c_Node) "__init__" = some (some (.ref Z.f_Node_init))
  h_names_Node : PySem.W.findIn K (.ref Z.c_Node) "names" = some (some (.ref Z.f_Node_names))
  h_told_Node : PySem.W.findIn K (.ref Z.c_Node) "told" = some (some (.ref Z.f_Node_told))
  h_take_tellers_Node : PySem.W.findIn K (.ref Z.c_Node) "take_tellers" = some (some (.ref Z.f_Node_take_tellers))
  h_need_told_Node : PySem.W.findIn K (.ref Z.c_Node) "need_told" = some (some (.ref Z.f_Node_need_told))
  h_inputs_Node : PySem.W.findIn K (.ref Z.c_Node) "inputs" = some (some (.ref Z.f_Node_inputs))
  h_outs_Node : PySem.W.findIn K (.ref Z.c_Node) "outs" = some (some (.ref Z.f_Node_outs))
  h_rows_Node : PySem.W.findIn K (.ref Z.c_Node) "rows" = some (some (.ref Z.f_Node_rows))
  h_teller_Node : PySem.W.findIn K (.ref Z.c_Node) "teller" = some (some (.ref Z.f_Node_teller))
  h_has_calls_Node : PySem.W.findIn K (.ref Z.c_Node) "has_calls" = some (some (.ref Z.f_Node_has_calls))
  fact_dif : difB [Z.c_Name, Z.c_Value, Z.c_Two, Z.c_Not, Z.c_Pick] = true
  fact_is_Name : subB K Z.c_Name Z.c_Term = true
  fact_is_Value : subB K Z.c_Value Z.c_Term = true
  fact_is_Two : subB K Z.c_Two Z.c_Term = true
  fact_is_Not : subB K Z.c_Not Z.c_Term = true
  fact_is_Pick : subB K Z.c_Pick Z.c_Term = true
  fact_difT : difB [Z.c_Plain, Z.c_Name, Z.c_Value, Z.c_Two, Z.c_Not, Z.c_Pick] = true
  fact_difE : difB [Z.c_Plain, Z.c_Before, Z.c_Hold, Z.c_Like, Z.c_When, Z.c_Same, Z.c_Call] = true
  fact_kitE : kitTab K [Z.c_Plain, Z.c_Before, Z.c_Hold, Z.c_Like, Z.c_When, Z.c_Same, Z.c_Call] Z.c_Equation = true
  fact_cm_Equation : cmB K Z.c_Equation Z.f_Equation_init "__init__" = true
  fact_difN1 : difB [Z.c_Node, Z.c_Name, Z.c_Value, Z.c_Two, Z.c_Not, Z.c_Pick] = true
  fact_difN2 : difB [Z.c_Node, Z.c_Plain, Z.c_Before, Z.c_Hold, Z.c_Like, Z.c_When, Z.c_Same, Z.c_Call] = true
  fact_kitUN : PySem.W.kitOne K (.ref Z.c_Unknown) (.ref Z.c_NoName) = some false
  fact_kitUB : PySem.W.kitOne K (.ref Z.c_Unknown) (.ref Z.c_BeatError) = some true
  fact_exmU : PySem.W.exmOne K (.ref Z.c_Unknown) (.ref Z.c_Unknown) = some true
  n_all : mg "all" = none
  n_any : mg "any" = none
  n_bool : mg "bool" = none
  n_int : mg "int" = none
  n_isinstance : mg "isinstance" = none
  n_len : mg "len" = none
  n_list : mg "list" = none
  n_max : mg "max" = none
  n_min : mg "min" = none
  n_range : mg "range" = none
  n_repr : mg "repr" = none
  n_str : mg "str" = none
  n_tuple : mg "tuple" = none
  c_LETTERS : ∃ u, mg "LETTERS" = some u ∧ RelV (.str "abcdefghijklmnopqrstuvwxyz") u
  c_LONGEST : ∃ u, mg "LONGEST" = some u ∧ RelV (.int 8) u
  c_MOST : ∃ u, mg "MOST" = some u ∧ RelV (.int 1000000000) u
  c_MOST_LEVELS : ∃ u, mg "MOST_LEVELS" = some u ∧ RelV (.int 5) u
  c_MOST_SIGNS : ∃ u, mg "MOST_SIGNS" = some u ∧ RelV (.int 80) u
  c_OPS : ∃ u, mg "OPS" = some u ∧ RelV (.ref Z.a_OPS) u
  t_OPS : ∀ H, SqT K H Z.a_OPS [.str "+", .str "-", .str "*", .str "/", .str "mod", .str "<", .str "=", .str "&", .str "|"]
  c_OWN : ∃ u, mg "OWN" = some u ∧ RelV (.ref Z.a_OWN) u
  t_OWN : ∀ H, SqT K H Z.a_OWN [.str "node", .str "in", .str "out", .str "before", .str "when", .str "hold", .str "like", .str "same", .str "call", .str "true", .str "false", .str "mod", .str "beat", .str "desk"]
  c_TOLD_THINGS : ∃ u, mg "TOLD_THINGS" = some u ∧ RelV (.int 4) u
abbrev N_NoName_init : List Str := ["self", "found"]
theorem sc_NoName_init : FnScope N_NoName_init ["self", "found"] (defScope s_NoName_init) := ⟨rfl, rfl, rfl, by decide +kernel, rfl, by decide +kernel, by decide +kernel⟩
abbrev N_Unknown_init : List Str := ["self", "name"]
theorem sc_Unknown_init : FnScope N_Unknown_init ["self", "name"] (defScope s_Unknown_init) := ⟨rfl, rfl, rfl, by decide +kernel, rfl, by decide +kernel, by decide +kernel⟩
abbrev N_is_whole : List Str := ["thing"]
theorem sc_is_whole : FnScope N_is_whole ["thing"] (defScope s_is_whole) := ⟨rfl, rfl, rfl, by decide +kernel, rfl, by decide +kernel, by decide +kernel⟩
abbrev N_is_within : List Str := ["thing", "low", "high"]
theorem sc_is_within : FnScope N_is_within ["thing", "low", "high"] (defScope s_is_within) := ⟨rfl, rfl, rfl, by decide +kernel, rfl, by decide +kernel, by decide +kernel⟩
abbrev N_is_name : List Str := ["thing", "sign"]
theorem sc_is_name : FnScope N_is_name ["thing"] (defScope s_is_name) := ⟨rfl, rfl, rfl, by decide +kernel, rfl, by decide +kernel, by decide +kernel⟩
abbrev N_is_pointed : List Str := ["thing", "part"]
theorem sc_is_pointed : FnScope N_is_pointed ["thing"] (defScope s_is_pointed) := ⟨rfl, rfl, rfl, by decide +kernel, rfl, by decide +kernel, by decide +kernel⟩
abbrev N_is_value : List Str := ["thing"]
theorem sc_is_value : FnScope N_is_value ["thing"] (defScope s_is_value) := ⟨rfl, rfl, rfl, by decide +kernel, rfl, by decide +kernel, by decide +kernel⟩
abbrev N_ops_told : List Str := []
theorem sc_ops_told : FnScope N_ops_told [] (defScope s_ops_told) := ⟨rfl, rfl, rfl, by decide +kernel, rfl, by decide +kernel, by decide +kernel⟩
abbrev N_Term_parts : List Str := ["self"]
theorem sc_Term_parts : FnScope N_Term_parts ["self"] (defScope s_Term_parts) := ⟨rfl, rfl, rfl, by decide +kernel, rfl, by decide +kernel, by decide +kernel⟩
abbrev N_Term_names : List Str := ["self", "found", "part", "name"]
theorem sc_Term_names : FnScope N_Term_names ["self"] (defScope s_Term_names) := ⟨rfl, rfl, rfl, by decide +kernel, rfl, by decide +kernel, by decide +kernel⟩
abbrev N_Term_levels : List Str := ["self", "part"]
theorem sc_Term_levels : FnScope N_Term_levels ["self"] (defScope s_Term_levels) := ⟨rfl, rfl, rfl, by decide +kernel, rfl, by decide +kernel, by decide +kernel⟩
abbrev N_need_term : List Str := ["thing"]
theorem sc_need_term : FnScope N_need_term ["thing"] (defScope s_need_term) := ⟨rfl, rfl, rfl, by decide +kernel, rfl, by decide +kernel, by decide +kernel⟩
abbrev N_Name_init : List Str := ["self", "name"]
theorem sc_Name_init : FnScope N_Name_init ["self", "name"] (defScope s_Name_init) := ⟨rfl, rfl, rfl, by decide +kernel, rfl, by decide +kernel, by decide +kernel⟩
abbrev N_Name_names : List Str := ["self"]
theorem sc_Name_names : FnScope N_Name_names ["self"] (defScope s_Name_names) := ⟨rfl, rfl, rfl, by decide +kernel, rfl, by decide +kernel, by decide +kernel⟩
abbrev N_Name_told : List Str := ["self"]
theorem sc_Name_told : FnScope N_Name_told ["self"] (defScope s_Name_told) := ⟨rfl, rfl, rfl, by decide +kernel, rfl, by decide +kernel, by decide +kernel⟩
abbrev N_Value_init : List Str := ["self", "value"]
theorem sc_Value_init : FnScope N_Value_init ["self", "value"] (defScope s_Value_init) := ⟨rfl, rfl, rfl, by decide +kernel, rfl, by decide +kernel, by decide +kernel⟩
abbrev N_Value_told : List Str := ["self"]
theorem sc_Value_told : FnScope N_Value_told ["self"] (defScope s_Value_told) := ⟨rfl, rfl, rfl, by decide +kernel, rfl, by decide +kernel, by decide +kernel⟩
abbrev N_Two_init : List Str := ["self", "op", "one", "other"]
theorem sc_Two_init : FnScope N_Two_init ["self", "op", "one", "other"] (defScope s_Two_init) := ⟨rfl, rfl, rfl, by decide +kernel, rfl, by decide +kernel, by decide +kernel⟩
abbrev N_Two_parts : List Str := ["self"]
theorem sc_Two_parts : FnScope N_Two_parts ["self"] (defScope s_Two_parts) := ⟨rfl, rfl, rfl, by decide +kernel, rfl, by decide +kernel, by decide +kernel⟩
abbrev N_Two_told : List Str := ["self"]
theorem sc_Two_told : FnScope N_Two_told ["self"] (defScope s_Two_told) := ⟨rfl, rfl, rfl, by decide +kernel, rfl, by decide +kernel, by decide +kernel⟩
abbrev N_Not_init : List Str := ["self", "one"]
theorem sc_Not_init : FnScope N_Not_init ["self", "one"] (defScope s_Not_init) := ⟨rfl, rfl, rfl, by decide +kernel, rfl, by decide +kernel, by decide +kernel⟩
abbrev N_Not_parts : List Str := ["self"]
theorem sc_Not_parts : FnScope N_Not_parts ["self"] (defScope s_Not_parts) := ⟨rfl, rfl, rfl, by decide +kernel, rfl, by decide +kernel, by decide +kernel⟩
abbrev N_Not_told : List Str := ["self"]
theorem sc_Not_told : FnScope N_Not_told ["self"] (defScope s_Not_told) := ⟨rfl, rfl, rfl, by decide +kernel, rfl, by decide +kernel, by decide +kernel⟩
abbrev N_Pick_init : List Str := ["self", "by", "one", "other"]
theorem sc_Pick_init : FnScope N_Pick_init ["self", "by", "one", "other"] (defScope s_Pick_init) := ⟨rfl, rfl, rfl, by decide +kernel, rfl, by decide +kernel, by decide +kernel⟩
abbrev N_Pick_parts : List Str := ["self"]
theorem sc_Pick_parts : FnScope N_Pick_parts ["self"] (defScope s_Pick_parts) := ⟨rfl, rfl, rfl, by decide +kernel, rfl, by decide +kernel, by decide +kernel⟩
abbrev N_Pick_told : List Str := ["self"]
theorem sc_Pick_told : FnScope N_Pick_told ["self"] (defScope s_Pick_told) := ⟨rfl, rfl, rfl, by decide +kernel, rfl, by decide +kernel, by decide +kernel⟩
abbrev N_simple_of : List Str := ["word", "thing"]
theorem sc_simple_of : FnScope N_simple_of ["word", "thing"] (defScope s_simple_of) := ⟨rfl, rfl, rfl, by decide +kernel, rfl, by decide +kernel, by decide +kernel⟩
abbrev N_made_of_told : List Str := ["told", "left", "word", "first", "parts", "one"]
theorem sc_made_of_told : FnScope N_made_of_told ["told", "left"] (defScope s_made_of_told) := ⟨rfl, rfl, rfl, by decide +kernel, rfl, by decide +kernel, by decide +kernel⟩
abbrev N_term_of : List Str := ["told", "found"]
theorem sc_term_of : FnScope N_term_of ["told"] (defScope s_term_of) := ⟨rfl, rfl, rfl, by decide +kernel, rfl, by decide +kernel, by decide +kernel⟩
abbrev N_each_once : List Str := ["names", "found", "name"]
theorem sc_each_once : FnScope N_each_once ["names"] (defScope s_each_once) := ⟨rfl, rfl, rfl, by decide +kernel, rfl, by decide +kernel, by decide +kernel⟩
abbrev N_Equation_init : List Str := ["self", "row"]
theorem sc_Equation_init : FnScope N_Equation_init ["self", "row"] (defScope s_Equation_init) := ⟨rfl, rfl, rfl, by decide +kernel, rfl, by decide +kernel, by decide +kernel⟩
abbrev N_Equation_told : List Str := ["self"]
theorem sc_Equation_told : FnScope N_Equation_told ["self"] (defScope s_Equation_told) := ⟨rfl, rfl, rfl, by decide +kernel, rfl, by decide +kernel, by decide +kernel⟩
abbrev N_Equation_tells : List Str := ["self"]
theorem sc_Equation_tells : FnScope N_Equation_tells ["self"] (defScope s_Equation_tells) := ⟨rfl, rfl, rfl, by decide +kernel, rfl, by decide +kernel, by decide +kernel⟩
abbrev N_Equation_names : List Str := ["self"]
theorem sc_Equation_names : FnScope N_Equation_names ["self"] (defScope s_Equation_names) := ⟨rfl, rfl, rfl, by decide +kernel, rfl, by decide +kernel, by decide +kernel⟩
abbrev N_Equation_term : List Str := ["self"]
theorem sc_Equation_term : FnScope N_Equation_term ["self"] (defScope s_Equation_term) := ⟨rfl, rfl, rfl, by decide +kernel, rfl, by decide +kernel, by decide +kernel⟩
abbrev N_Equation_is_call : List Str := ["self"]
theorem sc_Equation_is_call : FnScope N_Equation_is_call ["self"] (defScope s_Equation_is_call) := ⟨rfl, rfl, rfl, by decide +kernel, rfl, by decide +kernel, by decide +kernel⟩
abbrev N_Plain_init : List Str := ["self", "row"]
theorem sc_Plain_init : FnScope N_Plain_init ["self", "row"] (defScope s_Plain_init) := ⟨rfl, rfl, rfl, by decide +kernel, rfl, by decide +kernel, by decide +kernel⟩
abbrev N_Plain_names : List Str := ["self"]
theorem sc_Plain_names : FnScope N_Plain_names ["self"] (defScope s_Plain_names) := ⟨rfl, rfl, rfl, by decide +kernel, rfl, by decide +kernel, by decide +kernel⟩
abbrev N_Plain_term : List Str := ["self"]
theorem sc_Plain_term : FnScope N_Plain_term ["self"] (defScope s_Plain_term) := ⟨rfl, rfl, rfl, by decide +kernel, rfl, by decide +kernel, by decide +kernel⟩
abbrev N_When_names : List Str := ["self"]
theorem sc_When_names : FnScope N_When_names ["self"] (defScope s_When_names) := ⟨rfl, rfl, rfl, by decide +kernel, rfl, by decide +kernel, by decide +kernel⟩
abbrev N_Same_tells : List Str := ["self"]
theorem sc_Same_tells : FnScope N_Same_tells ["self"] (defScope s_Same_tells) := ⟨rfl, rfl, rfl, by decide +kernel, rfl, by decide +kernel, by decide +kernel⟩
abbrev N_Same_names : List Str := ["self"]
theorem sc_Same_names : FnScope N_Same_names ["self"] (defScope s_Same_names) := ⟨rfl, rfl, rfl, by decide +kernel, rfl, by decide +kernel, by decide +kernel⟩
abbrev N_Call_tells : List Str := ["self"]
theorem sc_Call_tells : FnScope N_Call_tells ["self"] (defScope s_Call_tells) := ⟨rfl, rfl, rfl, by decide +kernel, rfl, by decide +kernel, by decide +kernel⟩
abbrev N_Call_names : List Str := ["self"]
theorem sc_Call_names : FnScope N_Call_names ["self"] (defScope s_Call_names) := ⟨rfl, rfl, rfl, by decide +kernel, rfl, by decide +kernel, by decide +kernel⟩
abbrev N_Call_is_call : List Str := ["self"]
theorem sc_Call_is_call : FnScope N_Call_is_call ["self"] (defScope s_Call_is_call) := ⟨rfl, rfl, rfl, by decide +kernel, rfl, by decide +kernel, by decide +kernel⟩
abbrev N_are_pointed : List Str := ["thing", "least", "name"]
theorem sc_are_pointed : FnScope N_are_pointed ["thing", "least"] (defScope s_are_pointed) := ⟨rfl, rfl, rfl, by decide +kernel, rfl, by decide +kernel, by decide +kernel⟩
abbrev N_is_valued : List Str := ["row"]
theorem sc_is_valued : FnScope N_is_valued ["row"] (defScope s_is_valued) := ⟨rfl, rfl, rfl, by decide +kernel, rfl, by decide +kernel, by decide +kernel⟩
abbrev N_plain_of : List Str := ["row"]
theorem sc_plain_of : FnScope N_plain_of ["row"] (defScope s_plain_of) := ⟨rfl, rfl, rfl, by decide +kernel, rfl, by decide +kernel, by decide +kernel⟩
abbrev N_valued_of : List Str := ["row"]
theorem sc_valued_of : FnScope N_valued_of ["row"] (defScope s_valued_of) := ⟨rfl, rfl, rfl, by decide +kernel, rfl, by decide +kernel, by decide +kernel⟩
abbrev N_call_of : List Str := ["row"]
theorem sc_call_of : FnScope N_call_of ["row"] (defScope s_call_of) := ⟨rfl, rfl, rfl, by decide +kernel, rfl, by decide +kernel, by decide +kernel⟩
abbrev N_made_of : List Str := ["row"]
theorem sc_made_of : FnScope N_made_of ["row"] (defScope s_made_of) := ⟨rfl, rfl, rfl, by decide +kernel, rfl, by decide +kernel, by decide +kernel⟩
abbrev N_equation_of : List Str := ["told", "found"]
theorem sc_equation_of : FnScope N_equation_of ["told"] (defScope s_equation_of) := ⟨rfl, rfl, rfl, by decide +kernel, rfl, by decide +kernel, by decide +kernel⟩
abbrev N_need_names : List Str := ["things", "ahead", "name"]
theorem sc_need_names : FnScope N_need_names ["things"] (defScope s_need_names) := ⟨rfl, rfl, rfl, by decide +kernel, rfl, by decide +kernel, by decide +kernel⟩
abbrev N_equations_of : List Str := ["rows", "found", "row", "equation"]
theorem sc_equations_of : FnScope N_equations_of ["rows"] (defScope s_equations_of) := ⟨rfl, rfl, rfl, by decide +kernel, rfl, by decide +kernel, by decide +kernel⟩
abbrev N_Node_init : List Str := ["self", "name", "inputs", "outs", "rows"]
theorem sc_Node_init : FnScope N_Node_init ["self", "name", "inputs", "outs", "rows"] (defScope s_Node_init) := ⟨rfl, rfl, rfl, by decide +kernel, rfl, by decide +kernel, by decide +kernel⟩
abbrev N_Node_take_tellers : List Str := ["self", "name", "row"]
theorem sc_Node_take_tellers : FnScope N_Node_take_tellers ["self"] (defScope s_Node_take_tellers) := ⟨rfl, rfl, rfl, by decide +kernel, rfl, by decide +kernel, by decide +kernel⟩
abbrev N_Node_need_told : List Str := ["self", "row", "name"]
theorem sc_Node_need_told : FnScope N_Node_need_told ["self"] (defScope s_Node_need_told) := ⟨rfl, rfl, rfl, by decide +kernel, rfl, by decide +kernel, by decide +kernel⟩
abbrev N_Node_inputs : List Str := ["self"]
theorem sc_Node_inputs : FnScope N_Node_inputs ["self"] (defScope s_Node_inputs) := ⟨rfl, rfl, rfl, by decide +kernel, rfl, by decide +kernel, by decide +kernel⟩
abbrev N_Node_outs : List Str := ["self"]
theorem sc_Node_outs : FnScope N_Node_outs ["self"] (defScope s_Node_outs) := ⟨rfl, rfl, rfl, by decide +kernel, rfl, by decide +kernel, by decide +kernel⟩
abbrev N_Node_rows : List Str := ["self"]
theorem sc_Node_rows : FnScope N_Node_rows ["self"] (defScope s_Node_rows) := ⟨rfl, rfl, rfl, by decide +kernel, rfl, by decide +kernel, by decide +kernel⟩
abbrev N_Node_names : List Str := ["self"]
theorem sc_Node_names : FnScope N_Node_names ["self"] (defScope s_Node_names) := ⟨rfl, rfl, rfl, by decide +kernel, rfl, by decide +kernel, by decide +kernel⟩
abbrev N_Node_teller : List Str := ["self", "name"]
theorem sc_Node_teller : FnScope N_Node_teller ["self", "name"] (defScope s_Node_teller) := ⟨rfl, rfl, rfl, by decide +kernel, rfl, by decide +kernel, by decide +kernel⟩
abbrev N_Node_has_calls : List Str := ["self", "row"]
theorem sc_Node_has_calls : FnScope N_Node_has_calls ["self"] (defScope s_Node_has_calls) := ⟨rfl, rfl, rfl, by decide +kernel, rfl, by decide +kernel, by decide +kernel⟩
abbrev N_Node_told : List Str := ["self", "rows", "row"]
theorem sc_Node_told : FnScope N_Node_told ["self"] (defScope s_Node_told) := ⟨rfl, rfl, rfl, by decide +kernel, rfl, by decide +kernel, by decide +kernel⟩
abbrev N_node_of : List Str := ["told", "thing", "found"]
theorem sc_node_of : FnScope N_node_of ["told"] (defScope s_node_of) := ⟨rfl, rfl, rfl, by decide +kernel, rfl, by decide +kernel, by decide +kernel⟩
abbrev N_same_node : List Str := ["one", "other"]
theorem sc_same_node : FnScope N_same_node ["one", "other"] (defScope s_same_node) := ⟨rfl, rfl, rfl, by decide +kernel, rfl, by decide +kernel, by decide +kernel⟩
abbrev N_cell_at_l : List Str := ["_law_script", "_law_k"]
theorem sc_cell_at_l : FnScope N_cell_at_l ["_law_script", "_law_k"] (defScope s_cell_at_l) := ⟨rfl, rfl, rfl, by decide +kernel, rfl, by decide +kernel, by decide +kernel⟩
abbrev N_box_l : List Str := ["_law_cell"]
theorem sc_box_l : FnScope N_box_l ["_law_cell"] (defScope s_box_l) := ⟨rfl, rfl, rfl, by decide +kernel, rfl, by decide +kernel, by decide +kernel⟩
abbrev N_take_l : List Str := ["_law_box_here", "_law_many", "_law_digit", "_law_number"]
theorem sc_take_l : FnScope N_take_l ["_law_box_here", "_law_many"] (defScope s_take_l) := ⟨rfl, rfl, rfl, by decide +kernel, rfl, by decide +kernel, by decide +kernel⟩
abbrev N_names_l : List Str := ["_law_box_here", "_law_many", "_law_some", "_law_start", "_law_step", "_law_turn", "_law_found", "_law_k", "_law_word"]
theorem sc_names_l : FnScope N_names_l ["_law_box_here", "_law_many"] (defScope s_names_l) := ⟨rfl, rfl, rfl, by decide +kernel, rfl, by decide +kernel, by decide +kernel⟩
abbrev N_value_l : List Str := ["_law_box_here", "_law_some"]
theorem sc_value_l : FnScope N_value_l ["_law_box_here"] (defScope s_value_l) := ⟨rfl, rfl, rfl, by decide +kernel, rfl, by decide +kernel, by decide +kernel⟩
abbrev N_term_l : List Str := ["_law_box_here", "_law_names_here", "_law_levels", "_law_way", "_law_one", "_law_other", "_law_op"]
theorem sc_term_l : FnScope N_term_l ["_law_box_here", "_law_names_here", "_law_levels"] (defScope s_term_l) := ⟨rfl, rfl, rfl, by decide +kernel, rfl, by decide +kernel, by decide +kernel⟩
abbrev N_row_l : List Str := ["_law_box_here", "_law_told_here", "_law_names_here", "_law_kind", "_law_some", "_law_k", "_law_one"]
theorem sc_row_l : FnScope N_row_l ["_law_box_here", "_law_told_here", "_law_names_here"] (defScope s_row_l) := ⟨rfl, rfl, rfl, by decide +kernel, rfl, by decide +kernel, by decide +kernel⟩
abbrev N_term_names_l : List Str := ["_law_term_here", "_law_found", "_law_part"]
theorem sc_term_names_l : FnScope N_term_names_l ["_law_term_here"] (defScope s_term_names_l) := ⟨rfl, rfl, rfl, by decide +kernel, rfl, by decide +kernel, by decide +kernel⟩
abbrev N_once_l : List Str := ["_law_names_here", "_law_found", "_law_name"]
theorem sc_once_l : FnScope N_once_l ["_law_names_here"] (defScope s_once_l) := ⟨rfl, rfl, rfl, by decide +kernel, rfl, by decide +kernel, by decide +kernel⟩
abbrev N_mentions_l : List Str := ["_law_row_here"]
theorem sc_mentions_l : FnScope N_mentions_l ["_law_row_here"] (defScope s_mentions_l) := ⟨rfl, rfl, rfl, by decide +kernel, rfl, by decide +kernel, by decide +kernel⟩
abbrev N_tells_l : List Str := ["_law_row_here"]
theorem sc_tells_l : FnScope N_tells_l ["_law_row_here"] (defScope s_tells_l) := ⟨rfl, rfl, rfl, by decide +kernel, rfl, by decide +kernel, by decide +kernel⟩
abbrev N_read_row_l : List Str := ["_law_box_here", "_law_told_here", "_law_names_here", "_law_row_here"]
theorem sc_read_row_l : FnScope N_read_row_l ["_law_box_here", "_law_told_here", "_law_names_here"] (defScope s_read_row_l) := ⟨rfl, rfl, rfl, by decide +kernel, rfl, by decide +kernel, by decide +kernel⟩
abbrev N_node_l : List Str := ["_law_box_here", "_law_names_here", "_law_many", "_law_left", "_law_rows", "_law_k", "_law_row_here", "_law_name", "_law_known", "_law_at", "_law_outs"]
theorem sc_node_l : FnScope N_node_l ["_law_box_here", "_law_names_here"] (defScope s_node_l) := ⟨rfl, rfl, rfl, by decide +kernel, rfl, by decide +kernel, by decide +kernel⟩
abbrev N_told_names_l : List Str := ["_law_rows", "_law_found", "_law_row_here"]
theorem sc_told_names_l : FnScope N_told_names_l ["_law_rows"] (defScope s_told_names_l) := ⟨rfl, rfl, rfl, by decide +kernel, rfl, by decide +kernel, by decide +kernel⟩
abbrev N_due_l : List Str := ["_law_node_here"]
theorem sc_due_l : FnScope N_due_l ["_law_node_here"] (defScope s_due_l) := ⟨rfl, rfl, rfl, by decide +kernel, rfl, by decide +kernel, by decide +kernel⟩
abbrev N_told_l : List Str := ["_law_equation"]
theorem sc_told_l : FnScope N_told_l ["_law_equation"] (defScope s_told_l) := ⟨rfl, rfl, rfl, by decide +kernel, rfl, by decide +kernel, by decide +kernel⟩
abbrev N_right_l : List Str := ["_law_found", "_law_node_here", "_law_row_here", "_law_name", "_law_calls"]
theorem sc_right_l : FnScope N_right_l ["_law_found", "_law_node_here"] (defScope s_right_l) := ⟨rfl, rfl, rfl, by decide +kernel, rfl, by decide +kernel, by decide +kernel⟩
abbrev N_unknown_l : List Str := ["_law_node_here", "_law_thing", "_law_found", "e"]
theorem sc_unknown_l : FnScope N_unknown_l ["_law_node_here", "_law_thing"] (defScope s_unknown_l) := ⟨rfl, rfl, rfl, by decide +kernel, rfl, by decide +kernel, by decide +kernel⟩
abbrev N_made_l : List Str := ["_law_box_here", "_law_node_here", "_law_inputs", "_law_outs", "_law_rows", "_law_found"]
theorem sc_made_l : FnScope N_made_l ["_law_box_here", "_law_node_here"] (defScope s_made_l) := ⟨rfl, rfl, rfl, by decide +kernel, rfl, by decide +kernel, by decide +kernel⟩
abbrev N_changed_l : List Str := ["_law_found", "_law_told_here"]
theorem sc_changed_l : FnScope N_changed_l ["_law_found"] (defScope s_changed_l) := ⟨rfl, rfl, rfl, by decide +kernel, rfl, by decide +kernel, by decide +kernel⟩
abbrev N_alike_l : List Str := ["_law_one", "_law_other", "_law_due_here", "_law_found", "_law_truth"]
theorem sc_alike_l : FnScope N_alike_l ["_law_one", "_law_other", "_law_due_here"] (defScope s_alike_l) := ⟨rfl, rfl, rfl, by decide +kernel, rfl, by decide +kernel, by decide +kernel⟩
abbrev N_law : List Str := ["_law_script", "_law_last", "_law_k", "_law_box_here", "_law_many", "_law_node_here", "_law_found", "_law_again", "_law_strange", "_law_thing", "_law_other", "_law_value_here", "_law_rows", "_law_truth", "_law_number"]
theorem sc_law : FnScope N_law ["_law_script"] (defScope s_law) := ⟨rfl, rfl, rfl, by decide +kernel, rfl, by decide +kernel, by decide +kernel⟩
section
variable {P : Program} {w : World} {K : PySem.W.Frag} {mg : Str → Option Value} {base : Heap} {Z : Adr}
def d_NoName_init : He.DefD := ⟨("NoName", some "__init__"), "__init__", "NoName.__init__", defArgs s_NoName_init, defBody s_NoName_init, defScope s_NoName_init, [], []⟩
def d_Unknown_init : He.DefD := ⟨("Unknown", some "__init__"), "__init__", "Unknown.__init__", defArgs s_Unknown_init, defBody s_Unknown_init, defScope s_Unknown_init, [], []⟩
def d_is_whole : He.DefD := ⟨("is_whole", none), "is_whole", "is_whole", defArgs s_is_whole, defBody s_is_whole, defScope s_is_whole, [], []⟩
def d_is_within : He.DefD := ⟨("is_within", none), "is_within", "is_within", defArgs s_is_within, defBody s_is_within, defScope s_is_within, [], []⟩
def d_is_name : He.DefD := ⟨("is_name", none), "is_name", "is_name", defArgs s_is_name, defBody s_is_name, defScope s_is_name, [], []⟩
def d_is_pointed : He.DefD := ⟨("is_pointed", none), "is_pointed", "is_pointed", defArgs s_is_pointed, defBody s_is_pointed, defScope s_is_pointed, [], []⟩
def d_is_value : He.DefD := ⟨("is_value", none), "is_value", "is_value", defArgs s_is_value, defBody s_is_value, defScope s_is_value, [], []⟩
def d_ops_told : He.DefD := ⟨("ops_told", none), "ops_told", "ops_told", defArgs s_ops_told, defBody s_ops_told, defScope s_ops_told, [], []⟩
def d_Term_parts : He.DefD := ⟨("Term", some "parts"), "parts", "Term.parts", defArgs s_Term_parts, defBody s_Term_parts, defScope s_Term_parts, [], []⟩
def d_Term_names : He.DefD := ⟨("Term", some "names"), "names", "Term.names", defArgs s_Term_names, defBody s_Term_names, defScope s_Term_names, [], []⟩
def d_Term_levels : He.DefD := ⟨("Term", some "levels"), "levels", "Term.levels", defArgs s_Term_levels, defBody s_Term_levels, defScope s_Term_levels, [], []⟩
def d_need_term : He.DefD := ⟨("need_term", none), "need_term", "need_term", defArgs s_need_term, defBody s_need_term, defScope s_need_term, [], []⟩
def d_Name_init : He.DefD := ⟨("Name", some "__init__"), "__init__", "Name.__init__", defArgs s_Name_init, defBody s_Name_init, defScope s_Name_init, [], []⟩
def d_Name_names : He.DefD := ⟨("Name", some "names"), "names", "Name.names", defArgs s_Name_names, defBody s_Name_names, defScope s_Name_names, [], []⟩
def d_Name_told : He.DefD := ⟨("Name", some "told"), "told", "Name.told", defArgs s_Name_told, defBody s_Name_told, defScope s_Name_told, [], []⟩
def d_Value_init : He.DefD := ⟨("Value", some "__init__"), "__init__", "Value.__init__", defArgs s_Value_init, defBody s_Value_init, defScope s_Value_init, [], []⟩
def d_Value_told : He.DefD := ⟨("Value", some "told"), "told", "Value.told", defArgs s_Value_told, defBody s_Value_told, defScope s_Value_told, [], []⟩
def d_Two_init : He.DefD := ⟨("Two", some "__init__"), "__init__", "Two.__init__", defArgs s_Two_init, defBody s_Two_init, defScope s_Two_init, [], []⟩
def d_Two_parts : He.DefD := ⟨("Two", some "parts"), "parts", "Two.parts", defArgs s_Two_parts, defBody s_Two_parts, defScope s_Two_parts, [], []⟩
def d_Two_told : He.DefD := ⟨("Two", some "told"), "told", "Two.told", defArgs s_Two_told, defBody s_Two_told, defScope s_Two_told, [], []⟩
def d_Not_init : He.DefD := ⟨("Not", some "__init__"), "__init__", "Not.__init__", defArgs s_Not_init, defBody s_Not_init, defScope s_Not_init, [], []⟩
def d_Not_parts : He.DefD := ⟨("Not", some "parts"), "parts", "Not.parts", defArgs s_Not_parts, defBody s_Not_parts, defScope s_Not_parts, [], []⟩
def d_Not_told : He.DefD := ⟨("Not", some "told"), "told", "Not.told", defArgs s_Not_told, defBody s_Not_told, defScope s_Not_told, [], []⟩
def d_Pick_init : He.DefD := ⟨("Pick", some "__init__"), "__init__", "Pick.__init__", defArgs s_Pick_init, defBody s_Pick_init, defScope s_Pick_init, [], []⟩
def d_Pick_parts : He.DefD := ⟨("Pick", some "parts"), "parts", "Pick.parts", defArgs s_Pick_parts, defBody s_Pick_parts, defScope s_Pick_parts, [], []⟩
def d_Pick_told : He.DefD := ⟨("Pick", some "told"), "told", "Pick.told", defArgs s_Pick_told, defBody s_Pick_told, defScope s_Pick_told, [], []⟩
def d_simple_of : He.DefD := ⟨("simple_of", none), "simple_of", "simple_of", defArgs s_simple_of, defBody s_simple_of, defScope s_simple_of, [], []⟩
def d_made_of_told : He.DefD := ⟨("made_of_told", none), "made_of_told", "made_of_told", defArgs s_made_of_told, defBody s_made_of_told, defScope s_made_of_told, [], []⟩
def d_term_of : He.DefD := ⟨("term_of", none), "term_of", "term_of", defArgs s_term_of, defBody s_term_of, defScope s_term_of, [], []⟩
def d_each_once : He.DefD := ⟨("each_once", none), "each_once", "each_once", defArgs s_each_once, defBody s_each_once, defScope s_each_once, [], []⟩
def d_Equation_init : He.DefD := ⟨("Equation", some "__init__"), "__init__", "Equation.__init__", defArgs s_Equation_init, defBody s_Equation_init, defScope s_Equation_init, [], []⟩
def d_Equation_told : He.DefD := ⟨("Equation", some "told"), "told", "Equation.told", defArgs s_Equation_told, defBody s_Equation_told, defScope s_Equation_told, [], []⟩
def d_Equation_tells : He.DefD := ⟨("Equation", some "tells"), "tells", "Equation.tells", defArgs s_Equation_tells, defBody s_Equation_tells, defScope s_Equation_tells, [], []⟩
def d_Equation_names : He.DefD := ⟨("Equation", some "names"), "names", "Equation.names", defArgs s_Equation_names, defBody s_Equation_names, defScope s_Equation_names, [], []⟩
def d_Equation_term : He.DefD := ⟨("Equation", some "term"), "term", "Equation.term", defArgs s_Equation_term, defBody s_Equation_term, defScope s_Equation_term, [], []⟩
def d_Equation_is_call : He.DefD := ⟨("Equation", some "is_call"), "is_call", "Equation.is_call", defArgs s_Equation_is_call, defBody s_Equation_is_call, defScope s_Equation_is_call, [], []⟩
def d_Plain_init : He.DefD := ⟨("Plain", some "__init__"), "__init__", "Plain.__init__", defArgs s_Plain_init, defBody s_Plain_init, defScope s_Plain_init, [], []⟩
def d_Plain_names : He.DefD := ⟨("Plain", some "names"), "names", "Plain.names", defArgs s_Plain_names, defBody s_Plain_names, defScope s_Plain_names, [], []⟩
def d_Plain_term : He.DefD := ⟨("Plain", some "term"), "term", "Plain.term", defArgs s_Plain_term, defBody s_Plain_term, defScope s_Plain_term, [], []⟩
def d_When_names : He.DefD := ⟨("When", some "names"), "names", "When.names", defArgs s_When_names, defBody s_When_names, defScope s_When_names, [], []⟩
def d_Same_tells : He.DefD := ⟨("Same", some "tells"), "tells", "Same.tells", defArgs s_Same_tells, defBody s_Same_tells, defScope s_Same_tells, [], []⟩
def d_Same_names : He.DefD := ⟨("Same", some "names"), "names", "Same.names", defArgs s_Same_names, defBody s_Same_names, defScope s_Same_names, [], []⟩
def d_Call_tells : He.DefD := ⟨("Call", some "tells"), "tells", "Call.tells", defArgs s_Call_tells, defBody s_Call_tells, defScope s_Call_tells, [], []⟩
def d_Call_names : He.DefD := ⟨("Call", some "names"), "names", "Call.names", defArgs s_Call_names, defBody s_Call_names, defScope s_Call_names, [], []⟩
def d_Call_is_call : He.DefD := ⟨("Call", some "is_call"), "is_call", "Call.is_call", defArgs s_Call_is_call, defBody s_Call_is_call, defScope s_Call_is_call, [], []⟩
def d_are_pointed : He.DefD := ⟨("are_pointed", none), "are_pointed", "are_pointed", defArgs s_are_pointed, defBody s_are_pointed, defScope s_are_pointed, [], []⟩
def d_is_valued : He.DefD := ⟨("is_valued", none), "is_valued", "is_valued", defArgs s_is_valued, defBody s_is_valued, defScope s_is_valued, [], []⟩
def d_plain_of : He.DefD := ⟨("plain_of", none), "plain_of", "plain_of", defArgs s_plain_of, defBody s_plain_of, defScope s_plain_of, [], []⟩
def d_valued_of : He.DefD := ⟨("valued_of", none), "valued_of", "valued_of", defArgs s_valued_of, defBody s_valued_of, defScope s_valued_of, [], []⟩
def d_call_of : He.DefD := ⟨("call_of", none), "call_of", "call_of", defArgs s_call_of, defBody s_call_of, defScope s_call_of, [], []⟩
def d_made_of : He.DefD := ⟨("made_of", none), "made_of", "made_of", defArgs s_made_of, defBody s_made_of, defScope s_made_of, [], []⟩
def d_equation_of : He.DefD := ⟨("equation_of", none), "equation_of", "equation_of", defArgs s_equation_of, defBody s_equation_of, defScope s_equation_of, [], []⟩
def d_need_names : He.DefD := ⟨("need_names", none), "need_names", "need_names", defArgs s_need_names, defBody s_need_names, defScope s_need_names, [], []⟩
def d_equations_of : He.DefD := ⟨("equations_of", none), "equations_of", "equations_of", defArgs s_equations_of, defBody s_equations_of, defScope s_equations_of, [], []⟩
def d_Node_init : He.DefD := ⟨("Node", some "__init__"), "__init__", "Node.__init__", defArgs s_Node_init, defBody s_Node_init, defScope s_Node_init, [], []⟩
def d_Node_take_tellers : He.DefD := ⟨("Node", some "take_tellers"), "take_tellers", "Node.take_tellers", defArgs s_Node_take_tellers, defBody s_Node_take_tellers, defScope s_Node_take_tellers, [], []⟩
def d_Node_need_told : He.DefD := ⟨("Node", some "need_told"), "need_told", "Node.need_told", defArgs s_Node_need_told, defBody s_Node_need_told, defScope s_Node_need_told, [], []⟩
def d_Node_inputs : He.DefD := ⟨("Node", some "inputs"), "inputs", "Node.inputs", defArgs s_Node_inputs, defBody s_Node_inputs, defScope s_Node_inputs, [], []⟩
def d_Node_outs : He.DefD := ⟨("Node", some "outs"), "outs", "Node.outs", defArgs s_Node_outs, defBody s_Node_outs, defScope s_Node_outs, [], []⟩
def d_Node_rows : He.DefD := ⟨("Node", some "rows"), "rows", "Node.rows", defArgs s_Node_rows, defBody s_Node_rows, defScope s_Node_rows, [], []⟩
def d_Node_names : He.DefD := ⟨("Node", some "names"), "names", "Node.names", defArgs s_Node_names, defBody s_Node_names, defScope s_Node_names, [], []⟩
def d_Node_teller : He.DefD := ⟨("Node", some "teller"), "teller", "Node.teller", defArgs s_Node_teller, defBody s_Node_teller, defScope s_Node_teller, [], []⟩
def d_Node_has_calls : He.DefD := ⟨("Node", some "has_calls"), "has_calls", "Node.has_calls", defArgs s_Node_has_calls, defBody s_Node_has_calls, defScope s_Node_has_calls, [], []⟩
def d_Node_told : He.DefD := ⟨("Node", some "told"), "told", "Node.told", defArgs s_Node_told, defBody s_Node_told, defScope s_Node_told, [], []⟩
def d_node_of : He.DefD := ⟨("node_of", none), "node_of", "node_of", defArgs s_node_of, defBody s_node_of, defScope s_node_of, [], []⟩
def d_same_node : He.DefD := ⟨("same_node", none), "same_node", "same_node", defArgs s_same_node, defBody s_same_node, defScope s_same_node, [], []⟩
def d_cell_at_l : He.DefD := ⟨("_law_cell_at", none), "_law_cell_at", "_law_cell_at", defArgs s_cell_at_l, defBody s_cell_at_l, defScope s_cell_at_l, [], []⟩
def d_box_l : He.DefD := ⟨("_law_box", none), "_law_box", "_law_box", defArgs s_box_l, defBody s_box_l, defScope s_box_l, [], []⟩
def d_take_l : He.DefD := ⟨("_law_take", none), "_law_take", "_law_take", defArgs s_take_l, defBody s_take_l, defScope s_take_l, [], []⟩
def d_names_l : He.DefD := ⟨("_law_names", none), "_law_names", "_law_names", defArgs s_names_l, defBody s_names_l, defScope s_names_l, [], []⟩
def d_value_l : He.DefD := ⟨("_law_value", none), "_law_value", "_law_value", defArgs s_value_l, defBody s_value_l, defScope s_value_l, [], []⟩
def d_term_l : He.DefD := ⟨("_law_term", none), "_law_term", "_law_term", defArgs s_term_l, defBody s_term_l, defScope s_term_l, [], []⟩
def d_row_l : He.DefD := ⟨("_law_row", none), "_law_row", "_law_row", defArgs s_row_l, defBody s_row_l, defScope s_row_l, [], []⟩
def d_term_names_l : He.DefD := ⟨("_law_term_names", none), "_law_term_names", "_law_term_names", defArgs s_term_names_l, defBody s_term_names_l, defScope s_term_names_l, [], []⟩
def d_once_l : He.DefD := ⟨("_law_once", none), "_law_once", "_law_once", defArgs s_once_l, defBody s_once_l, defScope s_once_l, [], []⟩
def d_mentions_l : He.DefD := ⟨("_law_mentions", none), "_law_mentions", "_law_mentions", defArgs s_mentions_l, defBody s_mentions_l, defScope s_mentions_l, [], []⟩
def d_tells_l : He.DefD := ⟨("_law_tells", none), "_law_tells", "_law_tells", defArgs s_tells_l, defBody s_tells_l, defScope s_tells_l, [], []⟩
def d_read_row_l : He.DefD := ⟨("_law_read_row", none), "_law_read_row", "_law_read_row", defArgs s_read_row_l, defBody s_read_row_l, defScope s_read_row_l, [], []⟩
def d_node_l : He.DefD := ⟨("_law_node", none), "_law_node", "_law_node", defArgs s_node_l, defBody s_node_l, defScope s_node_l, [], []⟩
def d_told_names_l : He.DefD := ⟨("_law_told_names", none), "_law_told_names", "_law_told_names", defArgs s_told_names_l, defBody s_told_names_l, defScope s_told_names_l, [], []⟩
def d_due_l : He.DefD := ⟨("_law_due", none), "_law_due", "_law_due", defArgs s_due_l, defBody s_due_l, defScope s_due_l, [], []⟩
def d_told_l : He.DefD := ⟨("_law_told", none), "_law_told", "_law_told", defArgs s_told_l, defBody s_told_l, defScope s_told_l, [], []⟩
def d_right_l : He.DefD := ⟨("_law_right", none), "_law_right", "_law_right", defArgs s_right_l, defBody s_right_l, defScope s_right_l, [], []⟩
def d_unknown_l : He.DefD := ⟨("_law_unknown", none), "_law_unknown", "_law_unknown", defArgs s_unknown_l, defBody s_unknown_l, defScope s_unknown_l, [], []⟩
def d_made_l : He.DefD := ⟨("_law_made", none), "_law_made", "_law_made", defArgs s_made_l, defBody s_made_l, defScope s_made_l, [], []⟩
def d_changed_l : He.DefD := ⟨("_law_changed", none), "_law_changed", "_law_changed", defArgs s_changed_l, defBody s_changed_l, defScope s_changed_l, [], []⟩
def d_alike_l : He.DefD := ⟨("_law_alike", none), "_law_alike", "_law_alike", defArgs s_alike_l, defBody s_alike_l, defScope s_alike_l, [], []⟩
def d_law : He.DefD := ⟨("law", none), "law", "law", defArgs s_law, defBody s_law, defScope s_law, [], []⟩
def fnL0 : List He.DefD := [d_NoName_init, d_Unknown_init, d_is_whole, d_is_within, d_is_name, d_is_pointed, d_is_value, d_ops_told, d_Term_parts, d_Term_names, d_Term_levels, d_need_term, d_Name_init, d_Name_names, d_Name_told, d_Value_init, d_Value_told, d_Two_init, d_Two_parts, d_Two_told, d_Not_init, d_Not_parts, d_Not_told, d_Pick_init, d_Pick_parts, d_Pick_told, d_simple_of, d_made_of_told, d_term_of, d_each_once]
def fnL1 : List He.DefD := [d_Equation_init, d_Equation_told, d_Equation_tells, d_Equation_names, d_Equation_term, d_Equation_is_call, d_Plain_init, d_Plain_names, d_Plain_term, d_When_names, d_Same_tells, d_Same_names, d_Call_tells, d_Call_names, d_Call_is_call, d_are_pointed, d_is_valued, d_plain_of, d_valued_of, d_call_of, d_made_of, d_equation_of, d_need_names, d_equations_of, d_Node_init, d_Node_take_tellers, d_Node_need_told, d_Node_inputs, d_Node_outs, d_Node_rows]
def fnL2 : List He.DefD := [d_Node_names, d_Node_teller, d_Node_has_calls, d_Node_told, d_node_of, d_same_node, d_cell_at_l, d_box_l, d_take_l, d_names_l, d_value_l, d_term_l, d_row_l, d_term_names_l, d_once_l, d_mentions_l, d_tells_l, d_read_row_l, d_node_l, d_told_names_l, d_due_l, d_told_l, d_right_l, d_unknown_l, d_made_l, d_changed_l, d_alike_l, d_law]
def fnL : List He.DefD := fnL0 ++ (fnL1 ++ (fnL2))
def faL0 : List He.Fa := [.glo "is_whole", .glo "is_within", .glo "is_name", .glo "is_pointed", .glo "is_value", .glo "ops_told", .glo "need_term", .glo "simple_of", .glo "made_of_told", .glo "term_of", .glo "each_once", .glo "are_pointed", .glo "is_valued", .glo "plain_of", .glo "valued_of", .glo "call_of", .glo "made_of", .glo "equation_of", .glo "need_names", .glo "equations_of", .glo "node_of", .glo "same_node", .glo "_law_cell_at", .glo "_law_box", .glo "_law_take", .glo "_law_names", .glo "_law_value", .glo "_law_term", .glo "_law_row", .glo "_law_term_names"]
def faL1 : List He.Fa := [.glo "_law_once", .glo "_law_mentions", .glo "_law_tells", .glo "_law_read_row", .glo "_law_node", .glo "_law_told_names", .glo "_law_due", .glo "_law_told", .glo "_law_right", .glo "_law_unknown", .glo "_law_made", .glo "_law_changed", .glo "_law_alike", .glo "law", .glo "BeatError", .glo "NoName", .glo "Unknown", .glo "Term", .glo "Name", .glo "Value", .glo "Two", .glo "Not", .glo "Pick", .glo "Equation", .glo "Plain", .glo "Before", .glo "When", .glo "Hold", .glo "Like", .glo "Same"]
def faL2 : List He.Fa := [.glo "Call", .glo "Node", .free "all", .free "any", .free "bool", .free "int", .free "isinstance", .free "len", .free "list", .free "max", .free "min", .free "range", .free "repr", .free "str", .free "tuple", .str "LETTERS" "abcdefghijklmnopqrstuvwxyz", .int "LONGEST" (8), .int "MOST" (1000000000), .int "MOST_LEVELS" (5), .int "MOST_SIGNS" (80), .glo "OPS", .glo "OWN", .int "TOLD_THINGS" (4)]
def faL : List He.Fa := faL0 ++ (faL1 ++ (faL2))
def exs0 (K : PySem.W.Frag) : List Bool := [PySem.W.isFn K (.ref (He.fAd K ("Term", some "parts"))), PySem.W.isFn K (.ref (He.fAd K ("Term", some "names"))), PySem.W.isFn K (.ref (He.fAd K ("Term", some "levels"))), PySem.W.isFn K (.ref (He.fAd K ("Name", some "__init__"))), PySem.W.isFn K (.ref (He.fAd K ("Name", some "names"))), PySem.W.isFn K (.ref (He.fAd K ("Name", some "told"))), PySem.W.isFn K (.ref (He.fAd K ("Value", some "__init__"))), PySem.W.isFn K (.ref (He.fAd K ("Value", some "told"))), PySem.W.isFn K (.ref (He.fAd K ("Two", some "__init__"))), PySem.W.isFn K (.ref (He.fAd K ("Two", some "parts"))), PySem.W.isFn K (.ref (He.fAd K ("Two", some "told"))), PySem.W.isFn K (.ref (He.fAd K ("Not", some "__init__"))), PySem.W.isFn K (.ref (He.fAd K ("Not", some "parts"))), PySem.W.isFn K (.ref (He.fAd K ("Not", some "told"))), PySem.W.isFn K (.ref (He.fAd K ("Pick", some "__init__"))), PySem.W.isFn K (.ref (He.fAd K ("Pick", some "parts"))), PySem.W.isFn K (.ref (He.fAd K ("Pick", some "told"))), PySem.W.isFn K (.ref (He.fAd K ("Equation", some "__init__"))), PySem.W.isFn K (.ref (He.fAd K ("Equation", some "told"))), PySem.W.isFn K (.ref (He.fAd K ("Equation", some "tells")))]
def exs1 (K : PySem.W.Frag) : List Bool := [PySem.W.isFn K (.ref (He.fAd K ("Equation", some "names"))), PySem.W.isFn K (.ref (He.fAd K ("Equation", some "term"))), PySem.W.isFn K (.ref (He.fAd K ("Equation", some "is_call"))), PySem.W.isFn K (.ref (He.fAd K ("Plain", some "__init__"))), PySem.W.isFn K (.ref (He.fAd K ("Plain", some "names"))), PySem.W.isFn K (.ref (He.fAd K ("Plain", some "term"))), PySem.W.isFn K (.ref (He.fAd K ("When", some "names"))), PySem.W.isFn K (.ref (He.fAd K ("Same", some "tells"))), PySem.W.isFn K (.ref (He.fAd K ("Same", some "names"))), PySem.W.isFn K (.ref (He.fAd K ("Call", some "tells"))), PySem.W.isFn K (.ref (He.fAd K ("Call", some "names"))), PySem.W.isFn K (.ref (He.fAd K ("Call", some "is_call"))), PySem.W.isFn K (.ref (He.fAd K ("Node", some "__init__"))), PySem.W.isFn K (.ref (He.fAd K ("Node", some "take_tellers"))), PySem.W.isFn K (.ref (He.fAd K ("Node", some "need_told"))), PySem.W.isFn K (.ref (He.fAd K ("Node", some "inputs"))), PySem.W.isFn K (.ref (He.fAd K ("Node", some "outs"))), PySem.W.isFn K (.ref (He.fAd K ("Node", some "rows"))), PySem.W.isFn K (.ref (He.fAd K ("Node", some "names"))), PySem.W.isFn K (.ref (He.fAd K ("Node", some "teller")))]
def exs2 (K : PySem.W.Frag) : List Bool := [PySem.W.isFn K (.ref (He.fAd K ("Node", some "has_calls"))), PySem.W.isFn K (.ref (He.fAd K ("Node", some "told"))), baseB K (He.ga K "BeatError"), PySem.W.excIn K (He.ga K "BeatError") [.type "ValueError", .type "Exception", .type "BaseException", .type "object"] "ValueError.__new__", PySem.W.keepIn K (.ref (He.ga K "BeatError")), icB K (He.ga K "BeatError"), exB K (He.ga K "NoName") ["found"], decide (PySem.W.findIn K (.ref (He.ga K "NoName")) "__init__" = some (some (.ref (He.fAd K ("NoName", some "__init__"))))), decide (PySem.W.typeIn K (.ref (He.fAd K ("NoName", some "__init__"))) = some (.type "function")), exB K (He.ga K "Unknown") ["name"], decide (PySem.W.findIn K (.ref (He.ga K "Unknown")) "__init__" = some (some (.ref (He.fAd K ("Unknown", some "__init__"))))), decide (PySem.W.typeIn K (.ref (He.fAd K ("Unknown", some "__init__"))) = some (.type "function")), tcB K (He.ga K "Name") ["name"], decide (PySem.W.findIn K (.ref (He.ga K "Name")) "__init__" = some (some (.ref (He.fAd K ("Name", some "__init__"))))), decide (PySem.W.findIn K (.ref (He.ga K "Name")) "parts" = some (some (.ref (He.fAd K ("Term", some "parts"))))), decide (PySem.W.findIn K (.ref (He.ga K "Name")) "names" = some (some (.ref (He.fAd K ("Name", some "names"))))), decide (PySem.W.findIn K (.ref (He.ga K "Name")) "levels" = some (some (.ref (He.fAd K ("Term", some "levels"))))), decide (PySem.W.findIn K (.ref (He.ga K "Name")) "told" = some (some (.ref (He.fAd K ("Name", some "told"))))), tcB K (He.ga K "Value") ["amount"], decide (PySem.W.findIn K (.ref (He.ga K "Value")) "__init__" = some (some (.ref (He.fAd K ("Value", some "__init__")))))]
def exs3 (K : PySem.W.Frag) : List Bool := [decide (PySem.W.findIn K (.ref (He.ga K "Value")) "parts" = some (some (.ref (He.fAd K ("Term", some "parts"))))), decide (PySem.W.findIn K (.ref (He.ga K "Value")) "names" = some (some (.ref (He.fAd K ("Term", some "names"))))), decide (PySem.W.findIn K (.ref (He.ga K "Value")) "levels" = some (some (.ref (He.fAd K ("Term", some "levels"))))), decide (PySem.W.findIn K (.ref (He.ga K "Value")) "told" = some (some (.ref (He.fAd K ("Value", some "told"))))), tcB K (He.ga K "Two") ["op", "one", "second"], decide (PySem.W.findIn K (.ref (He.ga K "Two")) "__init__" = some (some (.ref (He.fAd K ("Two", some "__init__"))))), decide (PySem.W.findIn K (.ref (He.ga K "Two")) "parts" = some (some (.ref (He.fAd K ("Two", some "parts"))))), decide (PySem.W.findIn K (.ref (He.ga K "Two")) "names" = some (some (.ref (He.fAd K ("Term", some "names"))))), decide (PySem.W.findIn K (.ref (He.ga K "Two")) "levels" = some (some (.ref (He.fAd K ("Term", some "levels"))))), decide (PySem.W.findIn K (.ref (He.ga K "Two")) "told" = some (some (.ref (He.fAd K ("Two", some "told"))))), tcB K (He.ga K "Not") ["one"], decide (PySem.W.findIn K (.ref (He.ga K "Not")) "__init__" = some (some (.ref (He.fAd K ("Not", some "__init__"))))), decide (PySem.W.findIn K (.ref (He.ga K "Not")) "parts" = some (some (.ref (He.fAd K ("Not", some "parts"))))), decide (PySem.W.findIn K (.ref (He.ga K "Not")) "names" = some (some (.ref (He.fAd K ("Term", some "names"))))), decide (PySem.W.findIn K (.ref (He.ga K "Not")) "levels" = some (some (.ref (He.fAd K ("Term", some "levels"))))), decide (PySem.W.findIn K (.ref (He.ga K "Not")) "told" = some (some (.ref (He.fAd K ("Not", some "told"))))), tcB K (He.ga K "Pick") ["by", "one", "second"], decide (PySem.W.findIn K (.ref (He.ga K "Pick")) "__init__" = some (some (.ref (He.fAd K ("Pick", some "__init__"))))), decide (PySem.W.findIn K (.ref (He.ga K "Pick")) "parts" = some (some (.ref (He.fAd K ("Pick", some "parts"))))), decide (PySem.W.findIn K (.ref (He.ga K "Pick")) "names" = some (some (.ref (He.fAd K ("Term", some "names")))))]
def exs4 (K : PySem.W.Frag) : List Bool := [decide (PySem.W.findIn K (.ref (He.ga K "Pick")) "levels" = some (some (.ref (He.fAd K ("Term", some "levels"))))), decide (PySem.W.findIn K (.ref (He.ga K "Pick")) "told" = some (some (.ref (He.fAd K ("Pick", some "told"))))), tcB K (He.ga K "Equation") ["told_row"], decide (PySem.W.findIn K (.ref (He.ga K "Equation")) "__init__" = some (some (.ref (He.fAd K ("Equation", some "__init__"))))), decide (PySem.W.findIn K (.ref (He.ga K "Equation")) "names" = some (some (.ref (He.fAd K ("Equation", some "names"))))), decide (PySem.W.findIn K (.ref (He.ga K "Equation")) "told" = some (some (.ref (He.fAd K ("Equation", some "told"))))), decide (PySem.W.findIn K (.ref (He.ga K "Equation")) "tells" = some (some (.ref (He.fAd K ("Equation", some "tells"))))), decide (PySem.W.findIn K (.ref (He.ga K "Equation")) "term" = some (some (.ref (He.fAd K ("Equation", some "term"))))), decide (PySem.W.findIn K (.ref (He.ga K "Equation")) "is_call" = some (some (.ref (He.fAd K ("Equation", some "is_call"))))), tcB K (He.ga K "Plain") ["told_row", "kept_term"], decide (PySem.W.findIn K (.ref (He.ga K "Plain")) "__init__" = some (some (.ref (He.fAd K ("Plain", some "__init__"))))), decide (PySem.W.findIn K (.ref (He.ga K "Plain")) "names" = some (some (.ref (He.fAd K ("Plain", some "names"))))), decide (PySem.W.findIn K (.ref (He.ga K "Plain")) "told" = some (some (.ref (He.fAd K ("Equation", some "told"))))), decide (PySem.W.findIn K (.ref (He.ga K "Plain")) "tells" = some (some (.ref (He.fAd K ("Equation", some "tells"))))), decide (PySem.W.findIn K (.ref (He.ga K "Plain")) "term" = some (some (.ref (He.fAd K ("Plain", some "term"))))), decide (PySem.W.findIn K (.ref (He.ga K "Plain")) "is_call" = some (some (.ref (He.fAd K ("Equation", some "is_call"))))), tcB K (He.ga K "Before") ["told_row"], decide (PySem.W.findIn K (.ref (He.ga K "Before")) "__init__" = some (some (.ref (He.fAd K ("Equation", some "__init__"))))), decide (PySem.W.findIn K (.ref (He.ga K "Before")) "names" = some (some (.ref (He.fAd K ("Equation", some "names"))))), decide (PySem.W.findIn K (.ref (He.ga K "Before")) "told" = some (some (.ref (He.fAd K ("Equation", some "told")))))]
def exs5 (K : PySem.W.Frag) : List Bool := [decide (PySem.W.findIn K (.ref (He.ga K "Before")) "tells" = some (some (.ref (He.fAd K ("Equation", some "tells"))))), decide (PySem.W.findIn K (.ref (He.ga K "Before")) "term" = some (some (.ref (He.fAd K ("Equation", some "term"))))), decide (PySem.W.findIn K (.ref (He.ga K "Before")) "is_call" = some (some (.ref (He.fAd K ("Equation", some "is_call"))))), tcB K (He.ga K "When") ["told_row"], decide (PySem.W.findIn K (.ref (He.ga K "When")) "__init__" = some (some (.ref (He.fAd K ("Equation", some "__init__"))))), decide (PySem.W.findIn K (.ref (He.ga K "When")) "names" = some (some (.ref (He.fAd K ("When", some "names"))))), decide (PySem.W.findIn K (.ref (He.ga K "When")) "told" = some (some (.ref (He.fAd K ("Equation", some "told"))))), decide (PySem.W.findIn K (.ref (He.ga K "When")) "tells" = some (some (.ref (He.fAd K ("Equation", some "tells"))))), decide (PySem.W.findIn K (.ref (He.ga K "When")) "term" = some (some (.ref (He.fAd K ("Equation", some "term"))))), decide (PySem.W.findIn K (.ref (He.ga K "When")) "is_call" = some (some (.ref (He.fAd K ("Equation", some "is_call"))))), tcB K (He.ga K "Hold") ["told_row"], decide (PySem.W.findIn K (.ref (He.ga K "Hold")) "__init__" = some (some (.ref (He.fAd K ("Equation", some "__init__"))))), decide (PySem.W.findIn K (.ref (He.ga K "Hold")) "names" = some (some (.ref (He.fAd K ("Equation", some "names"))))), decide (PySem.W.findIn K (.ref (He.ga K "Hold")) "told" = some (some (.ref (He.fAd K ("Equation", some "told"))))), decide (PySem.W.findIn K (.ref (He.ga K "Hold")) "tells" = some (some (.ref (He.fAd K ("Equation", some "tells"))))), decide (PySem.W.findIn K (.ref (He.ga K "Hold")) "term" = some (some (.ref (He.fAd K ("Equation", some "term"))))), decide (PySem.W.findIn K (.ref (He.ga K "Hold")) "is_call" = some (some (.ref (He.fAd K ("Equation", some "is_call"))))), tcB K (He.ga K "Like") ["told_row"], decide (PySem.W.findIn K (.ref (He.ga K "Like")) "__init__" = some (some (.ref (He.fAd K ("Equation", some "__init__"))))), decide (PySem.W.findIn K (.ref (He.ga K "Like")) "names" = some (some (.ref (He.fAd K ("Equation", some "names")))))]
def exs6 (K : PySem.W.Frag) : List Bool := [decide (PySem.W.findIn K (.ref (He.ga K "Like")) "told" = some (some (.ref (He.fAd K ("Equation", some "told"))))), decide (PySem.W.findIn K (.ref (He.ga K "Like")) "tells" = some (some (.ref (He.fAd K ("Equation", some "tells"))))), decide (PySem.W.findIn K (.ref (He.ga K "Like")) "term" = some (some (.ref (He.fAd K ("Equation", some "term"))))), decide (PySem.W.findIn K (.ref (He.ga K "Like")) "is_call" = some (some (.ref (He.fAd K ("Equation", some "is_call"))))), tcB K (He.ga K "Same") ["told_row"], decide (PySem.W.findIn K (.ref (He.ga K "Same")) "__init__" = some (some (.ref (He.fAd K ("Equation", some "__init__"))))), decide (PySem.W.findIn K (.ref (He.ga K "Same")) "names" = some (some (.ref (He.fAd K ("Same", some "names"))))), decide (PySem.W.findIn K (.ref (He.ga K "Same")) "told" = some (some (.ref (He.fAd K ("Equation", some "told"))))), decide (PySem.W.findIn K (.ref (He.ga K "Same")) "tells" = some (some (.ref (He.fAd K ("Same", some "tells"))))), decide (PySem.W.findIn K (.ref (He.ga K "Same")) "term" = some (some (.ref (He.fAd K ("Equation", some "term"))))), decide (PySem.W.findIn K (.ref (He.ga K "Same")) "is_call" = some (some (.ref (He.fAd K ("Equation", some "is_call"))))), tcB K (He.ga K "Call") ["told_row"], decide (PySem.W.findIn K (.ref (He.ga K "Call")) "__init__" = some (some (.ref (He.fAd K ("Equation", some "__init__"))))), decide (PySem.W.findIn K (.ref (He.ga K "Call")) "names" = some (some (.ref (He.fAd K ("Call", some "names"))))), decide (PySem.W.findIn K (.ref (He.ga K "Call")) "told" = some (some (.ref (He.fAd K ("Equation", some "told"))))), decide (PySem.W.findIn K (.ref (He.ga K "Call")) "tells" = some (some (.ref (He.fAd K ("Call", some "tells"))))), decide (PySem.W.findIn K (.ref (He.ga K "Call")) "term" = some (some (.ref (He.fAd K ("Equation", some "term"))))), decide (PySem.W.findIn K (.ref (He.ga K "Call")) "is_call" = some (some (.ref (He.fAd K ("Call", some "is_call"))))), tcB K (He.ga K "Node") ["name", "kept_inputs", "kept_outs", "kept_rows", "tellers"], decide (PySem.W.findIn K (.ref (He.ga K "Node")) "__init__" = some (some (.ref (He.fAd K ("Node", some "__init__")))))]
def exs7 (K : PySem.W.Frag) : List Bool := [decide (PySem.W.findIn K (.ref (He.ga K "Node")) "names" = some (some (.ref (He.fAd K ("Node", some "names"))))), decide (PySem.W.findIn K (.ref (He.ga K "Node")) "told" = some (some (.ref (He.fAd K ("Node", some "told"))))), decide (PySem.W.findIn K (.ref (He.ga K "Node")) "take_tellers" = some (some (.ref (He.fAd K ("Node", some "take_tellers"))))), decide (PySem.W.findIn K (.ref (He.ga K "Node")) "need_told" = some (some (.ref (He.fAd K ("Node", some "need_told"))))), decide (PySem.W.findIn K (.ref (He.ga K "Node")) "inputs" = some (some (.ref (He.fAd K ("Node", some "inputs"))))), decide (PySem.W.findIn K (.ref (He.ga K "Node")) "outs" = some (some (.ref (He.fAd K ("Node", some "outs"))))), decide (PySem.W.findIn K (.ref (He.ga K "Node")) "rows" = some (some (.ref (He.fAd K ("Node", some "rows"))))), decide (PySem.W.findIn K (.ref (He.ga K "Node")) "teller" = some (some (.ref (He.fAd K ("Node", some "teller"))))), decide (PySem.W.findIn K (.ref (He.ga K "Node")) "has_calls" = some (some (.ref (He.fAd K ("Node", some "has_calls"))))), difB [(He.ga K "Name"), (He.ga K "Value"), (He.ga K "Two"), (He.ga K "Not"), (He.ga K "Pick")], subB K (He.ga K "Name") (He.ga K "Term"), subB K (He.ga K "Value") (He.ga K "Term"), subB K (He.ga K "Two") (He.ga K "Term"), subB K (He.ga K "Not") (He.ga K "Term"), subB K (He.ga K "Pick") (He.ga K "Term"), difB [(He.ga K "Plain"), (He.ga K "Name"), (He.ga K "Value"), (He.ga K "Two"), (He.ga K "Not"), (He.ga K "Pick")], difB [(He.ga K "Plain"), (He.ga K "Before"), (He.ga K "Hold"), (He.ga K "Like"), (He.ga K "When"), (He.ga K "Same"), (He.ga K "Call")], kitTab K [(He.ga K "Plain"), (He.ga K "Before"), (He.ga K "Hold"), (He.ga K "Like"), (He.ga K "When"), (He.ga K "Same"), (He.ga K "Call")] (He.ga K "Equation"), cmB K (He.ga K "Equation") (He.fAd K ("Equation", some "__init__")) "__init__", difB [(He.ga K "Node"), (He.ga K "Name"), (He.ga K "Value"), (He.ga K "Two"), (He.ga K "Not"), (He.ga K "Pick")]]
def exs8 (K : PySem.W.Frag) : List Bool := [difB [(He.ga K "Node"), (He.ga K "Plain"), (He.ga K "Before"), (He.ga K "Hold"), (He.ga K "Like"), (He.ga K "When"), (He.ga K "Same"), (He.ga K "Call")], decide (PySem.W.kitOne K (.ref (He.ga K "Unknown")) (.ref (He.ga K "NoName")) = some false), decide (PySem.W.kitOne K (.ref (He.ga K "Unknown")) (.ref (He.ga K "BeatError")) = some true), decide (PySem.W.exmOne K (.ref (He.ga K "Unknown")) (.ref (He.ga K "Unknown")) = some true), tupB K (He.ga K "OPS") ["+", "-", "*", "/", "mod", "<", "=", "&", "|"], tupB K (He.ga K "OWN") ["node", "in", "out", "before", "when", "hold", "like", "same", "call", "true", "false", "mod", "beat", "desk"]]
def exs (K : PySem.W.Frag) : List Bool := exs0 K ++ (exs1 K ++ (exs2 K ++ (exs3 K ++ (exs4 K ++ (exs5 K ++ (exs6 K ++ (exs7 K ++ (exs8 K))))))))
abbrev RW : PySem.W.OpenRow := PySem.W.OpenLaw.row PySem.Challenge.rw_beatrows_k34_nodes_told
def csL : List PySem.Str := ["BeatError", "NoValue", "NoName", "NoTerm", "NoEquation", "NoNode", "Twice", "Unknown", "NoOut", "NoRead", "Term", "Name", "Value", "Two", "Not", "Pick", "Equation", "Plain", "Before", "When", "Hold", "Like", "Same", "Call", "Node"]
def tsL : List PySem.Str := ["OPS", "OWN"]
abbrev hk : PySem.W.Hook := hookK csL tsL faL fnL (fun K => (exs K).all id)
def ob (s : PySem.W.SharedT) : He.AlD × Bool := hkObs csL tsL faL fnL (fun K => (exs K).all id) (HandSHeadRun.getT s)
theorem ob_eq (s : PySem.W.SharedT) : ob s = hk.obs s.abs := hkObs_eq (HandSHeadRun.getT_eq s)
def loose0 : List PySem.Str := ["_wall", "BeatError", "NoValue", "NoName", "NoTerm", "NoEquation", "NoNode", "Twice", "Unknown", "NoOut", "NoRead", "LETTERS", "LONGEST", "MOST_SIGNS", "MOST", "OWN", "is_whole", "is_within", "is_name", "is_pointed", "is_value", "value_text", "OPS", "ops_told", "MOST_LEVELS", "Term", "need_term", "Name", "Value", "Two"]
def loose1 : List PySem.Str := ["Not", "Pick", "simple_of", "made_of_told", "term_of", "each_once", "Equation", "Plain", "Before", "When", "Hold", "Like", "Same", "Call", "are_pointed", "is_valued", "plain_of", "valued_of", "call_of", "made_of", "equation_of", "TOLD_THINGS", "need_names", "equations_of", "Node", "node_of", "same_node", "_law_cell_at", "_law_box", "_law_take"]
def loose2 : List PySem.Str := ["_law_names", "_law_value", "_law_term", "_law_row", "_law_term_names", "_law_once", "_law_mentions", "_law_tells", "_law_read_row", "_law_node", "_law_told_names", "_law_due", "_law_told", "_law_right", "_law_unknown", "_law_made", "_law_changed", "_law_alike"]
def loose : List PySem.Str := loose0 ++ (loose1 ++ (loose2))
theorem run (w : World) : HandSHeadRun.RunEq RW (PySem.W.view RW.prog [85]) hk ob 20000 loose w := by
  intro os
  kernel_rfl

theorem ok_NoName_init (T : Txt K mg Z) : FnOk P w K mg base CX0 1 Z.f_NoName_init Z.fd_NoName_init ["self", "found"] (sp_err1 Z.c_NoName "found") := by
  refine T.F_NoName_init.ok sc_NoName_init (fun vs H Q E h => ?_) (fun cdv AA outer s H vs Q E hr h => ?_)
  · obtain ⟨a, v0, rfl, _⟩ := h
    rfl
  · obtain ⟨a, v0, rfl, ha, k⟩ := h
    have TX := exB_ok T.x_NoName
    refine ⟨_, (pss_cons (ps_expr (pe_binit rfl T.m_BeatError (baseB_ok T.q_BeatError) (pa_cons (pv 0) (pa_cons pe_str pa_nil))))
      (pss_one (ps_ost (pv 0) (pv 1)))), ?_⟩
    exact err1_run TX.ox (TX.no _ (by decide +kernel)) ha k
theorem ok_Unknown_init (T : Txt K mg Z) : FnOk P w K mg base CX0 1 Z.f_Unknown_init Z.fd_Unknown_init ["self", "name"] (sp_err1 Z.c_Unknown "name") := by
  refine T.F_Unknown_init.ok sc_Unknown_init (fun vs H Q E h => ?_) (fun cdv AA outer s H vs Q E hr h => ?_)
  · obtain ⟨a, v0, rfl, _⟩ := h
    rfl
  · obtain ⟨a, v0, rfl, ha, k⟩ := h
    have TX := exB_ok T.x_Unknown
    refine ⟨_, (pss_cons (ps_expr (pe_binit rfl T.m_BeatError (baseB_ok T.q_BeatError) (pa_cons (pv 0) (pa_cons pe_str pa_nil))))
      (pss_one (ps_ost (pv 0) (pv 1)))), ?_⟩
    exact err1_run TX.ox (TX.no _ (by decide +kernel)) ha k
/-! ### words: whole numbers, values -/
def sp_is_whole (K : PySem.W.Frag) : Sp := fun vs H Q _ => ∃ (v : V) (n : String) (b1 b2 : Bool), vs = [v] ∧ TyX K H v (.type n) ∧ kitB n "int" = some b1 ∧ kitB n "bool" = some b2 ∧ Q (.bl (b1 && !b2)) H
theorem u_whole_int {K : PySem.W.Frag} {H : Hp} {Q : VK} {E : XK} {i : Int} (q : Q (.bl true) H) : sp_is_whole K [.int i] H Q E := ⟨_, _, _, _, rfl, ty_int i, kb_ii, kb_ib, q⟩
theorem u_whole_bl {K : PySem.W.Frag} {H : Hp} {Q : VK} {E : XK} {i : Bool} (q : Q (.bl false) H) : sp_is_whole K [.bl i] H Q E := ⟨_, _, _, _, rfl, ty_bl i, kb_bi, kb_bb, q⟩
def sp_is_within (K : PySem.W.Frag) : Sp := fun vs H Q _ => ∃ (v : V) (lo hi : Int), vs = [v, .int lo, .int hi] ∧
  ((∃ i, v = .int i ∧ Q (.bl (decide (lo ≤ i) && decide (i ≤ hi))) H) ∨ ∃ (n : String) (b1 b2 : Bool), TyX K H v (.type n) ∧ kitB n "int" = some b1 ∧ kitB n "bool" = some b2 ∧ (b1 && !b2) = false ∧ Q (.bl false) H)
def sp_is_value (K : PySem.W.Frag) : Sp := fun vs H Q _ => ∃ (v : V), vs = [v] ∧
  ((∃ i, v = .int i ∧ Q (.bl (decide (-1000000000 ≤ i) && decide (i ≤ 1000000000))) H) ∨ (∃ b, v = .bl b ∧ Q (.bl true) H) ∨ ∃ (n : String), TyX K H v (.type n) ∧ kitB n "int" = some false ∧ kitB n "bool" = some false ∧ Q (.bl false) H)
theorem ok_is_whole (T : Txt K mg Z) : FnOk P w K mg base CX0 1 Z.f_is_whole Z.fd_is_whole ["thing"] (sp_is_whole K) := by
  refine T.F_is_whole.ok sc_is_whole (fun vs H Q E h => ?_) (fun cdv AA outer s H vs Q E hr h => ?_)
  · obtain ⟨v, n, b1, b2, rfl, _⟩ := h
    rfl
  · obtain ⟨v, n, b1, b2, rfl, ty, h1, h2, k⟩ := h
    refine ⟨_, (pss_one (ps_ret (pe_and (pe_callB call_isi (by rfl) T.n_isinstance (by decide +kernel) (pa_cons (pv 0) (pa_cons (pe_bltn (v := .ty "int") (by rfl) T.n_int (by decide +kernel) rfl) pa_nil))) (pe_one (pe_not (pe_callB call_isi (by rfl) T.n_isinstance (by decide +kernel) (pa_cons (pv 0) (pa_cons (pe_bltn (v := .ty "bool") (by rfl) T.n_bool (by decide +kernel) rfl) pa_nil)))))))), ?_⟩
    walk_at "ss"
    refine isi ty h1 ?_
    walk_at "ss"
    refine if_cs (fun hb => ?_) (fun hb => ?_)
    · walk_at "ss"
      refine isi ty h2 ?_
      walk_at "ss"
      subst hb
      exact k
    · walk_at "ss"
      subst hb
      exact k
theorem ok_is_within (T : Txt K mg Z) : FnOk P w K mg base CX0 2 Z.f_is_within Z.fd_is_within ["thing", "low", "high"] (sp_is_within K) := by
  have G_is_whole := ok_is_whole (P := P) (w := w) (base := base) T
  refine T.F_is_within.ok sc_is_within (fun vs H Q E h => ?_) (fun cdv AA outer s H vs Q E hr h => ?_)
  · obtain ⟨v, lo, hi, rfl, _⟩ := h
    rfl
  · obtain ⟨v, lo, hi, rfl, k⟩ := h
    refine ⟨_, (pss_one (ps_ret (pe_and (pe_call G_is_whole (hr.mono (by omega)) rfl T.g_is_whole T.F_is_whole.kp T.b_is_whole .nil pass0 (pa_cons (pv 0) pa_nil)) (pe_one (pe_chain op_le op_le (pv 1) (pv 0) (pv 2)))))), ?_⟩
    rcases k with ⟨i, rfl, k⟩ | ⟨n, b1, b2, ty, h1, h2, hb, k⟩
    · walk_at "ss"
      refine u_whole_int ?_
      walk_at "ss"
      refine if_cs (fun hb => ?_) (fun hb => ?_)
      · walk_at "ss"
        rw [hb] at k
        exact k
      · walk_at "ss"
        rw [hb] at k
        exact k
    · walk_at "ss"
      refine ⟨_, _, _, _, rfl, ty, h1, h2, ?_⟩
      walk_at "ss"
      exact if_ff hb k
theorem ok_is_value (T : Txt K mg Z) : FnOk P w K mg base CX0 3 Z.f_is_value Z.fd_is_value ["thing"] (sp_is_value K) := by
  have G_is_within := ok_is_within (P := P) (w := w) (base := base) T
  refine T.F_is_value.ok sc_is_value (fun vs H Q E h => ?_) (fun cdv AA outer s H vs Q E hr h => ?_)
  · obtain ⟨v, rfl, _⟩ := h
    rfl
  · obtain ⟨v, rfl, k⟩ := h
    refine ⟨_, (pss_one (ps_ret (pe_or (pe_callB call_isi (by rfl) T.n_isinstance (by decide +kernel) (pa_cons (pv 0) (pa_cons (pe_bltn (v := .ty "bool") (by rfl) T.n_bool (by decide +kernel) rfl) pa_nil))) (pe_one (pe_call G_is_within (hr.mono (by omega)) rfl T.g_is_within T.F_is_within.kp T.b_is_within .nil pass0 (pa_cons (pv 0) (pa_cons (pe_un un_neg (pe_gcst rfl T.c_MOST)) (pa_cons (pe_gcst rfl T.c_MOST) pa_nil)))))))), ?_⟩
    rcases k with ⟨i, rfl, k⟩ | ⟨b, rfl, k⟩ | ⟨n, ty, h1, h2, k⟩
    · walk_at "ss"
      refine isi (ty_int i) kb_ib ?_
      walk_at "ss"
      refine ⟨_, _, _, rfl, .inl ⟨_, rfl, ?_⟩⟩
      exact k
    · walk_at "ss"
      refine isi (ty_bl b) kb_bb ?_
      walk_at "ss"
      exact k
    · walk_at "ss"
      refine isi ty h2 ?_
      walk_at "ss"
      refine ⟨_, _, _, rfl, .inr ⟨_, _, _, ty, h1, h2, rfl, ?_⟩⟩
      exact k

/-! ### the law's cells and draws -/
def sp_cell_at_l (K : PySem.W.Frag) : Sp := fun vs H Q _ => ∃ (a : Addr) (ns : List Int) (k : Int), vs = [.ref a, .int k] ∧ SqL K H a (ns.map V.int) ∧ 0 ≤ k ∧ ∀ n, Q (.int n) H
def sp_box_l : Sp := fun vs H Q _ => ∃ (c : Int), vs = [.int c] ∧ ∀ p H2, H p = none → Ex H H2 → BoxAt H2 p → Q (.ref p) H2
def sp_take_l : Sp := fun vs H Q _ => ∃ (b : Addr) (m : Int), vs = [.ref b, .int m] ∧ BoxAt H b ∧ 0 < m ∧ m < 1099511627776 ∧ ∀ d H2, 0 ≤ d → d < m → ExB b H H2 → BoxAt H2 b → Q (.int d) H2
theorem ok_cell_at_l (T : Txt K mg Z) : FnOk P w K mg base CX0 1 Z.f_cell_at_l Z.fd_cell_at_l ["_law_script", "_law_k"] (sp_cell_at_l K) := by
  refine T.F_cell_at_l.ok sc_cell_at_l (fun vs H Q E h => ?_) (fun cdv AA outer s H vs Q E hr h => ?_)
  · obtain ⟨a, ns, k, rfl, _⟩ := h
    rfl
  · obtain ⟨a, ns, k, rfl, hS, h0, q⟩ := h
    refine ⟨_, (pss_cons (ps_if (pt_cmpR op_lt (pv 1) (pe_callB call_len_seq (by rfl) T.n_len (by decide +kernel) (pa_cons (pv 0) pa_nil)) (nomark _)) (pss_one (ps_ret (pe_ix ix_list (pv 0) (pv 1) (fun _ _ => rfl)))) pss_nil)
      (pss_one (ps_ret (pe_op op_add (pe_op op_mul pe_int (pv 1)) pe_int)))), ?_⟩
    walk_at "ss"
    refine ⟨_, _, rfl, .inl hS, ?_⟩
    walk_at "ss"
    refine if_cs (fun hb => ?_) (fun hb => ?_)
    · walk_at "ss"
      obtain ⟨j, rfl⟩ := Int.eq_ofNat_of_zero_le h0
      have hl := of_decide_eq_true hb
      rw [List.length_map] at hl
      have hj : j < ns.length := by omega
      refine c_ixL hS (atI_nat (v := .int (ns[j]'hj)) ?_) (q _)
      rw [List.getElem?_map, List.getElem?_eq_getElem hj] <;> rfl
    · walk_at "ss"
      refine c_I (.inl ⟨by decide, by decide⟩) ?_
      walk_at "ss"
      exact q _
theorem int_mul01 {a : Int} {b : Bool} : CMul a (if b = true then 1 else 0) := by
  refine .inr ?_
  cases b
  · exact ⟨by decide, by decide⟩
  · exact ⟨by decide, by decide⟩
theorem ok_box_l (T : Txt K mg Z) : FnOk P w K mg base CX0 1 Z.f_box_l Z.fd_box_l ["_law_cell"] sp_box_l := by
  refine T.F_box_l.ok sc_box_l (fun vs H Q E h => ?_) (fun cdv AA outer s H vs Q E hr h => ?_)
  · obtain ⟨c, rfl, _⟩ := h
    rfl
  · obtain ⟨c, rfl, k⟩ := h
    refine ⟨_, (pss_one (ps_ret (pe_lst (pa_cons (pe_op op_mul (pe_callB (call_max2 rfl) (by rfl) T.n_max (by decide +kernel) (pa_cons pe_int (pa_cons (pv 0) pa_nil))) (pe_callTy call_int1 (by rfl) T.n_int (by decide +kernel) (pa_cons (pe_cmpR op_ge (pv 0) (pe_op op_pow pe_int pe_int) (nomark _)) pa_nil))) (pa_cons (pe_op op_mod (pv 0) pe_int) (pa_cons pe_int pa_nil)))))), ?_⟩
    walk_at "ss"
    refine ⟨_, _, rfl, ?_⟩
    walk_at "ss"
    refine c_I ⟨by decide, by decide, by decide⟩ ?_
    walk_at "ss"
    refine .inr ⟨_, rfl, ?_⟩
    walk_at "ss"
    refine c_I int_mul01 ?_
    walk_at "ss"
    refine c_I (by decide) ?_
    walk_at "ss"
    refine newL fun p H2 hp e2 h2 => k p H2 hp e2 ⟨_, _, _, ?_, h2⟩
    refine Int.mul_nonneg ?_ ?_
    · split <;> omega
    · split <;> omega
theorem ix3_0 {a b c : V} : atI [a, b, c] 0 = some a := rfl
theorem ix3_1 {a b c : V} : atI [a, b, c] 1 = some b := rfl
theorem ix3_2 {a b c : V} : atI [a, b, c] 2 = some c := rfl
theorem emod_mul {a m : Int} (h : 0 < m) (hm : m < 1073741824 * 1073741824) {b : Int} : CMul (a % m) b := by
  have h1 := Int.emod_nonneg a (by omega : m ≠ 0)
  have h2 := Int.emod_lt_of_pos a h
  exact .inl ⟨by omega, by omega⟩
theorem emod_mulR {a m : Int} (h : 0 < m) (hm : m < 1073741824 * 1073741824) {b : Int} : CMul b (a % m) := by
  have h1 := Int.emod_nonneg a (by omega : m ≠ 0)
  have h2 := Int.emod_lt_of_pos a h
  exact .inr ⟨by omega, by omega⟩
theorem divW {i m : Int} (h : 0 < m) (hm : m < 1099511627776) : CDivW i m := by
  refine ⟨h, ?_⟩
  have h0 : m.natAbs ≠ 0 := by omega
  have : m.natAbs.log2 < 40 := (Nat.log2_lt h0).mpr (by omega)
  omega
theorem ok_take_l (T : Txt K mg Z) : FnOk P w K mg base CX0 1 Z.f_take_l Z.fd_take_l ["_law_box_here", "_law_many"] sp_take_l := by
  refine T.F_take_l.ok sc_take_l (fun vs H Q E h => ?_) (fun cdv AA outer s H vs Q E hr h => ?_)
  · obtain ⟨b, m, rfl, _⟩ := h
    rfl
  · obtain ⟨b, m, rfl, ⟨x, y, z, hx, hB⟩, m0, m1, k⟩ := h
    refine ⟨_, (pss_cons (ps_if (pt_cmpR op_gt (pe_ix ix_list (pv 0) pe_int (fun _ _ => rfl)) pe_int (nomark _)) (pss_cons (ps_set (i := 2) sc_take_l.nd rfl (Or.inl rfl) (pe_op op_mod (pe_ix ix_list (pv 0) pe_int (fun _ _ => rfl)) (pv 1)))
      (pss_cons (ps_asg (pe_op op_fdivW (pe_ix ix_list (pv 0) pe_int (fun _ _ => rfl)) (pv 1)) (pg_sub (pv 0) pe_int set_list))
      (pss_one (ps_ret (pv 2))))) pss_nil)
      (pss_cons (ps_asg (pe_op op_add (pe_ix ix_list (pv 0) pe_int (fun _ _ => rfl)) pe_int) (pg_sub (pv 0) pe_int set_list))
      (pss_cons (ps_set (i := 3) sc_take_l.nd rfl (Or.inl rfl) (pe_op op_mod (pe_op op_add (pe_op op_add (pe_op op_mul (pe_ix ix_list (pv 0) pe_int (fun _ _ => rfl)) pe_int) (pe_op op_mul pe_int (pe_ix ix_list (pv 0) pe_int (fun _ _ => rfl)))) pe_int) pe_int))
      (pss_cons (ps_set (i := 3) sc_take_l.nd rfl (Or.inl rfl) (pe_op op_mod (pe_op op_mul (pe_op op_add (pv 3) (pe_op op_mul pe_int (pe_ix ix_list (pv 0) pe_int (fun _ _ => rfl)))) (pv 3)) pe_int))
      (pss_one (ps_ret (pe_op op_mod (pe_op op_fdiv (pe_op op_mod (pe_op op_mul (pe_op op_mod (pe_op op_add (pe_op op_mul (pv 3) pe_int) pe_int) pe_int) (pe_op op_add (pv 3) pe_int)) pe_int) pe_int) (pv 1)))))))), ?_⟩
    walk_at "ss"
    refine c_ixL (SqL.of hB) ix3_0 ?_
    walk_at "ss"
    refine if_cs (fun hb => ?_) (fun hb => ?_)
    · walk_at "ss"
      refine c_ixL (SqL.of hB) ix3_0 ?_
      walk_at "ss"
      refine c_I m0 ?_
      walk_at "ss"
      refine c_ixL (SqL.of hB) ix3_0 ?_
      walk_at "ss"
      refine c_I (divW m0 m1) ?_
      walk_at "ss"
      refine c_setL hB rfl ?_
      walk_at "ss"
      refine k _ _ (Int.emod_nonneg _ (by omega)) (Int.emod_lt_of_pos _ m0) ExB.upd ⟨_, _, _, Int.ediv_nonneg hx (by omega), upd_same⟩
    · walk_at "ss"
      refine c_ixL (SqL.of hB) ix3_2 ?_
      walk_at "ss"
      refine c_setL hB rfl ?_
      have hB2 : (upd H b (.lst [.int x, .int y, .int (z + 1)])) b = some (.lst [.int x, .int y, .int (z + 1)]) := upd_same
      walk_at "ss"
      refine c_ixL (SqL.of hB2) ix3_1 ?_
      walk_at "ss"
      refine c_I (.inr ⟨by decide, by decide⟩) ?_
      walk_at "ss"
      refine c_ixL (SqL.of hB2) ix3_2 ?_
      walk_at "ss"
      refine c_I (.inl ⟨by decide, by decide⟩) ?_
      walk_at "ss"
      refine c_I (by decide) ?_
      walk_at "ss"
      refine c_ixL (SqL.of hB2) ix3_2 ?_
      walk_at "ss"
      refine c_I (.inl ⟨by decide, by decide⟩) ?_
      walk_at "ss"
      refine c_I (emod_mulR (by decide) (by decide)) ?_
      walk_at "ss"
      refine c_I (by decide) ?_
      walk_at "ss"
      refine c_I (.inr ⟨by decide, by decide⟩) ?_
      walk_at "ss"
      refine c_I (by decide) ?_
      walk_at "ss"
      refine c_I (emod_mul (by decide) (by decide)) ?_
      walk_at "ss"
      refine c_I (by decide) ?_
      walk_at "ss"
      refine c_I ⟨by decide, by decide⟩ ?_
      walk_at "ss"
      refine c_I m0 ?_
      exact k _ _ (Int.emod_nonneg _ (by omega)) (Int.emod_lt_of_pos _ m0) ExB.upd ⟨_, _, _, hx, upd_same⟩

theorem box_ne {H : Hp} {b a : Addr} {o : HO} (h : BoxAt H b) (ha : H a = some o) (n : ∀ x y z : Int, o ≠ .lst [.int x, .int y, .int z]) : a ≠ b := by
  obtain ⟨x, y, z, _, q⟩ := h
  exact ne_of ha q (n x y z)
theorem at4 {v0 v1 v2 v3 : V} {d : Int} (h0 : 0 ≤ d) (h1 : d < 4) : ∃ v, atI [v0, v1, v2, v3] d = some v ∧ (d = 0 ∧ v = v0 ∨ d = 1 ∧ v = v1 ∨ d = 2 ∧ v = v2 ∨ d = 3 ∧ v = v3) := by
  have : d = 0 ∨ d = 1 ∨ d = 2 ∨ d = 3 := by omega
  rcases this with rfl | rfl | rfl | rfl
  · exact ⟨v0, rfl, .inl ⟨rfl, rfl⟩⟩
  · exact ⟨v1, rfl, .inr (.inl ⟨rfl, rfl⟩)⟩
  · exact ⟨v2, rfl, .inr (.inr (.inl ⟨rfl, rfl⟩))⟩
  · exact ⟨v3, rfl, .inr (.inr (.inr ⟨rfl, rfl⟩))⟩
/-- an item of a list that is asked by a draw: it is one of them -/
theorem at_in {xs : List V} {d : Int} (h0 : 0 ≤ d) (h1 : d < (xs.length : Int)) : ∃ v, atI xs d = some v ∧ v ∈ xs := by
  obtain ⟨j, rfl⟩ := Int.eq_ofNat_of_zero_le h0
  have hj : j < xs.length := by omega
  exact ⟨xs[j], atI_nat (List.getElem?_eq_getElem hj), List.getElem_mem hj⟩

/-! ### names -/
open TL (tl)
def ownW : List Str := ["node", "in", "out", "before", "when", "hold", "like", "same", "call", "true", "false", "mod", "beat", "desk"]
def ownV : List V := ownW.map V.str
def letC (c : Nat) : Bool := decide (97 ≤ c) && decide (c ≤ 122)
theorem tl_let : ∀ c : Nat, decide (c ∈ tl "abcdefghijklmnopqrstuvwxyz") = letC c := by
  intro c
  have e : tl "abcdefghijklmnopqrstuvwxyz" = [97, 98, 99, 100, 101, 102, 103, 104, 105, 106, 107, 108, 109, 110, 111, 112, 113, 114, 115, 116, 117, 118, 119, 120, 121, 122] := by decide +kernel
  rw [e]
  unfold letC
  rw [Bool.eq_iff_iff, decide_eq_true_eq, Bool.and_eq_true, decide_eq_true_eq, decide_eq_true_eq]
  simp only [List.mem_cons, List.not_mem_nil, or_false]
  omega
def isName (t : Str) : Bool := (decide (1 ≤ (t.length : Int)) && decide ((t.length : Int) ≤ 8)) && !inV (.str t) ownV && (tl t).all letC
def isPointed (t : Str) : Bool := decide ((t.length : Int) ≤ 80) && (Txt.split t ".").all isName
theorem kb_ss : kitB "str" "str" = some true := by decide +kernel
def sp_is_name (K : PySem.W.Frag) : Sp := fun vs H Q _ => ∃ (v : V), vs = [v] ∧ ((∃ t : Str, v = .str t ∧ t.length ≤ 50000 ∧ RetV (.bl (isName t)) H Q) ∨ ∃ n : String, TyX K H v (.type n) ∧ kitB n "str" = some false ∧ Q (.bl false) H)
theorem own_flat : ownV.all flatV = true := rfl
theorem ok_is_name (T : Txt K mg Z) : FnOk P w K mg base CX0 1 Z.f_is_name Z.fd_is_name ["thing"] (sp_is_name K) := by
  refine T.F_is_name.ok sc_is_name (fun vs H Q E h => ?_) (fun cdv AA outer s H vs Q E hr h => ?_)
  · obtain ⟨v, rfl, _⟩ := h
    rfl
  · obtain ⟨v, rfl, h⟩ := h
    refine ⟨_, (pss_cons (ps_if (PW.pt (pw_or (pt_not (pt_val (pe_callB call_isi (by rfl) T.n_isinstance (by decide +kernel) (pa_cons (pv 0) (pa_cons (pe_bltn (v := .ty "str") (by rfl) T.n_str (by decide +kernel) rfl) pa_nil))))) (pw_or (pt_not (pt_chain op_le op_le pe_int (pe_callB call_len_str (by rfl) T.n_len (by decide +kernel) (pa_cons (pv 0) pa_nil)) (pe_gcst rfl T.c_LONGEST))) (pw_or1 (pt_cmpR op_in_seq (pv 0) (pe_gcst rfl T.c_OWN) (by rfl)))))) (pss_one (ps_ret pe_bl)) pss_nil)
      (pss_one (ps_ret (pe_callB (cr_all rfl) (by rfl) T.n_all (by decide +kernel) (pa_cons (pe_lc (own := [("sign", 1)]) (g := (gName 1)) (tt := tYes) (te := (tOp (fun x y H Q => ∃ (c : Nat) (z : Str), x = .str ⟨#[c]⟩ ∧ y = .str z ∧ Q (.bl (decide (c ∈ z.cps.toList))) H) (tVar 1) (tC (.str "abcdefghijklmnopqrstuvwxyz")))) rfl sc_is_name.nd (pi_str (pv 0)) (blkOk_by (own := [("sign", 1)]) (N := N_is_name) (sc := defScope s_is_name) (by decide +kernel)) (fun _ _ _ _ _ => (pg_name (i := 1) sc_is_name.nd rfl (Or.inl rfl))) (fun _ _ _ _ _ => pts_nil) (fun _ _ _ _ _ => (pe_cmpR op_in_sign (pv 1) (pe_gcst rfl T.c_LETTERS) (by rfl)))) pa_nil))))), ?_⟩
    rcases h with ⟨t, rfl, hl, k⟩ | ⟨n, ty, kb, k⟩
    · unfold isName at k
      walk_at "ss"
      refine isi (ty_str t) kb_ss ?_
      walk_at "ss"
      refine ⟨Evl.sz_of (by omega), ?_⟩
      walk_at "ss"
      cases hlen : (decide (1 ≤ (t.length : Int)) && decide ((t.length : Int) ≤ 8)) with
      | false =>
        rw [hlen] at k
        refine if_cs (fun h1 => ?_) (fun h1 => ?_)
        · walk_at "ss"
          rw [h1, Bool.true_and] at hlen
          rw [hlen]
          walk_at "ss"
          exact k _ (Ex.refl _)
        · walk_at "ss"
          exact k _ (Ex.refl _)
      | true =>
        rw [hlen, Bool.true_and] at k
        rw [Bool.and_eq_true] at hlen
        rw [hlen.1]
        walk_at "ss"
        rw [hlen.2]
        walk_at "ss"
        refine c_in (.inr (T.t_OWN _)) rfl own_flat ?_
        refine ⟨_, rfl, if_cs (fun ho => ?_) (fun ho => ?_)⟩
        · have ho' : inV (.str t) ownV = true := ho
          rw [ho'] at k
          walk_at "ss"
          exact k _ (Ex.refl _)
        have ho' : inV (.str t) ownV = false := ho
        rw [ho', Bool.not_false, Bool.true_and] at k
        walk_at "ss"
        refine lcS (fun c => some (.bl (letC c))) hl (fun c hc => ?_) ?_
        · intro H2 e2 R hR
          walk_at "ss"
          rw [show decide (c ∈ (Str.ofString "abcdefghijklmnopqrstuvwxyz").cps.toList) = letC c from tl_let c]
          exact hR _ (Ex.refl _)
        rw [fm_some]
        intro p H2 hp e2 h2
        walk_at "ss"
        refine ⟨p, (tl t).map letC, rfl, SqL.of (by rw [h2, List.map_map]; rfl), ?_⟩
        have ea : ((tl t).map letC).all id = (tl t).all letC := by rw [List.all_map]; rfl
        rw [ea]
        exact k _ e2
    · walk_at "ss"
      refine isi ty kb ?_
      walk_at "ss"
      exact k
/-! parts of a split text -/
theorem spl_parts (S : List Nat) : ∀ (k : Nat) (acc l : List Nat) (p : List Nat), p ∈ TL.spl S k acc l → p.length ≤ acc.length + l.length ∧ ∀ c ∈ p, c ∈ acc ∨ c ∈ l := by
  intro k acc l
  induction l generalizing k acc with
  | nil =>
    intro p hp
    rw [TL.spl_nil] at hp
    have : p = acc := by simpa using hp
    subst this
    exact ⟨by simp, fun c hc => .inl hc⟩
  | cons a l ih =>
    intro p hp
    cases k with
    | succ k =>
      have hp' : p ∈ TL.spl S k acc l := hp
      obtain ⟨h1, h2⟩ := ih k acc p hp'
      exact ⟨by rw [List.length_cons]; omega, fun c hc => (h2 c hc).imp id (List.mem_cons_of_mem _)⟩
    | zero =>
      cases hh : TL.pre S (a :: l) with
      | true =>
        rw [TL.spl_hit hh] at hp
        rcases List.mem_cons.mp hp with rfl | hp
        · exact ⟨by omega, fun c hc => .inl hc⟩
        · obtain ⟨h1, h2⟩ := ih _ [] p hp
          exact ⟨by rw [List.length_nil] at h1; rw [List.length_cons]; omega, fun c hc => .inr (List.mem_cons_of_mem _ ((h2 c hc).resolve_left (by simp)))⟩
      | false =>
        rw [TL.spl_miss hh] at hp
        obtain ⟨h1, h2⟩ := ih 0 (acc ++ [a]) p hp
        refine ⟨by rw [List.length_append, List.length_singleton] at h1; rw [List.length_cons]; omega, fun c hc => ?_⟩
        rcases h2 c hc with h | h
        · rcases List.mem_append.mp h with h | h
          · exact .inl h
          · exact .inr (by have : c = a := by simpa using h
                           rw [this]; exact List.mem_cons_self)
        · exact .inr (List.mem_cons_of_mem _ h)
theorem split_pt {t p : Str} (h : p ∈ Txt.split t ".") : p.length ≤ t.length ∧ ∀ c ∈ tl p, c ∈ tl t := by
  have e := TL.split_spl t "." (by decide +kernel) (TL.kind_ok (by decide +kernel))
  have hm : tl p ∈ TL.spl (tl ".") 0 [] (tl t) := by
    rw [← e]
    exact List.mem_map_of_mem h
  obtain ⟨h1, h2⟩ := spl_parts _ _ _ _ _ hm
  rw [tl_len, tl_len, List.length_nil, Nat.zero_add] at h1
  exact ⟨h1, fun c hc => (h2 c hc).resolve_left (by simp)⟩
def sp_is_pointed (K : PySem.W.Frag) : Sp := fun vs H Q _ => ∃ (v : V), vs = [v] ∧ ((∃ t : Str, v = .str t ∧ t.length ≤ 40000 ∧ RetV (.bl (isPointed t)) H Q) ∨ ∃ n : String, TyX K H v (.type n) ∧ kitB n "str" = some false ∧ Q (.bl false) H)
theorem spl_count (S : List Nat) : ∀ (k : Nat) (acc l : List Nat), (TL.spl S k acc l).length ≤ l.length + 1 := by
  intro k acc l
  induction l generalizing k acc with
  | nil => rw [TL.spl_nil]; simp
  | cons a l ih =>
    cases k with
    | succ k => exact Nat.le_trans (ih k acc) (by rw [List.length_cons]; omega)
    | zero =>
      cases hh : TL.pre S (a :: l) with
      | true =>
        rw [TL.spl_hit hh, List.length_cons, List.length_cons]
        exact Nat.succ_le_succ (ih _ [])
      | false =>
        rw [TL.spl_miss hh, List.length_cons]
        exact Nat.le_trans (ih 0 _) (by omega)
theorem split_count {t : Str} : (Txt.split t ".").length ≤ t.length + 1 := by
  have e := TL.split_spl t "." (by decide +kernel) (TL.kind_ok (by decide +kernel))
  have h := spl_count (tl ".") 0 [] (tl t)
  rw [← e, List.length_map, tl_len] at h
  exact h
theorem ok_is_pointed (T : Txt K mg Z) : FnOk P w K mg base CX0 2 Z.f_is_pointed Z.fd_is_pointed ["thing"] (sp_is_pointed K) := by
  have G_is_name := ok_is_name (P := P) (w := w) (base := base) T
  refine T.F_is_pointed.ok sc_is_pointed (fun vs H Q E h => ?_) (fun cdv AA outer s H vs Q E hr h => ?_)
  · obtain ⟨v, rfl, _⟩ := h
    rfl
  · obtain ⟨v, rfl, h⟩ := h
    refine ⟨_, (pss_cons (ps_if (PW.pt (pw_or (pt_not (pt_val (pe_callB call_isi (by rfl) T.n_isinstance (by decide +kernel) (pa_cons (pv 0) (pa_cons (pe_bltn (v := .ty "str") (by rfl) T.n_str (by decide +kernel) rfl) pa_nil))))) (pw_or1 (pt_cmpR op_gt (pe_callB call_len_str (by rfl) T.n_len (by decide +kernel) (pa_cons (pv 0) pa_nil)) (pe_gcst rfl T.c_MOST_SIGNS) (nomark _))))) (pss_one (ps_ret pe_bl)) pss_nil)
      (pss_one (ps_ret (pe_callB (cr_all rfl) (by rfl) T.n_all (by decide +kernel) (pa_cons (pe_lc (own := [("part", 1)]) (g := (gName 1)) (tt := tYes) (te := (tCall (sp_is_name K) [] E0 (tCons (tVar 1) tNil))) rfl sc_is_pointed.nd (pi_list (pe_split (pv 0) pe_str)) (blkOk_by (own := [("part", 1)]) (N := N_is_pointed) (sc := defScope s_is_pointed) (by decide +kernel)) (fun _ _ _ _ _ => (pg_name (i := 1) sc_is_pointed.nd rfl (Or.inl rfl))) (fun _ _ _ _ _ => pts_nil) (fun _ _ _ _ _ => (pe_call G_is_name (hr.mono (by omega)) rfl T.g_is_name T.F_is_name.kp T.b_is_name .nil pass0 (pa_cons (pv 1) pa_nil)))) pa_nil))))), ?_⟩
    rcases h with ⟨t, rfl, hl, k⟩ | ⟨n, ty, kb, k⟩
    · unfold isPointed at k
      walk_at "ss"
      refine isi (ty_str t) kb_ss ?_
      walk_at "ss"
      refine ⟨Evl.sz_of (by omega), ?_⟩
      walk_at "ss"
      refine if_cs (fun h80 => ?_) (fun h80 => ?_)
      · have : ¬ (t.length : Int) ≤ 80 := by have := of_decide_eq_true h80; omega
        rw [decide_eq_false this] at k
        walk_at "ss"
        exact k _ (Ex.refl _)
      have : (t.length : Int) ≤ 80 := by have := of_decide_eq_false h80; omega
      rw [decide_eq_true this, Bool.true_and] at k
      walk_at "ss"
      refine ⟨⟨_, rfl⟩, ?_⟩
      walk_at "ss"
      refine ⟨Evl.sz_of (by omega), fun q hq => ?_⟩
      have f1 : Ex H (upd H q (.lst ((Txt.split t ".").map V.str))) := Ex.new hq
      generalize hH1 : upd H q (.lst ((Txt.split t ".").map V.str)) = H1 at f1
      have g1 : H1 q = some (.lst ((Txt.split t ".").map V.str)) := by rw [← hH1, upd_same]
      walk_at "ss"
      refine ⟨⟨_, SqL.of g1⟩, lcLv (fun v => match v with | .str p => some (.bl (isName p)) | _ => none) (SqL.of g1) (by have := split_count (t := t); rw [List.length_map]; omega) (fun v hv => ?_) ?_⟩
      · obtain ⟨p, hp, rfl⟩ := List.mem_map.mp hv
        have hpl := (split_pt hp).1
        intro H2 e2 R hR
        walk_at "ss"
        refine ⟨_, rfl, .inl ⟨_, rfl, by omega, fun H3 e3 => ?_⟩⟩
        exact hR _ e3
      have em : ((Txt.split t ".").map V.str).filterMap (fun v => match v with | .str p => some (V.bl (isName p)) | _ => none) = ((Txt.split t ".").map isName).map V.bl := by
        rw [List.filterMap_map, List.map_map]
        exact fm_some (F := fun p => V.bl (isName p)) _
      rw [em]
      intro p2 H2 hp2 e2 g2
      walk_at "ss"
      refine ⟨p2, (Txt.split t ".").map isName, rfl, SqL.of g2, ?_⟩
      have ea : ((Txt.split t ".").map isName).all id = (Txt.split t ".").all isName := by rw [List.all_map]; rfl
      rw [ea]
      exact k _ (f1.trans e2)
    · walk_at "ss"
      refine isi ty kb ?_
      walk_at "ss"
      exact k

/-! ### terms: the plain side -/
inductive Tm where
  | nm (s : Str)
  | vl (v : V)
  | two (op : Str) (a b : Tm)
  | nt (a : Tm)
  | pk (c a b : Tm)
def Tm.parts : Tm → List Tm
  | .two _ a b => [a, b]
  | .nt a => [a]
  | .pk c a b => [c, a, b]
  | _ => []
def Tm.dep : Tm → Nat
  | .nm _ => 1
  | .vl _ => 1
  | .two _ a b => 1 + max a.dep b.dep
  | .nt a => 1 + a.dep
  | .pk c a b => 1 + max (max c.dep a.dep) b.dep
def addN (found more : List Str) : List Str := found ++ more.filter fun n => !found.contains n
def Tm.names : Tm → List Str
  | .nm s => [s]
  | .vl _ => []
  | .two _ a b => addN (addN [] a.names) b.names
  | .nt a => addN [] a.names
  | .pk c a b => addN (addN (addN [] c.names) a.names) b.names
theorem Tm.names_parts (t : Tm) (h : ∀ s, t ≠ .nm s) : t.names = t.parts.foldl (fun acc p => addN acc p.names) [] := by
  cases t with
  | nm s => exact absurd rfl (h s)
  | vl v => rfl
  | two op a b => rfl
  | nt a => rfl
  | pk c a b => rfl
theorem Tm.dep_parts (t : Tm) : (t.dep : Int) = 1 + maxL (t.parts.map fun p => (p.dep : Int)) := by
  have m2 : ∀ a b : Nat, PySem.W.maxOf (a : Int) [(b : Int)] = ((max a b : Nat) : Int) := by
    intro a b
    show (if decide ((a : Int) < (b : Int)) = true then (b : Int) else (a : Int)) = _
    by_cases h : (a : Int) < (b : Int)
    · rw [if_pos (decide_eq_true h)]; omega
    · rw [if_neg (by rw [decide_eq_false h]; decide)]; omega
  have m3 : ∀ a b c : Nat, PySem.W.maxOf (a : Int) [(b : Int), (c : Int)] = ((max (max a b) c : Nat) : Int) := by
    intro a b c
    have h1 := m2 a b
    have h2 := m2 (max a b) c
    show PySem.W.maxOf (PySem.W.maxOf (a : Int) [(b : Int)]) [(c : Int)] = _
    rw [h1, h2]
  cases t with
  | nm s => rfl
  | vl v => rfl
  | two op a b =>
    show ((1 + max a.dep b.dep : Nat) : Int) = 1 + PySem.W.maxOf (a.dep : Int) [(b.dep : Int)]
    rw [m2]; omega
  | nt a =>
    show ((1 + a.dep : Nat) : Int) = 1 + (a.dep : Int)
    omega
  | pk c a b =>
    show ((1 + max (max c.dep a.dep) b.dep : Nat) : Int) = 1 + PySem.W.maxOf (c.dep : Int) [(a.dep : Int), (b.dep : Int)]
    rw [m3]; omega
theorem Tm.dep_pos (t : Tm) : 1 ≤ t.dep := by cases t <;> simp [Tm.dep] <;> omega
theorem Tm.dep_part {t p : Tm} (h : p ∈ t.parts) : p.dep + 1 ≤ t.dep := by
  cases t with
  | nm s => cases h
  | vl v => cases h
  | two op a b =>
    simp only [Tm.parts, List.mem_cons, List.not_mem_nil, or_false] at h
    rcases h with rfl | rfl <;> simp only [Tm.dep] <;> omega
  | nt a =>
    simp only [Tm.parts, List.mem_cons, List.not_mem_nil, or_false] at h
    subst h; simp only [Tm.dep]; omega
  | pk c a b =>
    simp only [Tm.parts, List.mem_cons, List.not_mem_nil, or_false] at h
    rcases h with rfl | rfl | rfl <;> simp only [Tm.dep] <;> omega
theorem Tm.parts_len (t : Tm) : t.parts.length ≤ 3 := by cases t <;> simp [Tm.parts]
/-! ### terms in the heap -/
def TermAt (Z : Adr) (H : Hp) : Tm → V → Prop
  | .nm s, v => ∃ a dx, v = .ref a ∧ H a = some (.ins Z.c_Name dx [("name", .str s)])
  | .vl x, v => ∃ a dx, v = .ref a ∧ H a = some (.ins Z.c_Value dx [("amount", x)])
  | .two op p q, v => ∃ a dx v1 v2, v = .ref a ∧ H a = some (.ins Z.c_Two dx [("op", .str op), ("one", v1), ("second", v2)]) ∧ TermAt Z H p v1 ∧ TermAt Z H q v2
  | .nt p, v => ∃ a dx v1, v = .ref a ∧ H a = some (.ins Z.c_Not dx [("one", v1)]) ∧ TermAt Z H p v1
  | .pk c p q, v => ∃ a dx v0 v1 v2, v = .ref a ∧ H a = some (.ins Z.c_Pick dx [("by", v0), ("one", v1), ("second", v2)]) ∧ TermAt Z H c v0 ∧ TermAt Z H p v1 ∧ TermAt Z H q v2
def InsK (H H2 : Hp) : Prop := ∀ a C dx fs, H a = some (.ins C dx fs) → H2 a = some (.ins C dx fs)
theorem TermAt.keep {Z : Adr} {H H2 : Hp} (e : InsK H H2) : ∀ {t : Tm} {v : V}, TermAt Z H t v → TermAt Z H2 t v := by
  intro t
  induction t with
  | nm s => rintro v ⟨a, dx, h1, h2⟩; exact ⟨a, dx, h1, e _ _ _ _ h2⟩
  | vl x => rintro v ⟨a, dx, h1, h2⟩; exact ⟨a, dx, h1, e _ _ _ _ h2⟩
  | two op p q ihp ihq => rintro v ⟨a, dx, v1, v2, h1, h2, h3, h4⟩; exact ⟨a, dx, v1, v2, h1, e _ _ _ _ h2, ihp h3, ihq h4⟩
  | nt p ihp => rintro v ⟨a, dx, v1, h1, h2, h3⟩; exact ⟨a, dx, v1, h1, e _ _ _ _ h2, ihp h3⟩
  | pk c p q ihc ihp ihq => rintro v ⟨a, dx, v0, v1, v2, h1, h2, h3, h4, h5⟩; exact ⟨a, dx, v0, v1, v2, h1, e _ _ _ _ h2, ihc h3, ihp h4, ihq h5⟩
theorem TermAt.up {Z : Adr} {H H2 : Hp} {t : Tm} {v : V} (h : TermAt Z H t v) (e : Ex H H2) : TermAt Z H2 t v := h.keep fun a C dx fs q => e _ _ q
theorem TermAt.upB {Z : Adr} {H H2 : Hp} {t : Tm} {v : V} {b : Addr} (h : TermAt Z H t v) (e : ExB b H H2) (hB : BoxAt H b) : TermAt Z H2 t v := h.keep fun a C dx fs q => e _ _ (box_ne hB q (fun _ _ _ z => by cases z)) q
def MC (Z : Adr) (C : Addr) : Prop := C = Z.c_Name ∨ C = Z.c_Value ∨ C = Z.c_Two ∨ C = Z.c_Not ∨ C = Z.c_Pick
/-- the class that a term is made of -/
def clsT (Z : Adr) : Tm → Addr
  | .nm _ => Z.c_Name
  | .vl _ => Z.c_Value
  | .two .. => Z.c_Two
  | .nt _ => Z.c_Not
  | .pk .. => Z.c_Pick
theorem clsT_MC (Z : Adr) (t : Tm) : MC Z (clsT Z t) := by
  cases t
  · exact .inl rfl
  · exact .inr (.inl rfl)
  · exact .inr (.inr (.inl rfl))
  · exact .inr (.inr (.inr (.inl rfl)))
  · exact .inr (.inr (.inr (.inr rfl)))
def fieldsOff (fs : List (Str × V)) : Prop := fs.lookup ("parts" : Str) = none ∧ fs.lookup ("names" : Str) = none ∧ fs.lookup ("levels" : Str) = none ∧ fs.lookup ("told" : Str) = none
theorem TermAt.cls {Z : Adr} {H : Hp} {t : Tm} {v : V} (h : TermAt Z H t v) : ∃ a dx fs, v = .ref a ∧ H a = some (.ins (clsT Z t) dx fs) ∧ fieldsOff fs := by
  have n1 : ∀ m f : Str, m ≠ f → (m == f) = false := fun m f h => by simpa using h
  cases t with
  | nm s =>
    obtain ⟨a, dx, h1, h2⟩ := h
    refine ⟨a, dx, _, h1, h2, ?_, ?_, ?_, ?_⟩ <;> (simp only [List.lookup]; rw [n1 _ _ (by decide +kernel)])
  | vl x =>
    obtain ⟨a, dx, h1, h2⟩ := h
    refine ⟨a, dx, _, h1, h2, ?_, ?_, ?_, ?_⟩ <;> (simp only [List.lookup]; rw [n1 _ _ (by decide +kernel)])
  | two op p q =>
    obtain ⟨a, dx, v1, v2, h1, h2, _⟩ := h
    refine ⟨a, dx, _, h1, h2, ?_, ?_, ?_, ?_⟩ <;> (simp only [List.lookup]; rw [n1 _ _ (by decide +kernel)]; simp only []; rw [n1 _ _ (by decide +kernel)]; simp only []; rw [n1 _ _ (by decide +kernel)])
  | nt p =>
    obtain ⟨a, dx, v1, h1, h2, _⟩ := h
    refine ⟨a, dx, _, h1, h2, ?_, ?_, ?_, ?_⟩ <;> (simp only [List.lookup]; rw [n1 _ _ (by decide +kernel)])
  | pk c p q =>
    obtain ⟨a, dx, v0, v1, v2, h1, h2, _⟩ := h
    refine ⟨a, dx, _, h1, h2, ?_, ?_, ?_, ?_⟩ <;> (simp only [List.lookup]; rw [n1 _ _ (by decide +kernel)]; simp only []; rw [n1 _ _ (by decide +kernel)]; simp only []; rw [n1 _ _ (by decide +kernel)])

/-! ### methods of terms: parts, levels, names -/
theorem lk_hd {f : Str} {v : V} {fs : List (Str × V)} : List.lookup f ((f, v) :: fs) = some v := by simp [List.lookup]
theorem lk_tl {f g : Str} {v : V} {fs : List (Str × V)} {r : Option V} (h : (f == g) = false) (k : List.lookup f fs = r) : List.lookup f ((g, v) :: fs) = r := by
  simp only [List.lookup, h]
  exact k
theorem put_tl {f g : Str} {v w : V} {fs : List (Str × V)} (h : decide (g = f) = false) : putF f v ((g, w) :: fs) = (g, w) :: putF f v fs := by rw [putF, if_neg (of_decide_eq_false h)]
theorem cls_two (T : Txt K mg Z) {t : Tm} (h : clsT Z t = Z.c_Two) : ∃ op a b, t = .two op a b := by
  cases t with
  | nm s => exact absurd h (difB_ne (i := 0) (j := 2) T.fact_dif rfl rfl (by decide))
  | vl s => exact absurd h (difB_ne (i := 1) (j := 2) T.fact_dif rfl rfl (by decide))
  | two op a b => exact ⟨_, _, _, rfl⟩
  | nt a => exact absurd h.symm (difB_ne (i := 2) (j := 3) T.fact_dif rfl rfl (by decide))
  | pk c a b => exact absurd h.symm (difB_ne (i := 2) (j := 4) T.fact_dif rfl rfl (by decide))
theorem cls_nt (T : Txt K mg Z) {t : Tm} (h : clsT Z t = Z.c_Not) : ∃ a, t = .nt a := by
  cases t with
  | nm s => exact absurd h (difB_ne (i := 0) (j := 3) T.fact_dif rfl rfl (by decide))
  | vl s => exact absurd h (difB_ne (i := 1) (j := 3) T.fact_dif rfl rfl (by decide))
  | two op a b => exact absurd h (difB_ne (i := 2) (j := 3) T.fact_dif rfl rfl (by decide))
  | nt a => exact ⟨_, rfl⟩
  | pk c a b => exact absurd h.symm (difB_ne (i := 3) (j := 4) T.fact_dif rfl rfl (by decide))
theorem cls_pk (T : Txt K mg Z) {t : Tm} (h : clsT Z t = Z.c_Pick) : ∃ c a b, t = .pk c a b := by
  cases t with
  | nm s => exact absurd h (difB_ne (i := 0) (j := 4) T.fact_dif rfl rfl (by decide))
  | vl s => exact absurd h (difB_ne (i := 1) (j := 4) T.fact_dif rfl rfl (by decide))
  | two op a b => exact absurd h (difB_ne (i := 2) (j := 4) T.fact_dif rfl rfl (by decide))
  | nt a => exact absurd h (difB_ne (i := 3) (j := 4) T.fact_dif rfl rfl (by decide))
  | pk c a b => exact ⟨_, _, _, rfl⟩
theorem cls_nm (T : Txt K mg Z) {t : Tm} (h : clsT Z t = Z.c_Name) : ∃ s, t = .nm s := by
  cases t with
  | nm s => exact ⟨_, rfl⟩
  | vl s => exact absurd h.symm (difB_ne (i := 0) (j := 1) T.fact_dif rfl rfl (by decide))
  | two op a b => exact absurd h.symm (difB_ne (i := 0) (j := 2) T.fact_dif rfl rfl (by decide))
  | nt a => exact absurd h.symm (difB_ne (i := 0) (j := 3) T.fact_dif rfl rfl (by decide))
  | pk c a b => exact absurd h.symm (difB_ne (i := 0) (j := 4) T.fact_dif rfl rfl (by decide))
theorem cls_vl (T : Txt K mg Z) {t : Tm} (h : clsT Z t = Z.c_Value) : ∃ s, t = .vl s := by
  cases t with
  | nm s => exact absurd h (difB_ne (i := 0) (j := 1) T.fact_dif rfl rfl (by decide))
  | vl s => exact ⟨_, rfl⟩
  | two op a b => exact absurd h.symm (difB_ne (i := 1) (j := 2) T.fact_dif rfl rfl (by decide))
  | nt a => exact absurd h.symm (difB_ne (i := 1) (j := 3) T.fact_dif rfl rfl (by decide))
  | pk c a b => exact absurd h.symm (difB_ne (i := 1) (j := 4) T.fact_dif rfl rfl (by decide))
def PartsAt (Z : Adr) (H : Hp) : List Tm → List V → Prop
  | [], [] => True
  | t :: ts, v :: vs => TermAt Z H t v ∧ PartsAt Z H ts vs
  | _, _ => False
theorem PartsAt.len {Z : Adr} {H : Hp} : ∀ {ts : List Tm} {vs : List V}, PartsAt Z H ts vs → vs.length = ts.length
  | [], [], _ => rfl
  | t :: ts, v :: vs, h => by rw [List.length_cons, List.length_cons, PartsAt.len h.2]
theorem PartsAt.at {Z : Adr} {H : Hp} : ∀ {ts : List Tm} {vs : List V} {i : Nat} {v : V}, PartsAt Z H ts vs → vs[i]? = some v → ∃ t, ts[i]? = some t ∧ TermAt Z H t v
  | [], [], i, v, _, h => by simp at h
  | t :: ts, w :: vs, 0, v, h, e => by
    have : w = v := by simpa using e
    subst this
    exact ⟨t, rfl, h.1⟩
  | t :: ts, w :: vs, i + 1, v, h, e => by
    rw [List.getElem?_cons_succ] at e
    obtain ⟨t2, h2, h3⟩ := PartsAt.at h.2 e
    exact ⟨t2, by rw [List.getElem?_cons_succ]; exact h2, h3⟩
theorem PartsAt.up {Z : Adr} {H H2 : Hp} (e : Ex H H2) : ∀ {ts : List Tm} {vs : List V}, PartsAt Z H ts vs → PartsAt Z H2 ts vs
  | [], [], _ => True.intro
  | t :: ts, v :: vs, h => ⟨h.1.up e, PartsAt.up e h.2⟩
def spk_parts (Z : Adr) (S : Tm → Prop) : Sp := fun vs H Q _ => ∃ t v, vs = [v] ∧ TermAt Z H t v ∧ S t ∧ ∀ ws p H2, H p = none → Ex H H2 → H2 p = some (.lst ws) → PartsAt Z H2 t.parts ws → Q (.ref p) H2
def spm_parts (Z : Adr) (C : Addr) : Sp := spk_parts Z fun t => clsT Z t = C
theorem ok_Term_parts (T : Txt K mg Z) : FnOk P w K mg base CX0 1 Z.f_Term_parts Z.fd_Term_parts ["self"] (spk_parts Z fun t => t.parts = []) := by
  refine T.F_Term_parts.ok sc_Term_parts (fun vs H Q E h => ?_) (fun cdv AA outer s H vs Q E hr h => ?_)
  · obtain ⟨t, v, rfl, _⟩ := h
    rfl
  · obtain ⟨t, v, rfl, ht, hp, k⟩ := h
    refine ⟨_, (pss_one (ps_ret (pe_lst pa_nil))), ?_⟩
    walk_at "ss"
    refine newL fun p H2 h0 e2 g2 => k _ p H2 h0 e2 g2 ?_
    rw [hp]
    exact True.intro
theorem ok_Two_parts (T : Txt K mg Z) : FnOk P w K mg base CX0 1 Z.f_Two_parts Z.fd_Two_parts ["self"] (spk_parts Z fun t => ∃ op a b, t = .two op a b) := by
  refine T.F_Two_parts.ok sc_Two_parts (fun vs H Q E h => ?_) (fun cdv AA outer s H vs Q E hr h => ?_)
  · obtain ⟨t, v, rfl, _⟩ := h
    rfl
  · obtain ⟨t, v, rfl, ht, ⟨op, x, y, rfl⟩, k⟩ := h
    have TX := tcB_ok T.x_Two
    obtain ⟨a, dx, v1, v2, rfl, ha, h1, h2⟩ := ht
    refine ⟨_, (pss_one (ps_ret (pe_lst (pa_cons (pe_fld (pv 0) (by rfl)) (pa_cons (pe_fld (pv 0) (by rfl)) pa_nil))))), ?_⟩
    walk_at "ss"
    refine ⟨_, _, _, _, _, rfl, ha, TX.cl, TX.no _ (by decide +kernel), lk_tl (by decide +kernel) lk_hd, ?_⟩
    walk_at "ss"
    refine ⟨_, _, _, _, _, rfl, ha, TX.cl, TX.no _ (by decide +kernel), lk_tl (by decide +kernel) (lk_tl (by decide +kernel) lk_hd), ?_⟩
    walk_at "ss"
    exact newL fun p H2 h0 e2 g2 => k _ p H2 h0 e2 g2 ⟨h1.up e2, h2.up e2, True.intro⟩
theorem ok_Not_parts (T : Txt K mg Z) : FnOk P w K mg base CX0 1 Z.f_Not_parts Z.fd_Not_parts ["self"] (spk_parts Z fun t => ∃ a, t = .nt a) := by
  refine T.F_Not_parts.ok sc_Not_parts (fun vs H Q E h => ?_) (fun cdv AA outer s H vs Q E hr h => ?_)
  · obtain ⟨t, v, rfl, _⟩ := h
    rfl
  · obtain ⟨t, v, rfl, ht, ⟨x, rfl⟩, k⟩ := h
    have TX := tcB_ok T.x_Not
    obtain ⟨a, dx, v1, rfl, ha, h1⟩ := ht
    refine ⟨_, (pss_one (ps_ret (pe_lst (pa_cons (pe_fld (pv 0) (by rfl)) pa_nil)))), ?_⟩
    walk_at "ss"
    refine ⟨_, _, _, _, _, rfl, ha, TX.cl, TX.no _ (by decide +kernel), lk_hd, ?_⟩
    walk_at "ss"
    exact newL fun p H2 h0 e2 g2 => k _ p H2 h0 e2 g2 ⟨h1.up e2, True.intro⟩
theorem ok_Pick_parts (T : Txt K mg Z) : FnOk P w K mg base CX0 1 Z.f_Pick_parts Z.fd_Pick_parts ["self"] (spk_parts Z fun t => ∃ c a b, t = .pk c a b) := by
  refine T.F_Pick_parts.ok sc_Pick_parts (fun vs H Q E h => ?_) (fun cdv AA outer s H vs Q E hr h => ?_)
  · obtain ⟨t, v, rfl, _⟩ := h
    rfl
  · obtain ⟨t, v, rfl, ht, ⟨c, x, y, rfl⟩, k⟩ := h
    have TX := tcB_ok T.x_Pick
    obtain ⟨a, dx, v0, v1, v2, rfl, ha, h0, h1, h2⟩ := ht
    refine ⟨_, (pss_one (ps_ret (pe_lst (pa_cons (pe_fld (pv 0) (by rfl)) (pa_cons (pe_fld (pv 0) (by rfl)) (pa_cons (pe_fld (pv 0) (by rfl)) pa_nil)))))), ?_⟩
    walk_at "ss"
    refine ⟨_, _, _, _, _, rfl, ha, TX.cl, TX.no _ (by decide +kernel), lk_hd, ?_⟩
    walk_at "ss"
    refine ⟨_, _, _, _, _, rfl, ha, TX.cl, TX.no _ (by decide +kernel), lk_tl (by decide +kernel) lk_hd, ?_⟩
    walk_at "ss"
    refine ⟨_, _, _, _, _, rfl, ha, TX.cl, TX.no _ (by decide +kernel), lk_tl (by decide +kernel) (lk_tl (by decide +kernel) lk_hd), ?_⟩
    walk_at "ss"
    exact newL fun p H2 hp e2 g2 => k _ p H2 hp e2 g2 ⟨h0.up e2, h1.up e2, h2.up e2, True.intro⟩
theorem gm_parts (T : Txt K mg Z) : ∀ C, MC Z C → MOk P w K mg base CX0 1 C "parts" (spm_parts Z C) := by
  rintro C (rfl | rfl | rfl | rfl | rfl)
  · exact ⟨(tcB_ok T.x_Name).cl, _, _, _, ⟨T.h_parts_Name, T.y_Term_parts, T.F_Term_parts.kp⟩, (ok_Term_parts T).imp fun vs H Q E ⟨t, v, e, h, hc, k⟩ => ⟨t, v, e, h, (by obtain ⟨s, rfl⟩ := cls_nm T hc; rfl), k⟩, T.b_Term_parts⟩
  · exact ⟨(tcB_ok T.x_Value).cl, _, _, _, ⟨T.h_parts_Value, T.y_Term_parts, T.F_Term_parts.kp⟩, (ok_Term_parts T).imp fun vs H Q E ⟨t, v, e, h, hc, k⟩ => ⟨t, v, e, h, (by obtain ⟨s, rfl⟩ := cls_vl T hc; rfl), k⟩, T.b_Term_parts⟩
  · exact ⟨(tcB_ok T.x_Two).cl, _, _, _, ⟨T.h_parts_Two, T.y_Two_parts, T.F_Two_parts.kp⟩, (ok_Two_parts T).imp fun vs H Q E ⟨t, v, e, h, hc, k⟩ => ⟨t, v, e, h, cls_two T hc, k⟩, T.b_Two_parts⟩
  · exact ⟨(tcB_ok T.x_Not).cl, _, _, _, ⟨T.h_parts_Not, T.y_Not_parts, T.F_Not_parts.kp⟩, (ok_Not_parts T).imp fun vs H Q E ⟨t, v, e, h, hc, k⟩ => ⟨t, v, e, h, cls_nt T hc, k⟩, T.b_Not_parts⟩
  · exact ⟨(tcB_ok T.x_Pick).cl, _, _, _, ⟨T.h_parts_Pick, T.y_Pick_parts, T.F_Pick_parts.kp⟩, (ok_Pick_parts T).imp fun vs H Q E ⟨t, v, e, h, hc, k⟩ => ⟨t, v, e, h, cls_pk T hc, k⟩, T.b_Pick_parts⟩
/-! levels -/
def spt_levels (Z : Adr) (n : Nat) : Sp := fun vs H Q _ => ∃ t v, vs = [v] ∧ TermAt Z H t v ∧ t.dep ≤ n ∧ RetV (.int (t.dep : Nat)) H Q
def spm_levels (Z : Adr) (n : Nat) (C : Addr) : Sp := spt_levels Z n
theorem ok_Term_levels (T : Txt K mg Z) {n : Nat} (GM_parts : ∀ C, MC Z C → MOk P w K mg base CX0 1 C "parts" (spm_parts Z C)) (GM_levels : ∀ C, MC Z C → MOk P w K mg base CX0 (n + 2) C "levels" (spm_levels Z n C)) : FnOk P w K mg base CX0 (n + 3) Z.f_Term_levels Z.fd_Term_levels ["self"] (spt_levels Z (n + 1)) := by
  refine T.F_Term_levels.ok sc_Term_levels (fun vs H Q E h => ?_) (fun cdv AA outer s H vs Q E hr h => ?_)
  · obtain ⟨t, v, rfl, _⟩ := h
    rfl
  · obtain ⟨t, v, rfl, ht, hd, k⟩ := h
    obtain ⟨a, dx, fs, rfl, ha, l1, l2, l3, l4⟩ := ht.cls
    refine ⟨_, (pss_one (ps_ret (pe_op op_add pe_int (pe_callBK (call_maxD hr) (by rfl) T.n_max (by decide +kernel) (pa_cons (pe_lc (own := [("part", 1)]) (g := (gName 1)) (tt := tYes) (te := (tMP (MC Z) "levels" (spm_levels Z n) E0 (tVar 1) tNil)) rfl sc_Term_levels.nd (pi_list (pe_methP0 (pv 0) GM_parts (hr.mono (by omega)) pass0)) (blkOk_by (own := [("part", 1)]) (N := N_Term_levels) (sc := defScope s_Term_levels) (by decide +kernel)) (fun _ _ _ _ _ => (pg_name (i := 1) sc_Term_levels.nd rfl (Or.inl rfl))) (fun _ _ _ _ _ => pts_nil) (fun _ _ _ _ _ => (pe_methP0 (pv 1) GM_levels (hr.mono (by omega)) pass0))) pa_nil) (pk_cons pe_int pk_nil))))), ?_⟩
    walk_at "ss"
    refine ⟨a, _, dx, fs, rfl, ha, clsT_MC Z t, l1, ?_⟩
    walk_at "ss"
    refine ⟨t, _, rfl, ht, rfl, fun ws p H2 hp e2 g2 hw => ?_⟩
    have hl := hw.len
    have hl3 := t.parts_len
    refine ⟨p, rfl, ⟨_, SqL.of g2⟩, lcL (fun i => (t.parts[i]?).bind fun q => some (.int (q.dep : Nat))) (SqL.of g2) (by omega) (fun i x hx => ?_) ?_⟩
    · obtain ⟨q, hq, hqx⟩ := hw.at hx
      intro H3 e3 R hR
      have hqx3 := hqx.up e3
      obtain ⟨a4, dx4, fs4, rfl, ha4, m1, m2, m3, m4⟩ := hqx3.cls
      walk_at "ss"
      refine ⟨a4, _, dx4, fs4, rfl, ha4, clsT_MC Z q, m3, ?_⟩
      walk_at "ss"
      have := Tm.dep_part (List.mem_of_getElem? hq)
      refine ⟨q, _, rfl, hqx3, by omega, fun H4 e4 => ?_⟩
      rw [hq] at hR
      exact hR _ e4
    rw [hl, fm_range, fm_some]
    intro p3 H3 hp3 e3 g3
    walk_at "ss"
    have em : t.parts.map (fun q => V.int (q.dep : Nat)) = (t.parts.map fun q => ((q.dep : Nat) : Int)).map V.int := by rw [List.map_map]; rfl
    rw [em] at g3
    have ed := t.dep_parts
    refine ⟨p3, _, _, rfl, rfl, SqL.of g3, fun e0 => ?_, fun y ys e0 => ?_⟩
    · walk_at "ss"
      rw [e0] at ed
      have e1 : (1 : Int) + 0 = (t.dep : Nat) := by rw [ed]; rfl
      rw [e1]
      exact k _ (e2.trans e3)
    · walk_at "ss"
      rw [e0] at ed
      have e1 : (1 : Int) + PySem.W.maxOf y ys = (t.dep : Nat) := by rw [ed]; rfl
      rw [e1]
      exact k _ (e2.trans e3)
theorem mok_none {n k : Nat} {C : Addr} {m : Str} {f : Addr} {fd : FuncData} {ps : List Str} {sp : Sp} (cl : Cls K C) (hm : Meth K C m f) (hb : Binds K fd ps []) (h : ∀ vs H Q E, ¬ sp vs H Q E) : MOk P w K mg base CX0 k C m sp :=
  ⟨cl, f, fd, ps, hm, ⟨fun vs H Q E q => (h _ _ _ _ q).elim, fun _ _ _ _ _ _ _ _ _ _ _ _ _ q => (h _ _ _ _ q).elim⟩, hb⟩
theorem gm_levels (T : Txt K mg Z) : ∀ n, ∀ C, MC Z C → MOk P w K mg base CX0 (n + 2) C "levels" (spm_levels Z n C) := by
  intro n
  induction n with
  | zero =>
    have hN : ∀ vs H Q E, ¬ spt_levels Z 0 vs H Q E := fun vs H Q E ⟨t, v, _, _, hd, _⟩ => by have := t.dep_pos; omega
    rintro C (rfl | rfl | rfl | rfl | rfl)
    · exact mok_none (n := 0) (tcB_ok T.x_Name).cl ⟨T.h_levels_Name, T.y_Term_levels, T.F_Term_levels.kp⟩ T.b_Term_levels hN
    · exact mok_none (n := 0) (tcB_ok T.x_Value).cl ⟨T.h_levels_Value, T.y_Term_levels, T.F_Term_levels.kp⟩ T.b_Term_levels hN
    · exact mok_none (n := 0) (tcB_ok T.x_Two).cl ⟨T.h_levels_Two, T.y_Term_levels, T.F_Term_levels.kp⟩ T.b_Term_levels hN
    · exact mok_none (n := 0) (tcB_ok T.x_Not).cl ⟨T.h_levels_Not, T.y_Term_levels, T.F_Term_levels.kp⟩ T.b_Term_levels hN
    · exact mok_none (n := 0) (tcB_ok T.x_Pick).cl ⟨T.h_levels_Pick, T.y_Term_levels, T.F_Term_levels.kp⟩ T.b_Term_levels hN
  | succ n ih =>
    have F := ok_Term_levels (P := P) (w := w) (base := base) T (gm_parts T) ih
    rintro C (rfl | rfl | rfl | rfl | rfl)
    · exact ⟨(tcB_ok T.x_Name).cl, _, _, _, ⟨T.h_levels_Name, T.y_Term_levels, T.F_Term_levels.kp⟩, F, T.b_Term_levels⟩
    · exact ⟨(tcB_ok T.x_Value).cl, _, _, _, ⟨T.h_levels_Value, T.y_Term_levels, T.F_Term_levels.kp⟩, F, T.b_Term_levels⟩
    · exact ⟨(tcB_ok T.x_Two).cl, _, _, _, ⟨T.h_levels_Two, T.y_Term_levels, T.F_Term_levels.kp⟩, F, T.b_Term_levels⟩
    · exact ⟨(tcB_ok T.x_Not).cl, _, _, _, ⟨T.h_levels_Not, T.y_Term_levels, T.F_Term_levels.kp⟩, F, T.b_Term_levels⟩
    · exact ⟨(tcB_ok T.x_Pick).cl, _, _, _, ⟨T.h_levels_Pick, T.y_Term_levels, T.F_Term_levels.kp⟩, F, T.b_Term_levels⟩

/-! names -/
theorem PartsAt.keep {Z : Adr} {H H2 : Hp} (e : InsK H H2) : ∀ {ts : List Tm} {vs : List V}, PartsAt Z H ts vs → PartsAt Z H2 ts vs
  | [], [], _ => True.intro
  | t :: ts, v :: vs, h => ⟨h.1.keep e, PartsAt.keep e h.2⟩
theorem InsK.lst {H : Hp} {f : Addr} {xs : List V} {o : HO} (h : H f = some (.lst xs)) : InsK H (upd H f o) := fun a C dx fs ha => by
  rw [upd_ne (ne_of ha h (fun z => by cases z))]
  exact ha
theorem addN_len (a b : List Str) : (addN a b).length ≤ a.length + b.length := by
  unfold addN
  rw [List.length_append]
  have := List.length_filter_le (fun n => !a.contains n) b
  omega
theorem Tm.names_len (t : Tm) : t.names.length ≤ 3 ^ t.dep := by
  induction t with
  | nm s => simp [Tm.names, Tm.dep]
  | vl v => simp [Tm.names, Tm.dep]
  | two op a b iha ihb =>
    have h1 := addN_len [] a.names
    have h2 := addN_len (addN [] a.names) b.names
    have p1 : 3 ^ a.dep ≤ 3 ^ max a.dep b.dep := Nat.pow_le_pow_right (by decide) (by omega)
    have p2 : 3 ^ b.dep ≤ 3 ^ max a.dep b.dep := Nat.pow_le_pow_right (by decide) (by omega)
    have e : 3 ^ (1 + max a.dep b.dep) = 3 * 3 ^ max a.dep b.dep := by rw [Nat.pow_add]
    show (addN (addN [] a.names) b.names).length ≤ 3 ^ (1 + max a.dep b.dep)
    rw [e]
    simp only [List.length_nil] at h1
    omega
  | nt a iha =>
    have h1 := addN_len [] a.names
    have e : 3 ^ (1 + a.dep) = 3 * 3 ^ a.dep := by rw [Nat.pow_add]
    show (addN [] a.names).length ≤ 3 ^ (1 + a.dep)
    rw [e]
    simp only [List.length_nil] at h1
    omega
  | pk c a b ihc iha ihb =>
    have h0 := addN_len [] c.names
    have h1 := addN_len (addN [] c.names) a.names
    have h2 := addN_len (addN (addN [] c.names) a.names) b.names
    have p0 : 3 ^ c.dep ≤ 3 ^ max (max c.dep a.dep) b.dep := Nat.pow_le_pow_right (by decide) (by omega)
    have p1 : 3 ^ a.dep ≤ 3 ^ max (max c.dep a.dep) b.dep := Nat.pow_le_pow_right (by decide) (by omega)
    have p2 : 3 ^ b.dep ≤ 3 ^ max (max c.dep a.dep) b.dep := Nat.pow_le_pow_right (by decide) (by omega)
    have e : 3 ^ (1 + max (max c.dep a.dep) b.dep) = 3 * 3 ^ max (max c.dep a.dep) b.dep := by rw [Nat.pow_add]
    show (addN (addN (addN [] c.names) a.names) b.names).length ≤ 3 ^ (1 + max (max c.dep a.dep) b.dep)
    rw [e]
    simp only [List.length_nil] at h0
    omega
theorem names_729 {t : Tm} (h : t.dep ≤ 6) : t.names.length ≤ 729 := by
  have h1 := t.names_len
  have h2 : 3 ^ t.dep ≤ 3 ^ 6 := Nat.pow_le_pow_right (by decide) h
  have e : (3 : Nat) ^ 6 = 729 := rfl
  omega
theorem inV_str {n : Str} : ∀ {F : List Str}, inV (.str n) (F.map V.str) = F.contains n
  | [] => rfl
  | a :: F => by
    have ih := inV_str (n := n) (F := F)
    unfold inV at ih ⊢
    rw [List.map_cons, List.any_cons, ih, List.contains_cons]
    show (a == n || F.contains n) = (n == a || F.contains n)
    rw [Bool.beq_comm]
theorem fm_new {F : List Str} : ∀ {l : List Str}, (l.map V.str).filterMap (fun x => if inV x (F.map V.str) then none else some x) = (l.filter fun n => !F.contains n).map V.str
  | [] => rfl
  | a :: l => by
    rw [List.map_cons, List.filterMap_cons, inV_str, List.filter_cons, fm_new]
    cases F.contains a <;> rfl
theorem flat_strs : ∀ {F : List Str}, (F.map V.str).all flatV = true
  | [] => rfl
  | a :: F => by rw [List.map_cons, List.all_cons, flat_strs] <;> rfl
def spt_names (Z : Adr) (n : Nat) (S : Tm → Prop) : Sp := fun vs H Q _ => ∃ t v, vs = [v] ∧ TermAt Z H t v ∧ S t ∧ t.dep ≤ n ∧ t.dep ≤ 6 ∧ RetL (t.names.map V.str) H Q
def spm_names (Z : Adr) (n : Nat) (C : Addr) : Sp := spt_names Z n fun t => clsT Z t = C
theorem ok_Name_names (T : Txt K mg Z) : FnOk P w K mg base CX0 1 Z.f_Name_names Z.fd_Name_names ["self"] (spt_names Z 1 fun t => ∃ s, t = .nm s) := by
  refine T.F_Name_names.ok sc_Name_names (fun vs H Q E h => ?_) (fun cdv AA outer s H vs Q E hr h => ?_)
  · obtain ⟨t, v, rfl, _⟩ := h
    rfl
  · obtain ⟨t, v, rfl, ht, ⟨s, rfl⟩, _, _, k⟩ := h
    have TX := tcB_ok T.x_Name
    obtain ⟨a, dx, rfl, ha⟩ := ht
    refine ⟨_, (pss_one (ps_ret (pe_lst (pa_cons (pe_fld (pv 0) (by rfl)) pa_nil)))), ?_⟩
    walk_at "ss"
    refine ⟨_, _, _, _, _, rfl, ha, TX.cl, TX.no _ (by decide +kernel), lk_hd, ?_⟩
    walk_at "ss"
    exact newL k
theorem ok_Term_names (T : Txt K mg Z) {n : Nat} (GM_parts : ∀ C, MC Z C → MOk P w K mg base CX0 1 C "parts" (spm_parts Z C)) (GM_names : ∀ C, MC Z C → MOk P w K mg base CX0 (n + 2) C "names" (spm_names Z n C)) : FnOk P w K mg base CX0 (n + 3) Z.f_Term_names Z.fd_Term_names ["self"] (spt_names Z (n + 1) fun t => ∀ s, t ≠ .nm s) := by
  refine T.F_Term_names.ok sc_Term_names (fun vs H Q E h => ?_) (fun cdv AA outer s H vs Q E hr h => ?_)
  · obtain ⟨t, v, rfl, _⟩ := h
    rfl
  · obtain ⟨t, v, rfl, ht, hS, hd, h6, k⟩ := h
    obtain ⟨a, dx, fs, rfl, ha, l1, l2, l3, l4⟩ := ht.cls
    refine ⟨_, (pss_cons (ps_set (i := 1) sc_Term_names.nd rfl (Or.inr rfl) (pe_lst pa_nil))
      (pss_cons (ps_for PassesOwn.never rfl (pi_list (pe_methP0 (pv 0) GM_parts (hr.mono (by omega)) pass0)) (pg_name (i := 2) sc_Term_names.nd rfl (Or.inl rfl)) (pss_one (ps_expr (pe_bm PySem.F.plainAttrs_list PySem.F.slot_list_extend PySem.F.type_list_extend mt_extend (pv 1) (pa_cons (pe_lc (own := [("name", 3)]) (g := (gName 3)) (tt := (tTest (tOp (rIn K true) (tVar 3) (tVar 1)))) (te := (tVar 3)) rfl sc_Term_names.nd (pi_list (pe_methP0 (pv 2) GM_names (hr.mono (by omega)) pass0)) (blkOk_by (own := [("name", 3)]) (N := N_Term_names) (sc := defScope s_Term_names) (by decide +kernel)) (fun _ _ _ _ _ => (pg_name (i := 3) sc_Term_names.nd rfl (Or.inl rfl))) (fun _ _ _ _ _ => (pts_one (pt_cmpR op_notIn_seq (pv 3) (pv 1) (by rfl)))) (fun _ _ _ _ _ => (pv 3))) pa_nil)))))
      (pss_one (ps_ret (pv 1))))), ?_⟩
    walk_at "ss"
    refine newL fun f H1 hf e1 g1 => ?_
    walk_at "ss"
    refine ⟨a, _, dx, fs, rfl, e1 _ _ ha, clsT_MC Z t, l1, ?_⟩
    walk_at "ss"
    refine ⟨t, _, rfl, ht.up e1, rfl, fun ws p H2 hp e2 g2 hw => ?_⟩
    have nfp : f ≠ p := ne_of_none g1 hp
    have hwl := hw.len
    refine ⟨p, rfl, ⟨_, SqL.of g2⟩, forL (xs := ws) (fun i σ' G => (∃ v2 v3, σ' = [some (.ref a), some (.ref f), v2, v3]) ∧ Ex H G ∧ G p = some (.lst ws) ∧ G f = some (.lst (((t.parts.take i).foldl (fun acc q => addN acc q.names) []).map V.str)) ∧ ((t.parts.take i).foldl (fun acc q => addN acc q.names) []).length ≤ i * 729 ∧ PartsAt Z G t.parts ws) ⟨⟨_, _, rfl⟩, e1.trans e2, g2, e2 _ _ g1, Nat.zero_le _, hw⟩ (fun i σ' G _ q => SqL.of q.2.2.1) ?_ ?_⟩
    · rintro i x σ' G hx ⟨⟨v2, v3, rfl⟩, eG, gp, gf, hbd, hw⟩
      obtain ⟨q, hq, hqx⟩ := hw.at hx
      have hi := (List.getElem?_eq_some_iff.mp hq).1
      have hl3 := t.parts_len
      have ef : (t.parts.take (i + 1)).foldl (fun acc q => addN acc q.names) [] = addN ((t.parts.take i).foldl (fun acc q => addN acc q.names) []) q.names := by
        rw [List.take_add_one, hq, List.foldl_append] <;> rfl
      generalize hF : (t.parts.take i).foldl (fun acc q => addN acc q.names) [] = F at gf ef hbd
      obtain ⟨a4, dx4, fs4, rfl, ha4, m1, m2, m3, m4⟩ := hqx.cls
      walk_at "ss"
      refine ⟨.inl ⟨rfl, _, SqL.of gf⟩, ?_⟩
      walk_at "ss"
      refine ⟨a4, _, dx4, fs4, rfl, ha4, clsT_MC Z q, m2, ?_⟩
      walk_at "ss"
      have hdp := Tm.dep_part (List.mem_of_getElem? hq)
      have hq7 := names_729 (t := q) (by omega)
      refine ⟨q, _, rfl, hqx, rfl, by omega, by omega, fun p5 H5 hp5 e5 g5 => ?_⟩
      refine ⟨p5, rfl, ⟨_, SqL.of g5⟩, lcLv (fun x => if inV x (F.map V.str) then none else some x) (SqL.of g5) (by rw [List.length_map]; omega) (fun x hx => ?_) ?_⟩
      · obtain ⟨s, hs, rfl⟩ := List.mem_map.mp hx
        intro H6 e6 R hR
        walk_at "ss"
        refine c_notin (.inl (SqL.of (e6 _ _ (e5 _ _ gf)))) rfl flat_strs ?_
        refine ⟨_, rfl, ?_⟩
        cases hin : inV (.str s) (F.map V.str) with
        | true =>
          rw [hin] at hR
          walk_at "ss"
          exact hR _ (Ex.refl _)
        | false =>
          rw [hin] at hR
          walk_at "ss"
          exact hR _ (Ex.refl _)
      rw [fm_new]
      intro p6 H6 hp6 e6 g6
      walk_at "ss"
      have gf6 := e6 _ _ (e5 _ _ gf)
      have hfl : (q.names.filter fun n => !F.contains n).length ≤ q.names.length := List.length_filter_le _ _
      refine ⟨f, p6, _, _, rfl, rfl, gf6, g6, Evl.sz_of (by rw [List.length_map, List.length_map]; omega), ?_⟩
      walk_at "ss"
      refine ⟨⟨_, _, rfl⟩, Ex.mut (eG.trans (e5.trans e6)) hf, by rw [upd_ne nfp.symm]; exact e6 _ _ (e5 _ _ gp), ?_, ?_, (hw.up (e5.trans e6)).keep (InsK.lst gf6)⟩
      · rw [upd_same, ef, ← List.map_append] <;> rfl
      · rw [ef]
        have := addN_len F q.names
        rw [Nat.succ_mul]
        omega
    · rintro σ' G ⟨⟨v2, v3, rfl⟩, eG, gp, gf, hbd, hw⟩
      walk_at "ss"
      rw [hwl, List.take_length, ← Tm.names_parts t hS] at gf
      exact k f G hf eG gf
theorem gm_names (T : Txt K mg Z) : ∀ n, ∀ C, MC Z C → MOk P w K mg base CX0 (n + 2) C "names" (spm_names Z n C) := by
  intro n
  induction n with
  | zero =>
    have hN : ∀ C vs H Q E, ¬ spm_names Z 0 C vs H Q E := fun C vs H Q E ⟨t, v, _, _, _, hd, _⟩ => by have := t.dep_pos; omega
    rintro C (rfl | rfl | rfl | rfl | rfl)
    · exact mok_none (n := 0) (tcB_ok T.x_Name).cl ⟨T.h_names_Name, T.y_Name_names, T.F_Name_names.kp⟩ T.b_Name_names (hN _)
    · exact mok_none (n := 0) (tcB_ok T.x_Value).cl ⟨T.h_names_Value, T.y_Term_names, T.F_Term_names.kp⟩ T.b_Term_names (hN _)
    · exact mok_none (n := 0) (tcB_ok T.x_Two).cl ⟨T.h_names_Two, T.y_Term_names, T.F_Term_names.kp⟩ T.b_Term_names (hN _)
    · exact mok_none (n := 0) (tcB_ok T.x_Not).cl ⟨T.h_names_Not, T.y_Term_names, T.F_Term_names.kp⟩ T.b_Term_names (hN _)
    · exact mok_none (n := 0) (tcB_ok T.x_Pick).cl ⟨T.h_names_Pick, T.y_Term_names, T.F_Term_names.kp⟩ T.b_Term_names (hN _)
  | succ n ih =>
    have F := ok_Term_names (P := P) (w := w) (base := base) T (gm_parts T) ih
    have F1 := (ok_Name_names (P := P) (w := w) (base := base) T).mono (show 1 ≤ n + 1 + 2 by omega)
    rintro C (rfl | rfl | rfl | rfl | rfl)
    · exact ⟨(tcB_ok T.x_Name).cl, _, _, _, ⟨T.h_names_Name, T.y_Name_names, T.F_Name_names.kp⟩, F1.imp fun vs H Q E ⟨t, v, e, h, hc, hd, h6, k⟩ => ⟨t, v, e, h, cls_nm T hc, (by obtain ⟨s, rfl⟩ := cls_nm T hc; exact Nat.le_refl _), h6, k⟩, T.b_Name_names⟩
    · exact ⟨(tcB_ok T.x_Value).cl, _, _, _, ⟨T.h_names_Value, T.y_Term_names, T.F_Term_names.kp⟩, F.imp fun vs H Q E ⟨t, v, e, h, hc, hd, h6, k⟩ => ⟨t, v, e, h, (by obtain ⟨s, rfl⟩ := cls_vl T hc; exact fun _ z => by cases z), hd, h6, k⟩, T.b_Term_names⟩
    · exact ⟨(tcB_ok T.x_Two).cl, _, _, _, ⟨T.h_names_Two, T.y_Term_names, T.F_Term_names.kp⟩, F.imp fun vs H Q E ⟨t, v, e, h, hc, hd, h6, k⟩ => ⟨t, v, e, h, (by obtain ⟨_, _, _, rfl⟩ := cls_two T hc; exact fun _ z => by cases z), hd, h6, k⟩, T.b_Term_names⟩
    · exact ⟨(tcB_ok T.x_Not).cl, _, _, _, ⟨T.h_names_Not, T.y_Term_names, T.F_Term_names.kp⟩, F.imp fun vs H Q E ⟨t, v, e, h, hc, hd, h6, k⟩ => ⟨t, v, e, h, (by obtain ⟨_, rfl⟩ := cls_nt T hc; exact fun _ z => by cases z), hd, h6, k⟩, T.b_Term_names⟩
    · exact ⟨(tcB_ok T.x_Pick).cl, _, _, _, ⟨T.h_names_Pick, T.y_Term_names, T.F_Term_names.kp⟩, F.imp fun vs H Q E ⟨t, v, e, h, hc, hd, h6, k⟩ => ⟨t, v, e, h, (by obtain ⟨_, _, _, rfl⟩ := cls_pk T hc; exact fun _ z => by cases z), hd, h6, k⟩, T.b_Term_names⟩

/-! ### what a term tells -/
def ToldAt (H : Hp) : Tm → V → Prop
  | .nm s, v => ∃ a, v = .ref a ∧ H a = some (.tup [.str "name", .str s])
  | .vl x, v => ∃ a, v = .ref a ∧ H a = some (.tup [.str "value", x])
  | .two op p q, v => ∃ a v1 v2, v = .ref a ∧ H a = some (.tup [.str "two", .str op, v1, v2]) ∧ ToldAt H p v1 ∧ ToldAt H q v2
  | .nt p, v => ∃ a v1, v = .ref a ∧ H a = some (.tup [.str "not", v1]) ∧ ToldAt H p v1
  | .pk c p q, v => ∃ a v0 v1 v2, v = .ref a ∧ H a = some (.tup [.str "pick", v0, v1, v2]) ∧ ToldAt H c v0 ∧ ToldAt H p v1 ∧ ToldAt H q v2
def TupK (H H2 : Hp) : Prop := ∀ a xs, H a = some (.tup xs) → H2 a = some (.tup xs)
theorem ToldAt.keep {H H2 : Hp} (e : TupK H H2) : ∀ {t : Tm} {v : V}, ToldAt H t v → ToldAt H2 t v := by
  intro t
  induction t with
  | nm s => rintro v ⟨a, h1, h2⟩; exact ⟨a, h1, e _ _ h2⟩
  | vl x => rintro v ⟨a, h1, h2⟩; exact ⟨a, h1, e _ _ h2⟩
  | two op p q ihp ihq => rintro v ⟨a, v1, v2, h1, h2, h3, h4⟩; exact ⟨a, v1, v2, h1, e _ _ h2, ihp h3, ihq h4⟩
  | nt p ihp => rintro v ⟨a, v1, h1, h2, h3⟩; exact ⟨a, v1, h1, e _ _ h2, ihp h3⟩
  | pk c p q ihc ihp ihq => rintro v ⟨a, v0, v1, v2, h1, h2, h3, h4, h5⟩; exact ⟨a, v0, v1, v2, h1, e _ _ h2, ihc h3, ihp h4, ihq h5⟩
theorem ToldAt.up {H H2 : Hp} {t : Tm} {v : V} (h : ToldAt H t v) (e : Ex H H2) : ToldAt H2 t v := h.keep fun a xs q => e _ _ q
theorem ToldAt.upB {H H2 : Hp} {t : Tm} {v : V} {b : Addr} (h : ToldAt H t v) (e : ExB b H H2) (hB : BoxAt H b) : ToldAt H2 t v := h.keep fun a xs q => e _ _ (box_ne hB q (fun _ _ _ z => by cases z)) q
def spt_told (Z : Adr) (n : Nat) (S : Tm → Prop) : Sp := fun vs H Q _ => ∃ t v, vs = [v] ∧ TermAt Z H t v ∧ S t ∧ t.dep ≤ n ∧ ∀ u H2, Ex H H2 → ToldAt H2 t u → Q u H2
def spm_told (Z : Adr) (n : Nat) (C : Addr) : Sp := spt_told Z n fun t => clsT Z t = C
theorem ok_Name_told (T : Txt K mg Z) : FnOk P w K mg base CX0 1 Z.f_Name_told Z.fd_Name_told ["self"] (spt_told Z 1 fun t => ∃ s, t = .nm s) := by
  refine T.F_Name_told.ok sc_Name_told (fun vs H Q E h => ?_) (fun cdv AA outer s H vs Q E hr h => ?_)
  · obtain ⟨t, v, rfl, _⟩ := h
    rfl
  · obtain ⟨t, v, rfl, ht, ⟨s, rfl⟩, _, k⟩ := h
    have TX := tcB_ok T.x_Name
    obtain ⟨a, dx, rfl, ha⟩ := ht
    refine ⟨_, (pss_one (ps_ret (pe_tup (pa_cons pe_str (pa_cons (pe_fld (pv 0) (by rfl)) pa_nil))))), ?_⟩
    walk_at "ss"
    refine ⟨_, _, _, _, _, rfl, ha, TX.cl, TX.no _ (by decide +kernel), lk_hd, ?_⟩
    walk_at "ss"
    exact newT fun p H2 hp e2 g2 => k _ _ e2 ⟨p, rfl, g2⟩
theorem ok_Value_told (T : Txt K mg Z) : FnOk P w K mg base CX0 1 Z.f_Value_told Z.fd_Value_told ["self"] (spt_told Z 1 fun t => ∃ s, t = .vl s) := by
  refine T.F_Value_told.ok sc_Value_told (fun vs H Q E h => ?_) (fun cdv AA outer s H vs Q E hr h => ?_)
  · obtain ⟨t, v, rfl, _⟩ := h
    rfl
  · obtain ⟨t, v, rfl, ht, ⟨s, rfl⟩, _, k⟩ := h
    have TX := tcB_ok T.x_Value
    obtain ⟨a, dx, rfl, ha⟩ := ht
    refine ⟨_, (pss_one (ps_ret (pe_tup (pa_cons pe_str (pa_cons (pe_fld (pv 0) (by rfl)) pa_nil))))), ?_⟩
    walk_at "ss"
    refine ⟨_, _, _, _, _, rfl, ha, TX.cl, TX.no _ (by decide +kernel), lk_hd, ?_⟩
    walk_at "ss"
    exact newT fun p H2 hp e2 g2 => k _ _ e2 ⟨p, rfl, g2⟩
theorem ok_Two_told (T : Txt K mg Z) {n : Nat} (GM_told : ∀ C, MC Z C → MOk P w K mg base CX0 (n + 2) C "told" (spm_told Z n C)) : FnOk P w K mg base CX0 (n + 3) Z.f_Two_told Z.fd_Two_told ["self"] (spt_told Z (n + 1) fun t => ∃ op a b, t = .two op a b) := by
  refine T.F_Two_told.ok sc_Two_told (fun vs H Q E h => ?_) (fun cdv AA outer s H vs Q E hr h => ?_)
  · obtain ⟨t, v, rfl, _⟩ := h
    rfl
  · obtain ⟨t, v, rfl, ht, ⟨op, x, y, rfl⟩, hd, k⟩ := h
    have TX := tcB_ok T.x_Two
    obtain ⟨a, dx, v1, v2, rfl, ha, h1, h2⟩ := ht
    simp only [Tm.dep] at hd
    refine ⟨_, (pss_one (ps_ret (pe_tup (pa_cons pe_str (pa_cons (pe_fld (pv 0) (by rfl)) (pa_cons (pe_methP0 (pe_fld (pv 0) (by rfl)) GM_told (hr.mono (by omega)) pass0) (pa_cons (pe_methP0 (pe_fld (pv 0) (by rfl)) GM_told (hr.mono (by omega)) pass0) pa_nil))))))), ?_⟩
    walk_at "ss"
    refine ⟨_, _, _, _, _, rfl, ha, TX.cl, TX.no _ (by decide +kernel), lk_hd, ?_⟩
    walk_at "ss"
    refine ⟨_, _, _, _, _, rfl, ha, TX.cl, TX.no _ (by decide +kernel), lk_tl (by decide +kernel) lk_hd, ?_⟩
    obtain ⟨a3, dx3, fs3, rfl, ha3, m1, m2, m3, m4⟩ := h1.cls
    refine ⟨a3, _, dx3, fs3, rfl, ha3, clsT_MC Z x, m4, ?_⟩
    walk_at "ss"
    refine ⟨x, _, rfl, h1, rfl, by omega, fun u1 H1 e1 t1 => ?_⟩
    walk_at "ss"
    refine ⟨_, _, _, _, _, rfl, e1 _ _ ha, TX.cl, TX.no _ (by decide +kernel), lk_tl (by decide +kernel) (lk_tl (by decide +kernel) lk_hd), ?_⟩
    have h2' := h2.up e1
    obtain ⟨a4, dx4, fs4, rfl, ha4, m1, m2, m3, m4⟩ := h2'.cls
    refine ⟨a4, _, dx4, fs4, rfl, ha4, clsT_MC Z y, m4, ?_⟩
    walk_at "ss"
    refine ⟨y, _, rfl, h2', rfl, by omega, fun u2 H2 e2 t2 => ?_⟩
    walk_at "ss"
    exact newT fun p H3 hp e3 g3 => k _ _ (e1.trans (e2.trans e3)) ⟨p, _, _, rfl, g3, t1.up (e2.trans e3), t2.up e3⟩
theorem ok_Not_told (T : Txt K mg Z) {n : Nat} (GM_told : ∀ C, MC Z C → MOk P w K mg base CX0 (n + 2) C "told" (spm_told Z n C)) : FnOk P w K mg base CX0 (n + 3) Z.f_Not_told Z.fd_Not_told ["self"] (spt_told Z (n + 1) fun t => ∃ a, t = .nt a) := by
  refine T.F_Not_told.ok sc_Not_told (fun vs H Q E h => ?_) (fun cdv AA outer s H vs Q E hr h => ?_)
  · obtain ⟨t, v, rfl, _⟩ := h
    rfl
  · obtain ⟨t, v, rfl, ht, ⟨x, rfl⟩, hd, k⟩ := h
    have TX := tcB_ok T.x_Not
    obtain ⟨a, dx, v1, rfl, ha, h1⟩ := ht
    simp only [Tm.dep] at hd
    refine ⟨_, (pss_one (ps_ret (pe_tup (pa_cons pe_str (pa_cons (pe_methP0 (pe_fld (pv 0) (by rfl)) GM_told (hr.mono (by omega)) pass0) pa_nil))))), ?_⟩
    walk_at "ss"
    refine ⟨_, _, _, _, _, rfl, ha, TX.cl, TX.no _ (by decide +kernel), lk_hd, ?_⟩
    obtain ⟨a3, dx3, fs3, rfl, ha3, m1, m2, m3, m4⟩ := h1.cls
    refine ⟨a3, _, dx3, fs3, rfl, ha3, clsT_MC Z x, m4, ?_⟩
    walk_at "ss"
    refine ⟨x, _, rfl, h1, rfl, by omega, fun u1 H1 e1 t1 => ?_⟩
    walk_at "ss"
    exact newT fun p H3 hp e3 g3 => k _ _ (e1.trans e3) ⟨p, _, rfl, g3, t1.up e3⟩
theorem ok_Pick_told (T : Txt K mg Z) {n : Nat} (GM_told : ∀ C, MC Z C → MOk P w K mg base CX0 (n + 2) C "told" (spm_told Z n C)) : FnOk P w K mg base CX0 (n + 3) Z.f_Pick_told Z.fd_Pick_told ["self"] (spt_told Z (n + 1) fun t => ∃ c a b, t = .pk c a b) := by
  refine T.F_Pick_told.ok sc_Pick_told (fun vs H Q E h => ?_) (fun cdv AA outer s H vs Q E hr h => ?_)
  · obtain ⟨t, v, rfl, _⟩ := h
    rfl
  · obtain ⟨t, v, rfl, ht, ⟨c, x, y, rfl⟩, hd, k⟩ := h
    have TX := tcB_ok T.x_Pick
    obtain ⟨a, dx, v0, v1, v2, rfl, ha, h0, h1, h2⟩ := ht
    simp only [Tm.dep] at hd
    refine ⟨_, (pss_one (ps_ret (pe_tup (pa_cons pe_str (pa_cons (pe_methP0 (pe_fld (pv 0) (by rfl)) GM_told (hr.mono (by omega)) pass0) (pa_cons (pe_methP0 (pe_fld (pv 0) (by rfl)) GM_told (hr.mono (by omega)) pass0) (pa_cons (pe_methP0 (pe_fld (pv 0) (by rfl)) GM_told (hr.mono (by omega)) pass0) pa_nil))))))), ?_⟩
    walk_at "ss"
    refine ⟨_, _, _, _, _, rfl, ha, TX.cl, TX.no _ (by decide +kernel), lk_hd, ?_⟩
    obtain ⟨a3, dx3, fs3, rfl, ha3, m1, m2, m3, m4⟩ := h0.cls
    refine ⟨a3, _, dx3, fs3, rfl, ha3, clsT_MC Z c, m4, ?_⟩
    walk_at "ss"
    refine ⟨c, _, rfl, h0, rfl, by omega, fun u0 H0 e0 t0 => ?_⟩
    walk_at "ss"
    refine ⟨_, _, _, _, _, rfl, e0 _ _ ha, TX.cl, TX.no _ (by decide +kernel), lk_tl (by decide +kernel) lk_hd, ?_⟩
    have h1' := h1.up e0
    obtain ⟨a4, dx4, fs4, rfl, ha4, m1, m2, m3, m4⟩ := h1'.cls
    refine ⟨a4, _, dx4, fs4, rfl, ha4, clsT_MC Z x, m4, ?_⟩
    walk_at "ss"
    refine ⟨x, _, rfl, h1', rfl, by omega, fun u1 H1 e1 t1 => ?_⟩
    walk_at "ss"
    refine ⟨_, _, _, _, _, rfl, e1 _ _ (e0 _ _ ha), TX.cl, TX.no _ (by decide +kernel), lk_tl (by decide +kernel) (lk_tl (by decide +kernel) lk_hd), ?_⟩
    have h2' := h2.up (e0.trans e1)
    obtain ⟨a5, dx5, fs5, rfl, ha5, m1, m2, m3, m4⟩ := h2'.cls
    refine ⟨a5, _, dx5, fs5, rfl, ha5, clsT_MC Z y, m4, ?_⟩
    walk_at "ss"
    refine ⟨y, _, rfl, h2', rfl, by omega, fun u2 H2 e2 t2 => ?_⟩
    walk_at "ss"
    exact newT fun p H3 hp e3 g3 => k _ _ (e0.trans (e1.trans (e2.trans e3))) ⟨p, _, _, _, rfl, g3, t0.up (e1.trans (e2.trans e3)), t1.up (e2.trans e3), t2.up e3⟩
theorem gm_told (T : Txt K mg Z) : ∀ n, ∀ C, MC Z C → MOk P w K mg base CX0 (n + 2) C "told" (spm_told Z n C) := by
  intro n
  induction n with
  | zero =>
    have hN : ∀ C vs H Q E, ¬ spm_told Z 0 C vs H Q E := fun C vs H Q E ⟨t, v, _, _, _, hd, _⟩ => by have := t.dep_pos; omega
    rintro C (rfl | rfl | rfl | rfl | rfl)
    · exact mok_none (n := 0) (tcB_ok T.x_Name).cl ⟨T.h_told_Name, T.y_Name_told, T.F_Name_told.kp⟩ T.b_Name_told (hN _)
    · exact mok_none (n := 0) (tcB_ok T.x_Value).cl ⟨T.h_told_Value, T.y_Value_told, T.F_Value_told.kp⟩ T.b_Value_told (hN _)
    · exact mok_none (n := 0) (tcB_ok T.x_Two).cl ⟨T.h_told_Two, T.y_Two_told, T.F_Two_told.kp⟩ T.b_Two_told (hN _)
    · exact mok_none (n := 0) (tcB_ok T.x_Not).cl ⟨T.h_told_Not, T.y_Not_told, T.F_Not_told.kp⟩ T.b_Not_told (hN _)
    · exact mok_none (n := 0) (tcB_ok T.x_Pick).cl ⟨T.h_told_Pick, T.y_Pick_told, T.F_Pick_told.kp⟩ T.b_Pick_told (hN _)
  | succ n ih =>
    have F1 := (ok_Name_told (P := P) (w := w) (base := base) T).mono (show 1 ≤ n + 1 + 2 by omega)
    have F2 := (ok_Value_told (P := P) (w := w) (base := base) T).mono (show 1 ≤ n + 1 + 2 by omega)
    have F3 := ok_Two_told (P := P) (w := w) (base := base) T ih
    have F4 := ok_Not_told (P := P) (w := w) (base := base) T ih
    have F5 := ok_Pick_told (P := P) (w := w) (base := base) T ih
    rintro C (rfl | rfl | rfl | rfl | rfl)
    · exact ⟨(tcB_ok T.x_Name).cl, _, _, _, ⟨T.h_told_Name, T.y_Name_told, T.F_Name_told.kp⟩, F1.imp fun vs H Q E ⟨t, v, e, h, hc, hd, k⟩ => ⟨t, v, e, h, cls_nm T hc, (by obtain ⟨s, rfl⟩ := cls_nm T hc; exact Nat.le_refl _), k⟩, T.b_Name_told⟩
    · exact ⟨(tcB_ok T.x_Value).cl, _, _, _, ⟨T.h_told_Value, T.y_Value_told, T.F_Value_told.kp⟩, F2.imp fun vs H Q E ⟨t, v, e, h, hc, hd, k⟩ => ⟨t, v, e, h, cls_vl T hc, (by obtain ⟨s, rfl⟩ := cls_vl T hc; exact Nat.le_refl _), k⟩, T.b_Value_told⟩
    · exact ⟨(tcB_ok T.x_Two).cl, _, _, _, ⟨T.h_told_Two, T.y_Two_told, T.F_Two_told.kp⟩, F3.imp fun vs H Q E ⟨t, v, e, h, hc, hd, k⟩ => ⟨t, v, e, h, cls_two T hc, hd, k⟩, T.b_Two_told⟩
    · exact ⟨(tcB_ok T.x_Not).cl, _, _, _, ⟨T.h_told_Not, T.y_Not_told, T.F_Not_told.kp⟩, F4.imp fun vs H Q E ⟨t, v, e, h, hc, hd, k⟩ => ⟨t, v, e, h, cls_nt T hc, hd, k⟩, T.b_Not_told⟩
    · exact ⟨(tcB_ok T.x_Pick).cl, _, _, _, ⟨T.h_told_Pick, T.y_Pick_told, T.F_Pick_told.kp⟩, F5.imp fun vs H Q E ⟨t, v, e, h, hc, hd, k⟩ => ⟨t, v, e, h, cls_pk T hc, hd, k⟩, T.b_Pick_told⟩

/-! ### terms made -/
def opsW : List Str := ["+", "-", "*", "/", "mod", "<", "=", "&", "|"]
def opsV2 : List V := opsW.map V.str
def sp_ops_told : Sp := fun vs H Q _ => vs = [] ∧ RetL opsV2 H Q
theorem ok_ops_told (T : Txt K mg Z) : FnOk P w K mg base CX0 1 Z.f_ops_told Z.fd_ops_told [] sp_ops_told := by
  refine T.F_ops_told.ok sc_ops_told (fun vs H Q E h => ?_) (fun cdv AA outer s H vs Q E hr h => ?_)
  · obtain ⟨rfl, _⟩ := h
    rfl
  · obtain ⟨rfl, k⟩ := h
    refine ⟨_, (pss_one (ps_ret (pe_callTy call_list_of (by rfl) T.n_list (by decide +kernel) (pa_cons (pe_gcst rfl T.c_OPS) pa_nil)))), ?_⟩
    walk_at "ss"
    refine ⟨_, _, rfl, .inr (T.t_OPS _), fun l hl => ?_⟩
    exact k l _ hl (Ex.new hl) upd_same
theorem subB_ok {C c : Addr} (h : subB K C c = true) : PySem.W.kitOne K (.ref C) (.ref c) = some true ∧ PySem.W.mroIn K C (.type "object") = some true ∧ PySem.W.findIn K (.ref C) "__eq__" = some (some (.builtin "object.__eq__")) := by
  unfold subB at h
  simp only [Bool.and_eq_true, decide_eq_true_eq] at h
  exact h
theorem TermAt.ty (T : Txt K mg Z) {H : Hp} {t : Tm} {v : V} (h : TermAt Z H t v) : TyX K H v (.ref (clsT Z t)) ∧ subB K (clsT Z t) Z.c_Term = true := by
  obtain ⟨a, dx, fs, rfl, ha, _⟩ := h.cls
  cases t with
  | nm s => exact ⟨(tcB_ok T.x_Name).ty ha, T.fact_is_Name⟩
  | vl s => exact ⟨(tcB_ok T.x_Value).ty ha, T.fact_is_Value⟩
  | two op x y => exact ⟨(tcB_ok T.x_Two).ty ha, T.fact_is_Two⟩
  | nt x => exact ⟨(tcB_ok T.x_Not).ty ha, T.fact_is_Not⟩
  | pk c x y => exact ⟨(tcB_ok T.x_Pick).ty ha, T.fact_is_Pick⟩
theorem is_term (T : Txt K mg Z) {H : Hp} {t : Tm} {v : V} {Q : VK} (h : TermAt Z H t v) (q : Q (.bl true) H) : rIsi K [v, .ref Z.c_Term] H Q :=
  ⟨v, .ref Z.c_Term, _, _, true, rfl, .own _, (h.ty T).1, (subB_ok (h.ty T).2).1, q⟩
theorem TermAt.noneOr (T : Txt K mg Z) {H : Hp} {t : Tm} {v : V} (h : TermAt Z H t v) : NoneOr K H v := by
  obtain ⟨a, dx, fs, rfl, ha, _⟩ := h.cls
  exact .inr ⟨a, _, dx, fs, rfl, ha, (subB_ok (h.ty T).2).2.1, (subB_ok (h.ty T).2).2.2⟩
def sp_need_term (Z : Adr) : Sp := fun vs H Q _ => ∃ t v, vs = [v] ∧ TermAt Z H t v ∧ t.dep ≤ 4 ∧ RetV v H Q
theorem ok_need_term (T : Txt K mg Z) : FnOk P w K mg base CX0 8 Z.f_need_term Z.fd_need_term ["thing"] (sp_need_term Z) := by
  refine T.F_need_term.ok sc_need_term (fun vs H Q E h => ?_) (fun cdv AA outer s H vs Q E hr h => ?_)
  · obtain ⟨t, v, rfl, _⟩ := h
    rfl
  · obtain ⟨t, v, rfl, ht, hd, k⟩ := h
    have GM_levels := gm_levels (P := P) (w := w) (base := base) T 4
    refine ⟨_, (pss_cons (ps_if (PW.pt (pw_or (pt_not (pt_val (pe_callB call_isi (by rfl) T.n_isinstance (by decide +kernel) (pa_cons (pv 0) (pa_cons (pe_gcst (v := .ref Z.c_Term) rfl ⟨_, T.m_Term, rfl⟩) pa_nil))))) (pw_or1 (pt_cmpR op_ge (pe_methP0 (pv 0) GM_levels (hr.mono (by omega)) pass0) (pe_gcst rfl T.c_MOST_LEVELS) (nomark _))))) (pss_one ps_never) pss_nil)
      (pss_one (ps_ret (pv 0)))), ?_⟩
    walk_at "ss"
    refine is_term T ht ?_
    walk_at "ss"
    obtain ⟨a, dx, fs, rfl, ha, l1, l2, l3, l4⟩ := ht.cls
    refine ⟨a, _, dx, fs, rfl, ha, clsT_MC Z t, l3, ?_⟩
    walk_at "ss"
    refine ⟨t, _, rfl, ht, hd, fun H1 e1 => ?_⟩
    walk_at "ss"
    refine if_ff (decide_eq_false (by omega)) ?_
    walk_at "ss"
    exact k _ e1
def isVal : V → Bool
  | .bl _ => true
  | .int i => decide (-1000000000 ≤ i) && decide (i ≤ 1000000000)
  | _ => false
theorem is_val {v : V} (h : isVal v = true) {H : Hp} {Q : VK} {E : XK} (q : Q (.bl true) H) : sp_is_value K [v] H Q E := by
  cases v with
  | bl b => exact ⟨_, rfl, .inr (.inl ⟨_, rfl, q⟩)⟩
  | int i =>
    refine ⟨_, rfl, .inl ⟨_, rfl, ?_⟩⟩
    rw [show (decide (-1000000000 ≤ i) && decide (i ≤ 1000000000)) = true from h]
    exact q
  | _ => exact absurd h Bool.false_ne_true
def sp_Name_init (Z : Adr) : Sp := fun vs H Q _ => ∃ x dx s H0, vs = [.ref x, .str s] ∧ H x = some (.ins Z.c_Name dx []) ∧ H0 x = none ∧ Ex H0 H ∧ isPointed s = true ∧ s.length ≤ 1000 ∧ ∀ H2, Ex H0 H2 → H2 x = some (.ins Z.c_Name dx [("name", .str s)]) → Q .non H2
def sp_Value_init (Z : Adr) : Sp := fun vs H Q _ => ∃ x dx v H0, vs = [.ref x, v] ∧ H x = some (.ins Z.c_Value dx []) ∧ H0 x = none ∧ Ex H0 H ∧ isVal v = true ∧ ∀ H2, Ex H0 H2 → H2 x = some (.ins Z.c_Value dx [("amount", v)]) → Q .non H2
def sp_Two_init (Z : Adr) : Sp := fun vs H Q _ => ∃ x dx op p q v1 v2 H0, vs = [.ref x, .str op, v1, v2] ∧ H x = some (.ins Z.c_Two dx []) ∧ H0 x = none ∧ Ex H0 H ∧ op ∈ opsW ∧ TermAt Z H0 p v1 ∧ TermAt Z H0 q v2 ∧ p.dep ≤ 4 ∧ q.dep ≤ 4 ∧
  ∀ H2, Ex H0 H2 → H2 x = some (.ins Z.c_Two dx [("op", .str op), ("one", v1), ("second", v2)]) → Q .non H2
def sp_Not_init (Z : Adr) : Sp := fun vs H Q _ => ∃ x dx p v1 H0, vs = [.ref x, v1] ∧ H x = some (.ins Z.c_Not dx []) ∧ H0 x = none ∧ Ex H0 H ∧ TermAt Z H0 p v1 ∧ p.dep ≤ 4 ∧ ∀ H2, Ex H0 H2 → H2 x = some (.ins Z.c_Not dx [("one", v1)]) → Q .non H2
def sp_Pick_init (Z : Adr) : Sp := fun vs H Q _ => ∃ x dx c p q v0 v1 v2 H0, vs = [.ref x, v0, v1, v2] ∧ H x = some (.ins Z.c_Pick dx []) ∧ H0 x = none ∧ Ex H0 H ∧ TermAt Z H0 c v0 ∧ TermAt Z H0 p v1 ∧ TermAt Z H0 q v2 ∧ c.dep ≤ 4 ∧ p.dep ≤ 4 ∧ q.dep ≤ 4 ∧
  ∀ H2, Ex H0 H2 → H2 x = some (.ins Z.c_Pick dx [("by", v0), ("one", v1), ("second", v2)]) → Q .non H2
theorem ok_Name_init (T : Txt K mg Z) : FnOk P w K mg base CX0 3 Z.f_Name_init Z.fd_Name_init ["self", "name"] (sp_Name_init Z) := by
  have G_is_pointed := ok_is_pointed (P := P) (w := w) (base := base) T
  refine T.F_Name_init.ok sc_Name_init (fun vs H Q E h => ?_) (fun cdv AA outer s H vs Q E hr h => ?_)
  · obtain ⟨x, dx, s, H0, rfl, _⟩ := h
    rfl
  · obtain ⟨x, dx, s, H0, rfl, hx, h0, e0, hp, hl, k⟩ := h
    have TX := tcB_ok T.x_Name
    refine ⟨_, (pss_cons (ps_if (pt_not (pt_val (pe_call G_is_pointed (hr.mono (by omega)) rfl T.g_is_pointed T.F_is_pointed.kp T.b_is_pointed .nil pass0 (pa_cons (pv 1) pa_nil)))) (pss_one ps_never) pss_nil)
      (pss_one (ps_fld (pv 0) (pv 1) (by rfl)))), ?_⟩
    walk_at "ss"
    refine ⟨_, rfl, .inl ⟨s, rfl, by omega, fun H1 e1 => ?_⟩⟩
    rw [hp]
    walk_at "ss"
    refine ⟨x, _, dx, _, rfl, e1 _ _ hx, TX.cl, TX.no _ (by decide +kernel), by simp, ?_⟩
    walk_at "ss"
    exact k _ (Ex.mut (e0.trans e1) h0) upd_same
theorem ok_Value_init (T : Txt K mg Z) : FnOk P w K mg base CX0 4 Z.f_Value_init Z.fd_Value_init ["self", "value"] (sp_Value_init Z) := by
  have G_is_value := ok_is_value (P := P) (w := w) (base := base) T
  refine T.F_Value_init.ok sc_Value_init (fun vs H Q E h => ?_) (fun cdv AA outer s H vs Q E hr h => ?_)
  · obtain ⟨x, dx, s, H0, rfl, _⟩ := h
    rfl
  · obtain ⟨x, dx, v, H0, rfl, hx, h0, e0, hp, k⟩ := h
    have TX := tcB_ok T.x_Value
    refine ⟨_, (pss_cons (ps_if (pt_not (pt_val (pe_call G_is_value (hr.mono (by omega)) rfl T.g_is_value T.F_is_value.kp T.b_is_value .nil pass0 (pa_cons (pv 1) pa_nil)))) (pss_one ps_never) pss_nil)
      (pss_one (ps_fld (pv 0) (pv 1) (by rfl)))), ?_⟩
    walk_at "ss"
    refine is_val hp ?_
    walk_at "ss"
    refine ⟨x, _, dx, _, rfl, hx, TX.cl, TX.no _ (by decide +kernel), by simp, ?_⟩
    walk_at "ss"
    exact k _ (Ex.mut e0 h0) upd_same
theorem in_ops {op : Str} (h : op ∈ opsW) : inV (.str op) opsV2 = true := by
  unfold opsV2
  rw [inV_str]
  exact List.contains_iff_mem.mpr h
theorem ok_Two_init (T : Txt K mg Z) : FnOk P w K mg base CX0 9 Z.f_Two_init Z.fd_Two_init ["self", "op", "one", "other"] (sp_Two_init Z) := by
  have G_ops_told := ok_ops_told (P := P) (w := w) (base := base) T
  have G_need_term := ok_need_term (P := P) (w := w) (base := base) T
  refine T.F_Two_init.ok sc_Two_init (fun vs H Q E h => ?_) (fun cdv AA outer s H vs Q E hr h => ?_)
  · obtain ⟨x, dx, op, p, q, v1, v2, H0, rfl, _⟩ := h
    rfl
  · obtain ⟨x, dx, op, p, q, v1, v2, H0, rfl, hx, h0, e0, ho, h1, h2, d1, d2, k⟩ := h
    have TX := tcB_ok T.x_Two
    refine ⟨_, (pss_cons (ps_if (PW.pt (pw_or (pt_not (pt_val (pe_callB call_isi (by rfl) T.n_isinstance (by decide +kernel) (pa_cons (pv 1) (pa_cons (pe_bltn (v := .ty "str") (by rfl) T.n_str (by decide +kernel) rfl) pa_nil))))) (pw_or1 (pt_cmpR op_notIn_seq (pv 1) (pe_call0 G_ops_told (hr.mono (by omega)) rfl T.g_ops_told T.F_ops_told.kp T.b_ops_told .nil pass0) (by rfl))))) (pss_one ps_never) pss_nil)
      (pss_cons (ps_fld (pv 0) (pv 1) (by rfl))
      (pss_cons (ps_fld (pv 0) (pe_call G_need_term (hr.mono (by omega)) rfl T.g_need_term T.F_need_term.kp T.b_need_term .nil pass0 (pa_cons (pv 2) pa_nil)) (by rfl))
      (pss_one (ps_fld (pv 0) (pe_call G_need_term (hr.mono (by omega)) rfl T.g_need_term T.F_need_term.kp T.b_need_term .nil pass0 (pa_cons (pv 3) pa_nil)) (by rfl)))))), ?_⟩
    walk_at "ss"
    refine isi (ty_str op) kb_ss ?_
    walk_at "ss"
    refine ⟨rfl, fun pl H1 hpl e1 g1 => ?_⟩
    refine c_notin (.inl (SqL.of g1)) rfl flat_strs ?_
    rw [in_ops ho]
    walk_at "ss"
    refine ⟨x, _, dx, _, rfl, e1 _ _ hx, TX.cl, TX.no _ (by decide +kernel), by simp, ?_⟩
    have e2 : Ex H0 (upd H1 x (.ins Z.c_Two dx (putF "op" (.str op) []))) := Ex.mut (e0.trans e1) h0
    have hx2 : upd H1 x (.ins Z.c_Two dx (putF "op" (.str op) [])) x = some (.ins Z.c_Two dx [("op", .str op)]) := upd_same
    generalize upd H1 x (.ins Z.c_Two dx (putF "op" (.str op) [])) = H2 at e2 hx2
    walk_at "ss"
    refine ⟨p, v1, rfl, h1.up e2, d1, fun H3 e3 => ?_⟩
    walk_at "ss"
    refine ⟨x, _, dx, _, rfl, e3 _ _ hx2, TX.cl, TX.no _ (by decide +kernel), by simp, ?_⟩
    rw [put_tl (by decide +kernel)]
    have e4 : Ex H0 (upd H3 x (.ins Z.c_Two dx (("op", .str op) :: putF "one" v1 []))) := Ex.mut (e2.trans e3) h0
    have hx4 : upd H3 x (.ins Z.c_Two dx (("op", .str op) :: putF "one" v1 [])) x = some (.ins Z.c_Two dx [("op", .str op), ("one", v1)]) := upd_same
    generalize upd H3 x (.ins Z.c_Two dx (("op", .str op) :: putF "one" v1 [])) = H4 at e4 hx4
    walk_at "ss"
    refine ⟨q, v2, rfl, h2.up e4, d2, fun H5 e5 => ?_⟩
    walk_at "ss"
    refine ⟨x, _, dx, _, rfl, e5 _ _ hx4, TX.cl, TX.no _ (by decide +kernel), by simp, ?_⟩
    rw [put_tl (by decide +kernel), put_tl (by decide +kernel)]
    walk_at "ss"
    exact k _ (Ex.mut (e4.trans e5) h0) upd_same
theorem ok_Not_init (T : Txt K mg Z) : FnOk P w K mg base CX0 9 Z.f_Not_init Z.fd_Not_init ["self", "one"] (sp_Not_init Z) := by
  have G_need_term := ok_need_term (P := P) (w := w) (base := base) T
  refine T.F_Not_init.ok sc_Not_init (fun vs H Q E h => ?_) (fun cdv AA outer s H vs Q E hr h => ?_)
  · obtain ⟨x, dx, p, v1, H0, rfl, _⟩ := h
    rfl
  · obtain ⟨x, dx, p, v1, H0, rfl, hx, h0, e0, h1, d1, k⟩ := h
    have TX := tcB_ok T.x_Not
    refine ⟨_, (pss_one (ps_fld (pv 0) (pe_call G_need_term (hr.mono (by omega)) rfl T.g_need_term T.F_need_term.kp T.b_need_term .nil pass0 (pa_cons (pv 1) pa_nil)) (by rfl))), ?_⟩
    walk_at "ss"
    refine ⟨p, v1, rfl, h1.up e0, d1, fun H3 e3 => ?_⟩
    walk_at "ss"
    refine ⟨x, _, dx, _, rfl, e3 _ _ hx, TX.cl, TX.no _ (by decide +kernel), by simp, ?_⟩
    walk_at "ss"
    exact k _ (Ex.mut (e0.trans e3) h0) upd_same
theorem ok_Pick_init (T : Txt K mg Z) : FnOk P w K mg base CX0 9 Z.f_Pick_init Z.fd_Pick_init ["self", "by", "one", "other"] (sp_Pick_init Z) := by
  have G_need_term := ok_need_term (P := P) (w := w) (base := base) T
  refine T.F_Pick_init.ok sc_Pick_init (fun vs H Q E h => ?_) (fun cdv AA outer s H vs Q E hr h => ?_)
  · obtain ⟨x, dx, c, p, q, v0, v1, v2, H0, rfl, _⟩ := h
    rfl
  · obtain ⟨x, dx, c, p, q, v0, v1, v2, H0, rfl, hx, h0, e0, hc, h1, h2, d0, d1, d2, k⟩ := h
    have TX := tcB_ok T.x_Pick
    refine ⟨_, (pss_cons (ps_fld (pv 0) (pe_call G_need_term (hr.mono (by omega)) rfl T.g_need_term T.F_need_term.kp T.b_need_term .nil pass0 (pa_cons (pv 1) pa_nil)) (by rfl))
      (pss_cons (ps_fld (pv 0) (pe_call G_need_term (hr.mono (by omega)) rfl T.g_need_term T.F_need_term.kp T.b_need_term .nil pass0 (pa_cons (pv 2) pa_nil)) (by rfl))
      (pss_one (ps_fld (pv 0) (pe_call G_need_term (hr.mono (by omega)) rfl T.g_need_term T.F_need_term.kp T.b_need_term .nil pass0 (pa_cons (pv 3) pa_nil)) (by rfl))))), ?_⟩
    walk_at "ss"
    refine ⟨c, v0, rfl, hc.up e0, d0, fun H1 e1 => ?_⟩
    walk_at "ss"
    refine ⟨x, _, dx, _, rfl, e1 _ _ hx, TX.cl, TX.no _ (by decide +kernel), by simp, ?_⟩
    have e2 : Ex H0 (upd H1 x (.ins Z.c_Pick dx (putF "by" v0 []))) := Ex.mut (e0.trans e1) h0
    have hx2 : upd H1 x (.ins Z.c_Pick dx (putF "by" v0 [])) x = some (.ins Z.c_Pick dx [("by", v0)]) := upd_same
    generalize upd H1 x (.ins Z.c_Pick dx (putF "by" v0 [])) = H2 at e2 hx2
    walk_at "ss"
    refine ⟨p, v1, rfl, h1.up e2, d1, fun H3 e3 => ?_⟩
    walk_at "ss"
    refine ⟨x, _, dx, _, rfl, e3 _ _ hx2, TX.cl, TX.no _ (by decide +kernel), by simp, ?_⟩
    rw [put_tl (by decide +kernel)]
    have e4 : Ex H0 (upd H3 x (.ins Z.c_Pick dx (("by", v0) :: putF "one" v1 []))) := Ex.mut (e2.trans e3) h0
    have hx4 : upd H3 x (.ins Z.c_Pick dx (("by", v0) :: putF "one" v1 [])) x = some (.ins Z.c_Pick dx [("by", v0), ("one", v1)]) := upd_same
    generalize upd H3 x (.ins Z.c_Pick dx (("by", v0) :: putF "one" v1 [])) = H4 at e4 hx4
    walk_at "ss"
    refine ⟨q, v2, rfl, h2.up e4, d2, fun H5 e5 => ?_⟩
    walk_at "ss"
    refine ⟨x, _, dx, _, rfl, e5 _ _ hx4, TX.cl, TX.no _ (by decide +kernel), by simp, ?_⟩
    rw [put_tl (by decide +kernel), put_tl (by decide +kernel)]
    walk_at "ss"
    exact k _ (Ex.mut (e4.trans e5) h0) upd_same
/-- what is made where: a new one, all else kept -/
def RetM (Z : Adr) (t : Tm) (H : Hp) (Q : VK) : Prop := ∀ v H2, Ex H H2 → TermAt Z H2 t v → Q v H2
theorem RetM.up {t : Tm} {H0 H : Hp} {Q : VK} (k : RetM Z t H0 Q) (e : Ex H0 H) : RetM Z t H Q := fun v H2 e2 => k v H2 (e.trans e2)
theorem mk_heap {H : Hp} {x dx : Addr} {C : Addr} (hx : H x = none) (hd : H dx = none) : Ex H (upd (upd H dx (.own x)) x (.ins C dx [])) := fun a o h => by
  rw [upd_ne (ne_of_none h hx), upd_ne (ne_of_none h hd)]
  exact h
theorem mk_Name {H : Hp} {Q : VK} {E : XK} {s : Str} (hp : isPointed s = true) (hl : s.length ≤ 1000) (k : RetM Z (.nm s) H Q) : MkP2 Z.c_Name (sp_Name_init Z) [.str s] H Q E := fun x dx hx hd _ =>
  ⟨x, dx, s, H, rfl, upd_same, hx, mk_heap hx hd, hp, hl, fun H2 e2 g2 => ⟨rfl, k _ _ e2 ⟨x, dx, rfl, g2⟩⟩⟩
theorem mk_Value {H : Hp} {Q : VK} {E : XK} {v : V} (hp : isVal v = true) (k : RetM Z (.vl v) H Q) : MkP2 Z.c_Value (sp_Value_init Z) [v] H Q E := fun x dx hx hd _ =>
  ⟨x, dx, v, H, rfl, upd_same, hx, mk_heap hx hd, hp, fun H2 e2 g2 => ⟨rfl, k _ _ e2 ⟨x, dx, rfl, g2⟩⟩⟩
theorem mk_Two {H : Hp} {Q : VK} {E : XK} {op : Str} {p q : Tm} {v1 v2 : V} (ho : op ∈ opsW) (h1 : TermAt Z H p v1) (h2 : TermAt Z H q v2) (d1 : p.dep ≤ 4) (d2 : q.dep ≤ 4) (k : RetM Z (.two op p q) H Q) : MkP2 Z.c_Two (sp_Two_init Z) [.str op, v1, v2] H Q E := fun x dx hx hd _ =>
  ⟨x, dx, op, p, q, v1, v2, H, rfl, upd_same, hx, mk_heap hx hd, ho, h1, h2, d1, d2, fun H2 e2 g2 => ⟨rfl, k _ _ e2 ⟨x, dx, v1, v2, rfl, g2, h1.up e2, h2.up e2⟩⟩⟩
theorem mk_Not {H : Hp} {Q : VK} {E : XK} {p : Tm} {v1 : V} (h1 : TermAt Z H p v1) (d1 : p.dep ≤ 4) (k : RetM Z (.nt p) H Q) : MkP2 Z.c_Not (sp_Not_init Z) [v1] H Q E := fun x dx hx hd _ =>
  ⟨x, dx, p, v1, H, rfl, upd_same, hx, mk_heap hx hd, h1, d1, fun H2 e2 g2 => ⟨rfl, k _ _ e2 ⟨x, dx, v1, rfl, g2, h1.up e2⟩⟩⟩
theorem mk_Pick {H : Hp} {Q : VK} {E : XK} {c p q : Tm} {v0 v1 v2 : V} (h0 : TermAt Z H c v0) (h1 : TermAt Z H p v1) (h2 : TermAt Z H q v2) (d0 : c.dep ≤ 4) (d1 : p.dep ≤ 4) (d2 : q.dep ≤ 4) (k : RetM Z (.pk c p q) H Q) : MkP2 Z.c_Pick (sp_Pick_init Z) [v0, v1, v2] H Q E := fun x dx hx hd _ =>
  ⟨x, dx, c, p, q, v0, v1, v2, H, rfl, upd_same, hx, mk_heap hx hd, h0, h1, h2, d0, d1, d2, fun H2 e2 g2 => ⟨rfl, k _ _ e2 ⟨x, dx, v0, v1, v2, rfl, g2, h0.up e2, h1.up e2, h2.up e2⟩⟩⟩

/-! ### terms of what was told -/
def Tm.good : Tm → Prop
  | .nm s => isPointed s = true ∧ s.length ≤ 80 ∧ OkT s
  | .vl v => isVal v = true
  | .two op a b => op ∈ opsW ∧ a.good ∧ b.good
  | .nt a => a.good
  | .pk c a b => c.good ∧ a.good ∧ b.good
def valD : V → PyData
  | .bl b => .bool b
  | .int i => .int i
  | _ => .none
def Tm.data : Tm → PyData
  | .nm s => .tuple [.str "name", .str s]
  | .vl v => .tuple [.str "value", valD v]
  | .two op a b => .tuple [.str "two", .str op, a.data, b.data]
  | .nt a => .tuple [.str "not", a.data]
  | .pk c a b => .tuple [.str "pick", c.data, a.data, b.data]
theorem ToldAt.dp {H : Hp} : ∀ {t : Tm} {u : V}, t.good → ToldAt H t u → Dp K H u t.data := by
  intro t
  induction t with
  | nm s => rintro u _ ⟨a, rfl, h⟩; exact .tup (SqT.of h) (.cons (.str _) (.cons (.str _) .nil))
  | vl v =>
    rintro u g ⟨a, rfl, h⟩
    refine .tup (SqT.of h) (.cons (.str _) (.cons ?_ .nil))
    cases v with
    | bl b => exact .bl b
    | int i => exact .int i
    | _ => exact absurd g Bool.false_ne_true
  | two op p q ihp ihq => rintro u g ⟨a, v1, v2, rfl, h, h1, h2⟩; exact .tup (SqT.of h) (.cons (.str _) (.cons (.str _) (.cons (ihp g.2.1 h1) (.cons (ihq g.2.2 h2) .nil))))
  | nt p ihp => rintro u g ⟨a, v1, rfl, h, h1⟩; exact .tup (SqT.of h) (.cons (.str _) (.cons (ihp g h1) .nil))
  | pk c p q ihc ihp ihq => rintro u g ⟨a, v0, v1, v2, rfl, h, h0, h1, h2⟩; exact .tup (SqT.of h) (.cons (.str _) (.cons (ihc g.1 h0) (.cons (ihp g.2.1 h1) (.cons (ihq g.2.2 h2) .nil))))
theorem ok_lit {s : Str} (h : (TL.tl s).all (fun c => decide (c < 1114112)) = true) {n : Nat} (hl : s.length ≤ n) : RpOk 0 n (.str s) := (rp_str (OkT.lit h)).mono (Nat.le_refl _) hl
theorem ops_lit {op : Str} (h : op ∈ opsW) : RpOk 0 5 (.str op) := by
  have : opsW.all (fun s => (TL.tl s).all (fun c => decide (c < 1114112)) && decide (s.length ≤ 5)) = true := by decide +kernel
  have := List.all_eq_true.mp this op h
  rw [Bool.and_eq_true, decide_eq_true_eq] at this
  exact ok_lit this.1 this.2
theorem Tm.rp : ∀ {t : Tm}, t.good → RpOk t.dep (200 * 4 ^ t.dep) t.data := by
  intro t
  induction t with
  | nm s =>
    intro g
    refine (rp_tup (rp_cons (ok_lit (n := 4) (by decide +kernel) (by decide +kernel)) (rp_cons (rp_str g.2.2) rp_nil))).mono (by show 0 + 1 ≤ 1; omega) ?_
    have := g.2.1
    show 4 + 1 + (s.length + 1 + 0) ≤ 200 * 4 ^ 1
    omega
  | vl v =>
    intro g
    have hv : RpOk 0 0 (valD v) := by
      cases v with
      | bl b => exact rp_bl b
      | int i =>
        have g' : (decide (-1000000000 ≤ i) && decide (i ≤ 1000000000)) = true := g
        rw [Bool.and_eq_true, decide_eq_true_eq, decide_eq_true_eq] at g'
        exact rp_int (by omega)
      | _ => exact absurd g Bool.false_ne_true
    exact (rp_tup (rp_cons (ok_lit (n := 5) (by decide +kernel) (by decide +kernel)) (rp_cons hv rp_nil))).mono (by show 0 + 1 ≤ 1; omega) (by show 5 + 1 + (0 + 1 + 0) ≤ 200 * 4 ^ 1; omega)
  | two op a b iha ihb =>
    intro g
    have p1 : 4 ^ a.dep ≤ 4 ^ max a.dep b.dep := Nat.pow_le_pow_right (by decide) (by omega)
    have p2 : 4 ^ b.dep ≤ 4 ^ max a.dep b.dep := Nat.pow_le_pow_right (by decide) (by omega)
    have p3 : 1 ≤ 4 ^ max a.dep b.dep := Nat.one_le_pow _ _ (by decide)
    have e : 4 ^ (1 + max a.dep b.dep) = 4 * 4 ^ max a.dep b.dep := by rw [Nat.pow_add]
    refine (rp_tup (rp_cons (ok_lit (n := 4) (by decide +kernel) (by decide +kernel)) (rp_cons (ops_lit g.1) (rp_cons (iha g.2.1) (rp_cons (ihb g.2.2) rp_nil))))).mono ?_ ?_
    · show max 0 (max 0 (max a.dep (max b.dep 0))) + 1 ≤ 1 + max a.dep b.dep
      omega
    · show 4 + 1 + (5 + 1 + (200 * 4 ^ a.dep + 1 + (200 * 4 ^ b.dep + 1 + 0))) ≤ 200 * 4 ^ (1 + max a.dep b.dep)
      rw [e]
      omega
  | nt a iha =>
    intro g
    have p3 : 1 ≤ 4 ^ a.dep := Nat.one_le_pow _ _ (by decide)
    have e : 4 ^ (1 + a.dep) = 4 * 4 ^ a.dep := by rw [Nat.pow_add]
    refine (rp_tup (rp_cons (ok_lit (n := 4) (by decide +kernel) (by decide +kernel)) (rp_cons (iha g) rp_nil))).mono ?_ ?_
    · show max 0 (max a.dep 0) + 1 ≤ 1 + a.dep
      omega
    · show 4 + 1 + (200 * 4 ^ a.dep + 1 + 0) ≤ 200 * 4 ^ (1 + a.dep)
      rw [e]
      omega
  | pk c a b ihc iha ihb =>
    intro g
    have p0 : 4 ^ c.dep ≤ 4 ^ max (max c.dep a.dep) b.dep := Nat.pow_le_pow_right (by decide) (by omega)
    have p1 : 4 ^ a.dep ≤ 4 ^ max (max c.dep a.dep) b.dep := Nat.pow_le_pow_right (by decide) (by omega)
    have p2 : 4 ^ b.dep ≤ 4 ^ max (max c.dep a.dep) b.dep := Nat.pow_le_pow_right (by decide) (by omega)
    have p3 : 1 ≤ 4 ^ max (max c.dep a.dep) b.dep := Nat.one_le_pow _ _ (by decide)
    have e : 4 ^ (1 + max (max c.dep a.dep) b.dep) = 4 * 4 ^ max (max c.dep a.dep) b.dep := by rw [Nat.pow_add]
    refine (rp_tup (rp_cons (ok_lit (n := 4) (by decide +kernel) (by decide +kernel)) (rp_cons (ihc g.1) (rp_cons (iha g.2.1) (rp_cons (ihb g.2.2) rp_nil))))).mono ?_ ?_
    · show max 0 (max c.dep (max a.dep (max b.dep 0))) + 1 ≤ 1 + max (max c.dep a.dep) b.dep
      omega
    · show 4 + 1 + (200 * 4 ^ c.dep + 1 + (200 * 4 ^ a.dep + 1 + (200 * 4 ^ b.dep + 1 + 0))) ≤ 200 * 4 ^ (1 + max (max c.dep a.dep) b.dep)
      rw [e]
      omega
theorem NL.ins {H H2 : Hp} (e : NL H H2) : InsK H H2 := fun a C dx fs h => e a _ (fun _ z => by cases z) h
theorem NL.tups {H H2 : Hp} (e : NL H H2) : TupK H H2 := fun a xs h => e a _ (fun _ z => by cases z) h

def sp_simple_of (Z : Adr) : Sp := fun vs H Q _ => (∃ s, vs = [.str "name", .str s] ∧ isPointed s = true ∧ s.length ≤ 80 ∧ RetM Z (.nm s) H Q) ∨ ∃ v, vs = [.str "value", v] ∧ isVal v = true ∧ RetM Z (.vl v) H Q
theorem ok_simple_of (T : Txt K mg Z) : FnOk P w K mg base CX0 6 Z.f_simple_of Z.fd_simple_of ["word", "thing"] (sp_simple_of Z) := by
  have G_is_pointed := ok_is_pointed (P := P) (w := w) (base := base) T
  have G_is_value := ok_is_value (P := P) (w := w) (base := base) T
  have G_Name_init := ok_Name_init (P := P) (w := w) (base := base) T
  have G_Value_init := ok_Value_init (P := P) (w := w) (base := base) T
  refine T.F_simple_of.ok sc_simple_of (fun vs H Q E h => ?_) (fun cdv AA outer s H vs Q E hr h => ?_)
  · rcases h with ⟨s, rfl, _⟩ | ⟨v, rfl, _⟩ <;> rfl
  · refine ⟨_, (pss_cons (ps_if (PW.pt (pw_and (pt_cmpR op_eq (pv 0) pe_str (nomark _)) (pw_and1 (pt_val (pe_call G_is_pointed (hr.mono (by omega)) rfl T.g_is_pointed T.F_is_pointed.kp T.b_is_pointed .nil pass0 (pa_cons (pv 1) pa_nil)))))) (pss_one (ps_ret (pe_make ⟨(tcB_ok T.x_Name).makes, T.i_Name, T.y_Name_init, (tcB_ok T.x_Name).kp⟩ G_Name_init (hr.mono (by omega)) rfl T.m_Name T.b_Name_init .nil pass0 (pa_cons (pv 1) pa_nil)))) pss_nil)
      (pss_cons (ps_if (PW.pt (pw_and (pt_cmpR op_eq (pv 0) pe_str (nomark _)) (pw_and1 (pt_val (pe_call G_is_value (hr.mono (by omega)) rfl T.g_is_value T.F_is_value.kp T.b_is_value .nil pass0 (pa_cons (pv 1) pa_nil)))))) (pss_one (ps_ret (pe_make ⟨(tcB_ok T.x_Value).makes, T.i_Value, T.y_Value_init, (tcB_ok T.x_Value).kp⟩ G_Value_init (hr.mono (by omega)) rfl T.m_Value T.b_Value_init .nil pass0 (pa_cons (pv 1) pa_nil)))) pss_nil)
      (pss_one (ps_ret pe_non)))), ?_⟩
    rcases h with ⟨s, rfl, hp, hl, k⟩ | ⟨v, rfl, hp, k⟩
    · walk_at "ss"
      rw [str_eq rfl]
      walk_at "ss"
      refine ⟨_, rfl, .inl ⟨s, rfl, by omega, fun H1 e1 => ?_⟩⟩
      rw [hp]
      walk_at "ss"
      exact mk_Name hp (by omega) (k.up e1)
    · walk_at "ss"
      rw [str_ne (by decide +kernel)]
      walk_at "ss"
      rw [str_eq rfl]
      walk_at "ss"
      refine is_val hp ?_
      walk_at "ss"
      exact mk_Value hp k

theorem int_ne {i j : Int} (h : i ≠ j) : decide (V.int i = V.int j) = false := decide_eq_false fun e => h (V.int.inj e)
theorem int_eq {i j : Int} (h : i = j) : decide (V.int i = V.int j) = true := decide_eq_true (by rw [h])
theorem kb_tt : kitB "tuple" "tuple" = some true := by decide +kernel
def sp_made (Z : Adr) (n : Nat) : Sp := fun vs H Q _ => ∃ (t : Tm) (u : V) (l : Nat), vs = [u, .int (l : Nat)] ∧ ToldAt H t u ∧ t.good ∧ t.dep ≤ l ∧ l ≤ n ∧ l ≤ 5 ∧ RetM Z t H Q
theorem ok_made_of_told (T : Txt K mg Z) {n : Nat} (G_made_of_told : FnOk P w K mg base CX0 (n + 12) Z.f_made_of_told Z.fd_made_of_told ["told", "left"] (sp_made Z n)) : FnOk P w K mg base CX0 (n + 13) Z.f_made_of_told Z.fd_made_of_told ["told", "left"] (sp_made Z (n + 1)) := by
  have G_simple_of := ok_simple_of (P := P) (w := w) (base := base) T
  have G_ops_told := ok_ops_told (P := P) (w := w) (base := base) T
  have G_Two_init := ok_Two_init (P := P) (w := w) (base := base) T
  have G_Not_init := ok_Not_init (P := P) (w := w) (base := base) T
  have G_Pick_init := ok_Pick_init (P := P) (w := w) (base := base) T
  refine T.F_made_of_told.ok sc_made_of_told (fun vs H Q E h => ?_) (fun cdv AA outer s H vs Q E hr h => ?_)
  · obtain ⟨t, u, l, rfl, _⟩ := h
    rfl
  · obtain ⟨t, u, l, rfl, ht, hg, hd, hl, h5, k⟩ := h
    have hd0 := t.dep_pos
    refine ⟨_, (pss_cons (ps_if (PW.pt (pw_or (pt_cmpR op_eq (pv 1) pe_int (nomark _)) (pw_or (pt_not (pt_val (pe_callB call_isi (by rfl) T.n_isinstance (by decide +kernel) (pa_cons (pv 0) (pa_cons (pe_bltn (v := .ty "tuple") (by rfl) T.n_tuple (by decide +kernel) rfl) pa_nil))))) (pw_or (pt_cmpR op_lt (pe_callB call_len_seq (by rfl) T.n_len (by decide +kernel) (pa_cons (pv 0) pa_nil)) pe_int (nomark _)) (pw_or1 (pt_not (pt_val (pe_callB call_isi (by rfl) T.n_isinstance (by decide +kernel) (pa_cons (pe_ix ix_tup (pv 0) pe_int (fun _ _ => rfl)) (pa_cons (pe_bltn (v := .ty "str") (by rfl) T.n_str (by decide +kernel) rfl) pa_nil)))))))))) (pss_one (ps_ret pe_non)) pss_nil)
      (pss_cons (ps_set (i := 2) sc_made_of_told.nd rfl (Or.inl rfl) (pe_ix ix_tup (pv 0) pe_int (fun _ _ => rfl)))
      (pss_cons (ps_if (PW.pt (pw_and (pt_cmpR op_in_seq (pv 2) (pe_tup (pa_cons pe_str (pa_cons pe_str pa_nil))) (by rfl)) (pw_and1 (pt_cmpR op_eq (pe_callB call_len_seq (by rfl) T.n_len (by decide +kernel) (pa_cons (pv 0) pa_nil)) pe_int (nomark _))))) (pss_one (ps_ret (pe_call G_simple_of (hr.mono (by omega)) rfl T.g_simple_of T.F_simple_of.kp T.b_simple_of .nil pass0 (pa_cons (pv 2) (pa_cons (pe_ix ix_tup (pv 0) pe_int (fun _ _ => rfl)) pa_nil))))) pss_nil)
      (pss_cons (ps_set (i := 3) sc_made_of_told.nd rfl (Or.inl rfl) (pe_op op_add pe_int (pe_callTy call_int1 (by rfl) T.n_int (by decide +kernel) (pa_cons (pe_cmpR op_eq (pv 2) pe_str (nomark _)) pa_nil))))
      (pss_cons (ps_setLc (i := 4) (own := [("one", 5)]) (g := (gName 5)) (tt := tYes) (te := (tCall (sp_made Z n) [] E0 (tCons (tVar 5) (tCons (tOp (rI0 fun i j => .int (i - j)) (tVar 1) (tC (.int 1))) tNil)))) rfl sc_made_of_told.nd rfl rfl (sw_true rfl rfl rfl (by decide +kernel)) (pi_tup (pe_slice sl_tup (pv 0) (po_some (pv 3)) po_none)) (blkOk_by (own := [("one", 5)]) (N := N_made_of_told) (sc := defScope s_made_of_told) (by decide +kernel)) (fun _ _ _ _ _ => (pg_name (i := 5) sc_made_of_told.nd rfl (Or.inl rfl))) (fun _ _ _ _ _ => pts_nil) (fun _ _ _ _ _ => (pe_call G_made_of_told (hr.mono (by omega)) rfl T.g_made_of_told T.F_made_of_told.kp T.b_made_of_told .nil pass0 (pa_cons (pv 5) (pa_cons (pe_op op_sub (pv 1) pe_int) pa_nil)))))
      (pss_cons (ps_if (pt_cmpR (op_noneIn hr.units) pe_non (pv 4) (by rfl)) (pss_one (ps_ret pe_non)) pss_nil)
      (pss_cons (ps_if (PW.pt (pw_and (pt_cmpR op_eq (pv 2) pe_str (nomark _)) (pw_and (pt_cmpR op_eq (pe_callB call_len_seq (by rfl) T.n_len (by decide +kernel) (pa_cons (pv 4) pa_nil)) pe_int (nomark _)) (pw_and (pt_val (pe_callB call_isi (by rfl) T.n_isinstance (by decide +kernel) (pa_cons (pe_ix ix_tup (pv 0) pe_int (fun _ _ => rfl)) (pa_cons (pe_bltn (v := .ty "str") (by rfl) T.n_str (by decide +kernel) rfl) pa_nil)))) (pw_and1 (pt_cmpR op_in_seq (pe_ix ix_tup (pv 0) pe_int (fun _ _ => rfl)) (pe_call0 G_ops_told (hr.mono (by omega)) rfl T.g_ops_told T.F_ops_told.kp T.b_ops_told .nil pass0) (by rfl))))))) (pss_one (ps_ret (pe_make ⟨(tcB_ok T.x_Two).makes, T.i_Two, T.y_Two_init, (tcB_ok T.x_Two).kp⟩ G_Two_init (hr.mono (by omega)) rfl T.m_Two T.b_Two_init .nil pass0 (pa_cons (pe_ix ix_tup (pv 0) pe_int (fun _ _ => rfl)) (pa_cons (pe_ix ix_list (pv 4) pe_int (fun _ _ => rfl)) (pa_cons (pe_ix ix_list (pv 4) pe_int (fun _ _ => rfl)) pa_nil)))))) pss_nil)
      (pss_cons (ps_if (PW.pt (pw_and (pt_cmpR op_eq (pv 2) pe_str (nomark _)) (pw_and1 (pt_cmpR op_eq (pe_callB call_len_seq (by rfl) T.n_len (by decide +kernel) (pa_cons (pv 4) pa_nil)) pe_int (nomark _))))) (pss_one (ps_ret (pe_make ⟨(tcB_ok T.x_Not).makes, T.i_Not, T.y_Not_init, (tcB_ok T.x_Not).kp⟩ G_Not_init (hr.mono (by omega)) rfl T.m_Not T.b_Not_init .nil pass0 (pa_cons (pe_ix ix_list (pv 4) pe_int (fun _ _ => rfl)) pa_nil)))) pss_nil)
      (pss_cons (ps_if (PW.pt (pw_and (pt_cmpR op_eq (pv 2) pe_str (nomark _)) (pw_and1 (pt_cmpR op_eq (pe_callB call_len_seq (by rfl) T.n_len (by decide +kernel) (pa_cons (pv 4) pa_nil)) pe_int (nomark _))))) (pss_one (ps_ret (pe_make ⟨(tcB_ok T.x_Pick).makes, T.i_Pick, T.y_Pick_init, (tcB_ok T.x_Pick).kp⟩ G_Pick_init (hr.mono (by omega)) rfl T.m_Pick T.b_Pick_init .nil pass0 (pa_cons (pe_ix ix_list (pv 4) pe_int (fun _ _ => rfl)) (pa_cons (pe_ix ix_list (pv 4) pe_int (fun _ _ => rfl)) (pa_cons (pe_ix ix_list (pv 4) pe_int (fun _ _ => rfl)) pa_nil)))))) pss_nil)
      (pss_one (ps_ret pe_non))))))))))), ?_⟩
    cases t with
    | nm s =>
      obtain ⟨a, rfl, ha⟩ := ht
      walk_at "ss"
      rw [int_ne (by omega)]
      walk_at "ss"
      refine isi (ty_tup ha) kb_tt ?_
      walk_at "ss"
      refine ⟨a, _, rfl, .inr (SqT.of ha), ?_⟩
      walk_at "ss"
      refine if_ff rfl ?_
      walk_at "ss"
      refine c_ixT (SqT.of ha) rfl ?_
      walk_at "ss"
      refine isi (ty_str _) kb_ss ?_
      walk_at "ss"
      refine c_ixT (SqT.of ha) rfl ?_
      walk_at "ss"
      refine newT fun p1 H1 hp1 e1 g1 => ?_
      refine c_in (.inr (SqT.of g1)) rfl rfl ?_
      have ha1 := e1 _ _ ha
      rw [show inV (V.str "name") [V.str "name", V.str "value"] = true from by decide +kernel]
      walk_at "ss"
      refine ⟨a, _, rfl, .inr (SqT.of ha1), ?_⟩
      walk_at "ss"
      refine if_tt rfl ?_
      walk_at "ss"
      refine c_ixT (SqT.of ha1) rfl ?_
      walk_at "ss"
      exact .inl ⟨_, rfl, hg.1, hg.2.1, k.up e1⟩
    | vl v =>
      obtain ⟨a, rfl, ha⟩ := ht
      walk_at "ss"
      rw [int_ne (by omega)]
      walk_at "ss"
      refine isi (ty_tup ha) kb_tt ?_
      walk_at "ss"
      refine ⟨a, _, rfl, .inr (SqT.of ha), ?_⟩
      walk_at "ss"
      refine if_ff rfl ?_
      walk_at "ss"
      refine c_ixT (SqT.of ha) rfl ?_
      walk_at "ss"
      refine isi (ty_str _) kb_ss ?_
      walk_at "ss"
      refine c_ixT (SqT.of ha) rfl ?_
      walk_at "ss"
      refine newT fun p1 H1 hp1 e1 g1 => ?_
      refine c_in (.inr (SqT.of g1)) rfl rfl ?_
      have ha1 := e1 _ _ ha
      rw [show inV (V.str "value") [V.str "name", V.str "value"] = true from by decide +kernel]
      walk_at "ss"
      refine ⟨a, _, rfl, .inr (SqT.of ha1), ?_⟩
      walk_at "ss"
      refine if_tt rfl ?_
      walk_at "ss"
      refine c_ixT (SqT.of ha1) rfl ?_
      walk_at "ss"
      exact .inr ⟨_, rfl, hg, k.up e1⟩
    | two op tx ty =>
      obtain ⟨a, v1, v2, rfl, ha, h_tx, h_ty⟩ := ht
      obtain ⟨gop, g_tx, g_ty⟩ := hg
      simp only [Tm.dep] at hd hd0
      walk_at "ss"
      rw [int_ne (by omega)]
      walk_at "ss"
      refine isi (ty_tup ha) kb_tt ?_
      walk_at "ss"
      refine ⟨a, _, rfl, .inr (SqT.of ha), ?_⟩
      walk_at "ss"
      refine if_ff rfl ?_
      walk_at "ss"
      refine c_ixT (SqT.of ha) rfl ?_
      walk_at "ss"
      refine isi (ty_str _) kb_ss ?_
      walk_at "ss"
      refine c_ixT (SqT.of ha) rfl ?_
      walk_at "ss"
      refine newT fun p1 H1 hp1 e1 g1 => ?_
      refine c_in (.inr (SqT.of g1)) rfl rfl ?_
      have ha1 := e1 _ _ ha
      rw [show inV (V.str "two") [V.str "name", V.str "value"] = false from by decide +kernel]
      walk_at "ss"
      rw [str_eq rfl]
      walk_at "ss"
      refine .inr ⟨_, rfl, ?_⟩
      walk_at "ss"
      refine ⟨a, _, rfl, SqT.of ha1, fun z => absurd (show (2 : Nat) = 0 from z.1) (by decide), fun p2 hp2 => ?_⟩
      have e2 : Ex H1 (upd H1 p2 (.tup [v1, v2])) := Ex.new hp2
      have g2 : upd H1 p2 (.tup [v1, v2]) p2 = some (.tup [v1, v2]) := upd_same
      show ∃ a, _
      rw [show cutV [V.str "two", V.str op, v1, v2] _ none = [v1, v2] from rfl]
      generalize upd H1 p2 (.tup [v1, v2]) = H2 at e2 g2
      have e12 := e1.trans e2
      refine ⟨p2, rfl, ⟨_, SqT.of g2⟩, lcTN (fun i y G => ∃ t, ([tx, ty] : List Tm)[i]? = some t ∧ TermAt Z G t y) (fun i y G G2 en ⟨t, h1, h2⟩ => ⟨t, h1, h2.keep (NL.ins en)⟩) (SqT.of g2) (by simp) (fun i x hx => ?_) ?_⟩
      · intro H3 e3 R N hR
        have hi : i < 2 := by simpa using (List.getElem?_eq_some_iff.mp hx).1
        walk_at "ss"
        have go : ∃ t, ([tx, ty] : List Tm)[i]? = some t ∧ ToldAt H t x ∧ t.good ∧ t.dep + 1 ≤ l := by
          have hi' : i = 0 ∨ i = 1 := by omega
          rcases hi' with rfl | rfl
          · have hv : v1 = x := by simpa using hx
            subst hv
            exact ⟨tx, rfl, h_tx, g_tx, by omega⟩
          · have hv : v2 = x := by simpa using hx
            subst hv
            exact ⟨ty, rfl, h_ty, g_ty, by omega⟩
        obtain ⟨t, ht1, ht2, ht3, ht4⟩ := go
        have el : ((l : Nat) : Int) - 1 = ((l - 1 : Nat) : Int) := by omega
        rw [el]
        refine ⟨t, x, l - 1, rfl, ht2.up (e12.trans e3), ht3, by omega, by omega, by omega, fun v H4 e4 tv => ?_⟩
        exact hR _ _ e4 ⟨t, ht1, tv⟩
      intro ys p3 H3 hyl hys hp3 e3 g3
      obtain ⟨y0, y1, rfl⟩ : ∃ y0 y1, ys = [y0, y1] := by
        match ys, hyl with
        | [y0, y1], _ => exact ⟨y0, y1, rfl⟩
      have k0 : TermAt Z H3 tx y0 := by
        obtain ⟨t, h1, h2⟩ := hys 0 y0 rfl
        have : tx = t := by simpa using h1
        subst this
        exact h2
      have k1 : TermAt Z H3 ty y1 := by
        obtain ⟨t, h1, h2⟩ := hys 1 y1 rfl
        have : ty = t := by simpa using h1
        subst this
        exact h2
      have e03 := e12.trans e3
      have ha3 := e03 _ _ ha
      walk_at "ss"
      refine c_noneIn (SqL.of g3) (fun z hz => ?_) (fun z hz => ?_) ?_
      · obtain ⟨i, hi⟩ := List.getElem?_of_mem hz
        obtain ⟨t, _, h2⟩ := hys i z hi
        exact h2.noneOr T
      · obtain ⟨i, hi⟩ := List.getElem?_of_mem hz
        obtain ⟨t, _, h2⟩ := hys i z hi
        obtain ⟨aa, _, _, rfl, _⟩ := h2.cls
        exact fun z => by cases z
      walk_at "ss"
      rw [str_eq rfl]
      walk_at "ss"
      refine ⟨p3, _, rfl, .inl (SqL.of g3), ?_⟩
      walk_at "ss"
      refine if_tt rfl ?_
      walk_at "ss"
      refine c_ixT (SqT.of ha3) rfl ?_
      walk_at "ss"
      refine isi (ty_str _) kb_ss ?_
      walk_at "ss"
      refine c_ixT (SqT.of ha3) rfl ?_
      walk_at "ss"
      refine ⟨rfl, fun p4 H4 hp4 e4 g4 => ?_⟩
      refine c_in (.inl (SqL.of g4)) rfl flat_strs ?_
      rw [in_ops gop]
      walk_at "ss"
      refine c_ixT (SqT.of (e4 _ _ ha3)) rfl ?_
      walk_at "ss"
      refine c_ixL (SqL.of (e4 _ _ g3)) rfl ?_
      walk_at "ss"
      refine c_ixL (SqL.of (e4 _ _ g3)) rfl ?_
      walk_at "ss"
      exact mk_Two gop (k0.up e4) (k1.up e4) (by omega) (by omega) (k.up (e03.trans e4))
    | nt tx =>
      obtain ⟨a, v1, rfl, ha, h_tx⟩ := ht
      have g_tx : tx.good := hg
      simp only [Tm.dep] at hd hd0
      walk_at "ss"
      rw [int_ne (by omega)]
      walk_at "ss"
      refine isi (ty_tup ha) kb_tt ?_
      walk_at "ss"
      refine ⟨a, _, rfl, .inr (SqT.of ha), ?_⟩
      walk_at "ss"
      refine if_ff rfl ?_
      walk_at "ss"
      refine c_ixT (SqT.of ha) rfl ?_
      walk_at "ss"
      refine isi (ty_str _) kb_ss ?_
      walk_at "ss"
      refine c_ixT (SqT.of ha) rfl ?_
      walk_at "ss"
      refine newT fun p1 H1 hp1 e1 g1 => ?_
      refine c_in (.inr (SqT.of g1)) rfl rfl ?_
      have ha1 := e1 _ _ ha
      rw [show inV (V.str "not") [V.str "name", V.str "value"] = false from by decide +kernel]
      walk_at "ss"
      rw [str_ne (by decide +kernel)]
      walk_at "ss"
      refine .inr ⟨_, rfl, ?_⟩
      walk_at "ss"
      refine ⟨a, _, rfl, SqT.of ha1, fun z => absurd (show (1 : Nat) = 0 from z.1) (by decide), fun p2 hp2 => ?_⟩
      have e2 : Ex H1 (upd H1 p2 (.tup [v1])) := Ex.new hp2
      have g2 : upd H1 p2 (.tup [v1]) p2 = some (.tup [v1]) := upd_same
      show ∃ a, _
      rw [show cutV [V.str "not", v1] _ none = [v1] from rfl]
      generalize upd H1 p2 (.tup [v1]) = H2 at e2 g2
      have e12 := e1.trans e2
      refine ⟨p2, rfl, ⟨_, SqT.of g2⟩, lcTN (fun i y G => ∃ t, ([tx] : List Tm)[i]? = some t ∧ TermAt Z G t y) (fun i y G G2 en ⟨t, h1, h2⟩ => ⟨t, h1, h2.keep (NL.ins en)⟩) (SqT.of g2) (by simp) (fun i x hx => ?_) ?_⟩
      · intro H3 e3 R N hR
        have hi : i < 1 := by simpa using (List.getElem?_eq_some_iff.mp hx).1
        walk_at "ss"
        have go : ∃ t, ([tx] : List Tm)[i]? = some t ∧ ToldAt H t x ∧ t.good ∧ t.dep + 1 ≤ l := by
          have hi' : i = 0 := by omega
          rcases hi' with rfl
          · have hv : v1 = x := by simpa using hx
            subst hv
            exact ⟨tx, rfl, h_tx, g_tx, by omega⟩
        obtain ⟨t, ht1, ht2, ht3, ht4⟩ := go
        have el : ((l : Nat) : Int) - 1 = ((l - 1 : Nat) : Int) := by omega
        rw [el]
        refine ⟨t, x, l - 1, rfl, ht2.up (e12.trans e3), ht3, by omega, by omega, by omega, fun v H4 e4 tv => ?_⟩
        exact hR _ _ e4 ⟨t, ht1, tv⟩
      intro ys p3 H3 hyl hys hp3 e3 g3
      obtain ⟨y0, rfl⟩ : ∃ y0, ys = [y0] := by
        match ys, hyl with
        | [y0], _ => exact ⟨y0, rfl⟩
      have k0 : TermAt Z H3 tx y0 := by
        obtain ⟨t, h1, h2⟩ := hys 0 y0 rfl
        have : tx = t := by simpa using h1
        subst this
        exact h2
      have e03 := e12.trans e3
      have ha3 := e03 _ _ ha
      walk_at "ss"
      refine c_noneIn (SqL.of g3) (fun z hz => ?_) (fun z hz => ?_) ?_
      · obtain ⟨i, hi⟩ := List.getElem?_of_mem hz
        obtain ⟨t, _, h2⟩ := hys i z hi
        exact h2.noneOr T
      · obtain ⟨i, hi⟩ := List.getElem?_of_mem hz
        obtain ⟨t, _, h2⟩ := hys i z hi
        obtain ⟨aa, _, _, rfl, _⟩ := h2.cls
        exact fun z => by cases z
      walk_at "ss"
      rw [str_ne (by decide +kernel)]
      walk_at "ss"
      rw [str_eq rfl]
      walk_at "ss"
      refine ⟨p3, _, rfl, .inl (SqL.of g3), ?_⟩
      walk_at "ss"
      refine if_tt rfl ?_
      walk_at "ss"
      refine c_ixL (SqL.of g3) rfl ?_
      walk_at "ss"
      exact mk_Not k0 (by omega) (k.up e03)
    | pk tc tx ty =>
      obtain ⟨a, v0, v1, v2, rfl, ha, h_tc, h_tx, h_ty⟩ := ht
      obtain ⟨g_tc, g_tx, g_ty⟩ := hg
      simp only [Tm.dep] at hd hd0
      walk_at "ss"
      rw [int_ne (by omega)]
      walk_at "ss"
      refine isi (ty_tup ha) kb_tt ?_
      walk_at "ss"
      refine ⟨a, _, rfl, .inr (SqT.of ha), ?_⟩
      walk_at "ss"
      refine if_ff rfl ?_
      walk_at "ss"
      refine c_ixT (SqT.of ha) rfl ?_
      walk_at "ss"
      refine isi (ty_str _) kb_ss ?_
      walk_at "ss"
      refine c_ixT (SqT.of ha) rfl ?_
      walk_at "ss"
      refine newT fun p1 H1 hp1 e1 g1 => ?_
      refine c_in (.inr (SqT.of g1)) rfl rfl ?_
      have ha1 := e1 _ _ ha
      rw [show inV (V.str "pick") [V.str "name", V.str "value"] = false from by decide +kernel]
      walk_at "ss"
      rw [str_ne (by decide +kernel)]
      walk_at "ss"
      refine .inr ⟨_, rfl, ?_⟩
      walk_at "ss"
      refine ⟨a, _, rfl, SqT.of ha1, fun z => absurd (show (1 : Nat) = 0 from z.1) (by decide), fun p2 hp2 => ?_⟩
      have e2 : Ex H1 (upd H1 p2 (.tup [v0, v1, v2])) := Ex.new hp2
      have g2 : upd H1 p2 (.tup [v0, v1, v2]) p2 = some (.tup [v0, v1, v2]) := upd_same
      show ∃ a, _
      rw [show cutV [V.str "pick", v0, v1, v2] _ none = [v0, v1, v2] from rfl]
      generalize upd H1 p2 (.tup [v0, v1, v2]) = H2 at e2 g2
      have e12 := e1.trans e2
      refine ⟨p2, rfl, ⟨_, SqT.of g2⟩, lcTN (fun i y G => ∃ t, ([tc, tx, ty] : List Tm)[i]? = some t ∧ TermAt Z G t y) (fun i y G G2 en ⟨t, h1, h2⟩ => ⟨t, h1, h2.keep (NL.ins en)⟩) (SqT.of g2) (by simp) (fun i x hx => ?_) ?_⟩
      · intro H3 e3 R N hR
        have hi : i < 3 := by simpa using (List.getElem?_eq_some_iff.mp hx).1
        walk_at "ss"
        have go : ∃ t, ([tc, tx, ty] : List Tm)[i]? = some t ∧ ToldAt H t x ∧ t.good ∧ t.dep + 1 ≤ l := by
          have hi' : i = 0 ∨ i = 1 ∨ i = 2 := by omega
          rcases hi' with rfl | rfl | rfl
          · have hv : v0 = x := by simpa using hx
            subst hv
            exact ⟨tc, rfl, h_tc, g_tc, by omega⟩
          · have hv : v1 = x := by simpa using hx
            subst hv
            exact ⟨tx, rfl, h_tx, g_tx, by omega⟩
          · have hv : v2 = x := by simpa using hx
            subst hv
            exact ⟨ty, rfl, h_ty, g_ty, by omega⟩
        obtain ⟨t, ht1, ht2, ht3, ht4⟩ := go
        have el : ((l : Nat) : Int) - 1 = ((l - 1 : Nat) : Int) := by omega
        rw [el]
        refine ⟨t, x, l - 1, rfl, ht2.up (e12.trans e3), ht3, by omega, by omega, by omega, fun v H4 e4 tv => ?_⟩
        exact hR _ _ e4 ⟨t, ht1, tv⟩
      intro ys p3 H3 hyl hys hp3 e3 g3
      obtain ⟨y0, y1, y2, rfl⟩ : ∃ y0 y1 y2, ys = [y0, y1, y2] := by
        match ys, hyl with
        | [y0, y1, y2], _ => exact ⟨y0, y1, y2, rfl⟩
      have k0 : TermAt Z H3 tc y0 := by
        obtain ⟨t, h1, h2⟩ := hys 0 y0 rfl
        have : tc = t := by simpa using h1
        subst this
        exact h2
      have k1 : TermAt Z H3 tx y1 := by
        obtain ⟨t, h1, h2⟩ := hys 1 y1 rfl
        have : tx = t := by simpa using h1
        subst this
        exact h2
      have k2 : TermAt Z H3 ty y2 := by
        obtain ⟨t, h1, h2⟩ := hys 2 y2 rfl
        have : ty = t := by simpa using h1
        subst this
        exact h2
      have e03 := e12.trans e3
      have ha3 := e03 _ _ ha
      walk_at "ss"
      refine c_noneIn (SqL.of g3) (fun z hz => ?_) (fun z hz => ?_) ?_
      · obtain ⟨i, hi⟩ := List.getElem?_of_mem hz
        obtain ⟨t, _, h2⟩ := hys i z hi
        exact h2.noneOr T
      · obtain ⟨i, hi⟩ := List.getElem?_of_mem hz
        obtain ⟨t, _, h2⟩ := hys i z hi
        obtain ⟨aa, _, _, rfl, _⟩ := h2.cls
        exact fun z => by cases z
      walk_at "ss"
      rw [str_ne (by decide +kernel)]
      walk_at "ss"
      rw [str_ne (by decide +kernel)]
      walk_at "ss"
      rw [str_eq rfl]
      walk_at "ss"
      refine ⟨p3, _, rfl, .inl (SqL.of g3), ?_⟩
      walk_at "ss"
      refine if_tt rfl ?_
      walk_at "ss"
      refine c_ixL (SqL.of g3) rfl ?_
      walk_at "ss"
      refine c_ixL (SqL.of g3) rfl ?_
      walk_at "ss"
      refine c_ixL (SqL.of g3) rfl ?_
      walk_at "ss"
      exact mk_Pick k0 k1 k2 (by omega) (by omega) (by omega) (k.up e03)
theorem okn_made (T : Txt K mg Z) : ∀ n, FnOk P w K mg base CX0 (n + 12) Z.f_made_of_told Z.fd_made_of_told ["told", "left"] (sp_made Z n)
  | 0 => ⟨fun vs H Q E ⟨t, u, l, e, _⟩ => by rw [e]; rfl, fun _ _ _ _ _ _ _ _ _ _ _ _ _ ⟨t, u, l, _, _, _, h1, h2, _⟩ => by have := t.dep_pos; omega⟩
  | n + 1 => ok_made_of_told T (okn_made T n)
def sp_term_of (Z : Adr) : Sp := fun vs H Q _ => ∃ t u, vs = [u] ∧ ToldAt H t u ∧ t.good ∧ t.dep ≤ 5 ∧ RetM Z t H Q
theorem ok_term_of (T : Txt K mg Z)  : FnOk P w K mg base CX0 (18) Z.f_term_of Z.fd_term_of ["told"] (sp_term_of Z) := by
  refine T.F_term_of.ok sc_term_of (fun vs H Q E h => ?_) (fun cdv AA outer s H vs Q E hr h => ?_)
  · obtain ⟨t, u, rfl, _⟩ := h
    rfl
  · obtain ⟨t, u, rfl, ht, hg, hd, k⟩ := h
    have G_made_of_told := okn_made (P := P) (w := w) (base := base) T 5
    refine ⟨_, (pss_cons (ps_set (i := 1) sc_term_of.nd rfl (Or.inl rfl) (pe_call G_made_of_told (hr.mono (by omega)) rfl T.g_made_of_told T.F_made_of_told.kp T.b_made_of_told .nil pass0 (pa_cons (pv 0) (pa_cons (pe_gcst rfl T.c_MOST_LEVELS) pa_nil))))
      (pss_cons (ps_if (pt_cmpR op_isN (pv 1) pe_non (nomark _)) (pss_one ps_never) pss_nil)
      (pss_one (ps_ret (pv 1))))), ?_⟩
    walk_at "ss"
    refine ⟨t, u, 5, rfl, ht, hg, hd, Nat.le_refl _, Nat.le_refl _, fun v H1 e1 tv => ?_⟩
    walk_at "ss"
    have nv : decide (v = V.non) = false := by
      obtain ⟨aa, _, _, rfl, _⟩ := tv.cls
      rfl
    rw [nv]
    walk_at "ss"
    exact k _ _ e1 tv

/-! ### rows: the plain side -/
inductive Rw where
  | pl (n : Str) (t : Tm)
  | vd (k : Nat) (n : Str) (v : V) (x : Str)
  | wh (n x y : Str)
  | sm (ns : List Str)
  | cl (os : List Str) (nd : Str) (xs : List Str)
def vword : Nat → Str
  | 0 => "before"
  | 1 => "hold"
  | _ => "like"
def Rw.kind : Rw → Nat
  | .pl _ _ => 0
  | .vd 0 _ _ _ => 1
  | .vd 1 _ _ _ => 2
  | .vd _ _ _ _ => 3
  | .wh _ _ _ => 4
  | .sm _ => 5
  | .cl _ _ _ => 6
def Rw.word : Rw → Str
  | .pl _ _ => "plain"
  | .vd k _ _ _ => vword k
  | .wh _ _ _ => "when"
  | .sm _ => "same"
  | .cl _ _ _ => "call"
theorem Rw.kind_lt (r : Rw) : r.kind < 7 := by
  cases r with
  | vd k n v x => rcases k with _ | _ | k <;> simp [Rw.kind]
  | _ => simp [Rw.kind]
def goodN (s : Str) : Prop := isPointed s = true ∧ s.length ≤ 80 ∧ OkT s
/-- each once, the first -/
def once (l : List Str) : List Str := l.foldl (fun acc n => addN acc [n]) []
def Rw.tells : Rw → List Str
  | .pl n _ => [n]
  | .vd _ n _ _ => [n]
  | .wh n _ _ => [n]
  | .sm _ => []
  | .cl os _ _ => os
def Rw.names : Rw → List Str
  | .pl _ t => t.names
  | .vd _ _ _ x => [x]
  | .wh _ x y => once [x, y]
  | .sm ns => once ns
  | .cl _ _ xs => once xs
def Rw.all (r : Rw) : List Str := r.tells ++ r.names
def Rw.good : Rw → Prop
  | .pl n t => goodN n ∧ t.good ∧ t.dep ≤ 5
  | .vd k n v x => k < 3 ∧ goodN n ∧ isVal v = true ∧ goodN x
  | .wh n x y => goodN n ∧ goodN x ∧ goodN y
  | .sm ns => 2 ≤ ns.length ∧ ns.length ≤ 100 ∧ ∀ s ∈ ns, goodN s
  | .cl os nd xs => 1 ≤ os.length ∧ os.length ≤ 100 ∧ (∀ s ∈ os, goodN s) ∧ (isName nd = true ∧ nd.length ≤ 8 ∧ OkT nd) ∧ 1 ≤ xs.length ∧ xs.length ≤ 100 ∧ ∀ s ∈ xs, goodN s
/-! rows as tuples -/
def RowAt (H : Hp) : Rw → V → Prop
  | .pl n t, u => ∃ a w, u = .ref a ∧ H a = some (.tup [.str "plain", .str n, w]) ∧ ToldAt H t w
  | .vd k n v x, u => ∃ a, u = .ref a ∧ H a = some (.tup [.str (vword k), .str n, v, .str x])
  | .wh n x y, u => ∃ a, u = .ref a ∧ H a = some (.tup [.str "when", .str n, .str x, .str y])
  | .sm ns, u => ∃ a p, u = .ref a ∧ H a = some (.tup [.str "same", .ref p]) ∧ H p = some (.tup (ns.map V.str))
  | .cl os nd xs, u => ∃ a p q, u = .ref a ∧ H a = some (.tup [.str "call", .ref p, .str nd, .ref q]) ∧ H p = some (.tup (os.map V.str)) ∧ H q = some (.tup (xs.map V.str))
theorem NL.tup {H H2 : Hp} (e : NL H H2) {a : Addr} {xs : List V} (h : H a = some (.tup xs)) : H2 a = some (.tup xs) := e _ _ (fun _ z => by cases z) h
theorem RowAt.nl {H H2 : Hp} (e : NL H H2) {r : Rw} {u : V} (h : RowAt H r u) : RowAt H2 r u := by
  cases r with
  | pl n t => obtain ⟨a, w, h1, h2, h3⟩ := h; exact ⟨a, w, h1, NL.tup e h2, h3.keep (NL.tups e)⟩
  | vd k n v x => obtain ⟨a, h1, h2⟩ := h; exact ⟨a, h1, NL.tup e h2⟩
  | wh n x y => obtain ⟨a, h1, h2⟩ := h; exact ⟨a, h1, NL.tup e h2⟩
  | sm ns => obtain ⟨a, p, h1, h2, h3⟩ := h; exact ⟨a, p, h1, NL.tup e h2, NL.tup e h3⟩
  | cl os nd xs => obtain ⟨a, p, q, h1, h2, h3, h4⟩ := h; exact ⟨a, p, q, h1, NL.tup e h2, NL.tup e h3, NL.tup e h4⟩
theorem RowAt.up {H H2 : Hp} {r : Rw} {u : V} (h : RowAt H r u) (e : Ex H H2) : RowAt H2 r u := h.nl (NL.of e)
/-- the row: a tuple that begins with its word -/
theorem RowAt.hd {H : Hp} {r : Rw} {u : V} (h : RowAt H r u) : ∃ a xs, u = .ref a ∧ H a = some (.tup (.str r.word :: xs)) := by
  cases r with
  | pl n t => obtain ⟨a, w, h1, h2, h3⟩ := h; exact ⟨a, _, h1, h2⟩
  | vd k n v x => obtain ⟨a, h1, h2⟩ := h; exact ⟨a, _, h1, h2⟩
  | wh n x y => obtain ⟨a, h1, h2⟩ := h; exact ⟨a, _, h1, h2⟩
  | sm ns => obtain ⟨a, p, h1, h2, h3⟩ := h; exact ⟨a, _, h1, h2⟩
  | cl os nd xs => obtain ⟨a, p, q, h1, h2, h3, h4⟩ := h; exact ⟨a, _, h1, h2⟩
def strsD (ns : List Str) : PyData := .tuple (ns.map PyData.str)
def Rw.data : Rw → PyData
  | .pl n t => .tuple [.str "plain", .str n, t.data]
  | .vd k n v x => .tuple [.str (vword k), .str n, valD v, .str x]
  | .wh n x y => .tuple [.str "when", .str n, .str x, .str y]
  | .sm ns => .tuple [.str "same", strsD ns]
  | .cl os nd xs => .tuple [.str "call", strsD os, .str nd, strsD xs]
theorem dp_strs {H : Hp} : ∀ {ns : List Str}, DpAll K H (ns.map V.str) (ns.map PyData.str)
  | [] => .nil
  | s :: ns => .cons (.str s) dp_strs
theorem dp_val {H : Hp} {v : V} (h : isVal v = true) : Dp K H v (valD v) := by
  cases v with
  | bl b => exact .bl b
  | int i => exact .int i
  | _ => exact absurd h Bool.false_ne_true
theorem RowAt.dp {H : Hp} {r : Rw} {u : V} (g : r.good) (h : RowAt H r u) : Dp K H u r.data := by
  cases r with
  | pl n t => obtain ⟨a, w, rfl, h2, h3⟩ := h; exact .tup (SqT.of h2) (.cons (.str _) (.cons (.str _) (.cons (h3.dp g.2.1) .nil)))
  | vd k n v x => obtain ⟨a, rfl, h2⟩ := h; exact .tup (SqT.of h2) (.cons (.str _) (.cons (.str _) (.cons (dp_val g.2.2.1) (.cons (.str _) .nil))))
  | wh n x y => obtain ⟨a, rfl, h2⟩ := h; exact .tup (SqT.of h2) (.cons (.str _) (.cons (.str _) (.cons (.str _) (.cons (.str _) .nil))))
  | sm ns => obtain ⟨a, p, rfl, h2, h3⟩ := h; exact .tup (SqT.of h2) (.cons (.str _) (.cons (.tup (SqT.of h3) dp_strs) .nil))
  | cl os nd xs => obtain ⟨a, p, q, rfl, h2, h3, h4⟩ := h; exact .tup (SqT.of h2) (.cons (.str _) (.cons (.tup (SqT.of h3) dp_strs) (.cons (.str _) (.cons (.tup (SqT.of h4) dp_strs) .nil))))
theorem rp_N {s : Str} (h : goodN s) : RpOk 0 80 (.str s) := (rp_str h.2.2).mono (Nat.le_refl _) h.2.1
theorem rp_val {v : V} (g : isVal v = true) : RpOk 0 0 (valD v) := by
  cases v with
  | bl b => exact rp_bl b
  | int i =>
    have g' : (decide (-1000000000 ≤ i) && decide (i ≤ 1000000000)) = true := g
    rw [Bool.and_eq_true, decide_eq_true_eq, decide_eq_true_eq] at g'
    exact rp_int (by omega)
  | _ => exact absurd g Bool.false_ne_true
theorem rp_strs {ns : List Str} (h : ∀ s ∈ ns, goodN s) (hl : ns.length ≤ 100) : RpOk 1 8100 (strsD ns) := by
  have h1 : RpAll 0 ((ns.map PyData.str).length * (80 + 1)) (ns.map PyData.str) := rp_all fun d hd => by
    obtain ⟨s, hs, rfl⟩ := List.mem_map.mp hd
    exact rp_N (h s hs)
  rw [List.length_map] at h1
  exact (rp_tup h1).mono (Nat.le_refl _) (by omega)
theorem vword_in (k : Nat) : vword k = "before" ∨ vword k = "hold" ∨ vword k = "like" := by
  rcases k with _ | _ | k
  · exact .inl rfl
  · exact .inr (.inl rfl)
  · exact .inr (.inr rfl)
theorem rp_vword (k : Nat) : RpOk 0 6 (.str (vword k)) := by
  rcases vword_in k with e | e | e <;> (rw [e]; exact ok_lit (by decide +kernel) (by decide +kernel))
theorem Rw.rp {r : Rw} (g : r.good) : RpOk 6 250000 r.data := by
  cases r with
  | pl n t =>
    have hB : 200 * 4 ^ t.dep ≤ 204800 := by
      have : 4 ^ t.dep ≤ 4 ^ 5 := Nat.pow_le_pow_right (by decide) g.2.2
      have e : (4 : Nat) ^ 5 = 1024 := rfl
      omega
    have hd := g.2.2
    exact (rp_tup (rp_cons (ok_lit (n := 5) (by decide +kernel) (by decide +kernel)) (rp_cons (rp_N g.1) (rp_cons (Tm.rp g.2.1) rp_nil)))).mono (by omega) (by omega)
  | vd k n v x => exact (rp_tup (rp_cons (rp_vword k) (rp_cons (rp_N g.2.1) (rp_cons (rp_val g.2.2.1) (rp_cons (rp_N g.2.2.2) rp_nil))))).mono (by omega) (by omega)
  | wh n x y => exact (rp_tup (rp_cons (ok_lit (n := 5) (by decide +kernel) (by decide +kernel)) (rp_cons (rp_N g.1) (rp_cons (rp_N g.2.1) (rp_cons (rp_N g.2.2) rp_nil))))).mono (by omega) (by omega)
  | sm ns => exact (rp_tup (rp_cons (ok_lit (n := 5) (by decide +kernel) (by decide +kernel)) (rp_cons (rp_strs g.2.2 g.2.1) rp_nil))).mono (by omega) (by omega)
  | cl os nd xs => exact (rp_tup (rp_cons (ok_lit (n := 5) (by decide +kernel) (by decide +kernel)) (rp_cons (rp_strs g.2.2.1 g.2.1) (rp_cons ((rp_str g.2.2.2.1.2.2).mono (Nat.le_refl _) g.2.2.2.1.2.1) (rp_cons (rp_strs g.2.2.2.2.2.2 g.2.2.2.2.2.1) rp_nil))))).mono (by omega) (by omega)
/-! rows as objects -/
def clsK (Z : Adr) : Nat → Addr
  | 0 => Z.c_Plain
  | 1 => Z.c_Before
  | 2 => Z.c_Hold
  | 3 => Z.c_Like
  | 4 => Z.c_When
  | 5 => Z.c_Same
  | _ => Z.c_Call
def MCE (Z : Adr) (C : Addr) : Prop := ∃ i, i < 7 ∧ C = clsK Z i
theorem clsK_at {i : Nat} (h : i < 7) : ([Z.c_Plain, Z.c_Before, Z.c_Hold, Z.c_Like, Z.c_When, Z.c_Same, Z.c_Call] : List Addr)[i]? = some (clsK Z i) := by
  have : i = 0 ∨ i = 1 ∨ i = 2 ∨ i = 3 ∨ i = 4 ∨ i = 5 ∨ i = 6 := by omega
  rcases this with rfl | rfl | rfl | rfl | rfl | rfl | rfl <;> rfl
theorem clsK_inj (T : Txt K mg Z) {i j : Nat} (hi : i < 7) (hj : j < 7) (e : clsK Z i = clsK Z j) : i = j := by
  rcases Nat.lt_trichotomy i j with h | h | h
  · exact absurd e (difB_ne T.fact_difE (clsK_at hi) (clsK_at hj) h)
  · exact h
  · exact absurd e.symm (difB_ne T.fact_difE (clsK_at hj) (clsK_at hi) h)
def offE (fs : List (Str × V)) : Prop := fs.lookup ("told" : Str) = none ∧ fs.lookup ("tells" : Str) = none ∧ fs.lookup ("names" : Str) = none ∧ fs.lookup ("term" : Str) = none ∧ fs.lookup ("is_call" : Str) = none
def offX (fs : List (Str × V)) : Prop := fs.lookup ("put_otherwise" : Str) = none ∧ fs.lookup ("renamed" : Str) = none
def EqAt (Z : Adr) (H : Hp) (r : Rw) (v u : V) : Prop := ∃ a dx fs, v = .ref a ∧ H a = some (.ins (clsK Z r.kind) dx fs) ∧ RowAt H r u ∧ fs.lookup ("told_row" : Str) = some u ∧ (offE fs ∧ offX fs) ∧ ∀ n t, r = .pl n t → ∃ tv, fs.lookup ("kept_term" : Str) = some tv ∧ TermAt Z H t tv
theorem EqAt.nl {H H2 : Hp} {r : Rw} {v u : V} (h : EqAt Z H r v u) (e : NL H H2) : EqAt Z H2 r v u := by
  obtain ⟨a, dx, fs, h1, h2, h3, h4, h5, h6⟩ := h
  refine ⟨a, dx, fs, h1, NL.ins e _ _ _ _ h2, h3.nl e, h4, h5, fun n t he => ?_⟩
  obtain ⟨tv, h7, h8⟩ := h6 n t he
  exact ⟨tv, h7, h8.keep (NL.ins e)⟩
theorem EqAt.up {H H2 : Hp} {r : Rw} {v u : V} (h : EqAt Z H r v u) (e : Ex H H2) : EqAt Z H2 r v u := h.nl (NL.of e)
theorem kitTab_ok {cs : List Addr} {E : Addr} (h : kitTab K cs E = true) {c : Addr} (hc : c ∈ cs) : PySem.W.kitOne K (.ref c) (.ref E) = some true ∧ PySem.W.mroIn K c (.type "object") = some true ∧ PySem.W.findIn K (.ref c) "__eq__" = some (some (.builtin "object.__eq__")) ∧ ∀ c' ∈ cs, PySem.W.kitOne K (.ref c) (.ref c') = some (decide (c = c')) := by
  have := List.all_eq_true.mp h c hc
  simp only [Bool.and_eq_true, decide_eq_true_eq, List.all_eq_true] at this
  exact this
theorem clsK_mem {i : Nat} (h : i < 7) : clsK Z i ∈ ([Z.c_Plain, Z.c_Before, Z.c_Hold, Z.c_Like, Z.c_When, Z.c_Same, Z.c_Call] : List Addr) := List.mem_of_getElem? (clsK_at h)
theorem tcE (T : Txt K mg Z) {i : Nat} (h : i < 7) : Cls K (clsK Z i) ∧ NoAttr K (clsK Z i) "told_row" ∧ (i = 0 → NoAttr K (clsK Z i) "kept_term") ∧ ∀ {H : Hp} {a dx : Addr} {gs : List (Str × V)}, H a = some (.ins (clsK Z i) dx gs) → TyX K H (.ref a) (.ref (clsK Z i)) := by
  have : i = 0 ∨ i = 1 ∨ i = 2 ∨ i = 3 ∨ i = 4 ∨ i = 5 ∨ i = 6 := by omega
  rcases this with rfl | rfl | rfl | rfl | rfl | rfl | rfl
  · exact ⟨(tcB_ok T.x_Plain).cl, (tcB_ok T.x_Plain).no _ (by decide +kernel), fun _ => (tcB_ok T.x_Plain).no _ (by decide +kernel), fun e => (tcB_ok T.x_Plain).ty e⟩
  · exact ⟨(tcB_ok T.x_Before).cl, (tcB_ok T.x_Before).no _ (by decide +kernel), (fun z => absurd z (by decide)), fun e => (tcB_ok T.x_Before).ty e⟩
  · exact ⟨(tcB_ok T.x_Hold).cl, (tcB_ok T.x_Hold).no _ (by decide +kernel), (fun z => absurd z (by decide)), fun e => (tcB_ok T.x_Hold).ty e⟩
  · exact ⟨(tcB_ok T.x_Like).cl, (tcB_ok T.x_Like).no _ (by decide +kernel), (fun z => absurd z (by decide)), fun e => (tcB_ok T.x_Like).ty e⟩
  · exact ⟨(tcB_ok T.x_When).cl, (tcB_ok T.x_When).no _ (by decide +kernel), (fun z => absurd z (by decide)), fun e => (tcB_ok T.x_When).ty e⟩
  · exact ⟨(tcB_ok T.x_Same).cl, (tcB_ok T.x_Same).no _ (by decide +kernel), (fun z => absurd z (by decide)), fun e => (tcB_ok T.x_Same).ty e⟩
  · exact ⟨(tcB_ok T.x_Call).cl, (tcB_ok T.x_Call).no _ (by decide +kernel), (fun z => absurd z (by decide)), fun e => (tcB_ok T.x_Call).ty e⟩
theorem is_row (T : Txt K mg Z) {H : Hp} {r : Rw} {v u : V} {Q : VK} (h : EqAt Z H r v u) (q : Q (.bl true) H) : rIsi K [v, .ref Z.c_Equation] H Q := by
  obtain ⟨a, dx, fs, rfl, h2, _⟩ := h
  exact ⟨_, _, _, _, true, rfl, .own _, (tcE T r.kind_lt).2.2.2 h2, (kitTab_ok T.fact_kitE (clsK_mem r.kind_lt)).1, q⟩
theorem is_kind (T : Txt K mg Z) {H : Hp} {r : Rw} {v u : V} {Q : VK} {i : Nat} (hi : i < 7) (h : EqAt Z H r v u) (q : Q (.bl (decide (r.kind = i))) H) : rIsi K [v, .ref (clsK Z i)] H Q := by
  obtain ⟨a, dx, fs, rfl, h2, _⟩ := h
  have e := (kitTab_ok T.fact_kitE (clsK_mem r.kind_lt)).2.2.2 _ (clsK_mem hi)
  have ed : decide (clsK Z r.kind = clsK Z i) = decide (r.kind = i) := by
    by_cases h : r.kind = i
    · rw [decide_eq_true h, decide_eq_true (by rw [h])]
    · rw [decide_eq_false h, decide_eq_false fun z => h (clsK_inj T r.kind_lt hi z)]
  rw [ed] at e
  exact ⟨_, _, _, _, _, rfl, .own _, (tcE T r.kind_lt).2.2.2 h2, e, q⟩

/-! ### each name once -/
theorem once_app (l : List Str) (n : Str) : once (l ++ [n]) = addN (once l) [n] := by
  unfold once
  rw [List.foldl_append] <;> rfl
theorem addN_one (a : List Str) (n : Str) : addN a [n] = if a.contains n then a else a ++ [n] := by
  unfold addN
  rw [List.filter_cons, List.filter_nil]
  cases h : a.contains n <;> simp
theorem once_len (l : List Str) : (once l).length ≤ l.length := by
  have h : ∀ (l acc : List Str), (l.foldl (fun acc n => addN acc [n]) acc).length ≤ acc.length + l.length := by
    intro l
    induction l with
    | nil => intro acc; exact Nat.le_refl _
    | cons a l ih =>
      intro acc
      have h1 := ih (addN acc [a])
      have h2 := addN_len acc [a]
      rw [List.length_singleton] at h2
      rw [List.foldl_cons, List.length_cons]
      omega
  have := h l []
  rw [List.length_nil, Nat.zero_add] at this
  exact this
def keyT (n : Str) : Key × V := (.inr n, .bl true)
theorem put_once (l : List Str) (n : Str) : putK (l.map keyT) (.inr n) (.bl true) = (addN l [n]).map keyT := by
  rw [addN_one]
  unfold putK
  have e : ((l.map keyT).any fun kv => decide (kv.1 = Sum.inr n)) = l.contains n := by
    induction l with
    | nil => rfl
    | cons a l ih =>
      rw [List.map_cons, List.any_cons, ih, List.contains_cons]
      have : decide ((keyT a).1 = (Sum.inr n : Key)) = (n == a) := by
        show decide ((Sum.inr a : Key) = Sum.inr n) = _
        by_cases h : a = n
        · subst h; simp
        · rw [decide_eq_false (fun z => h (Sum.inr.inj z))]
          simp
          exact fun z => h z.symm
      rw [this]
  rw [e]
  cases h : l.contains n with
  | true =>
    rw [if_pos rfl, if_pos rfl]
    have : (fun kv : Key × V => if kv.1 = (Sum.inr n : Key) then (kv.1, V.bl true) else kv) ∘ keyT = keyT := by
      funext a
      show (if (Sum.inr a : Key) = Sum.inr n then ((Sum.inr a : Key), V.bl true) else keyT a) = keyT a
      split <;> rfl
    rw [List.map_map, this]
  | false => rw [if_neg (by decide), if_neg (by decide), List.map_append] <;> rfl
theorem kV_keyT (l : List Str) : (l.map keyT).map (fun kv => kV kv.1) = l.map V.str := by rw [List.map_map]; rfl
def sp_each_once : Sp := fun vs H Q _ => ∃ a ns, vs = [.ref a] ∧ H a = some (.lst (ns.map V.str)) ∧ ns.length ≤ 1000 ∧ RetL ((once ns).map V.str) H Q
def sp_each_onceT : Sp := fun vs H Q _ => ∃ a ns, vs = [.ref a] ∧ H a = some (.tup (ns.map V.str)) ∧ ns.length ≤ 1000 ∧ RetL ((once ns).map V.str) H Q

theorem ok_each_once (T : Txt K mg Z) : FnOk P w K mg base CX0 1 Z.f_each_once Z.fd_each_once ["names"] sp_each_once := by
  refine T.F_each_once.ok sc_each_once (fun vs H Q E h => ?_) (fun cdv AA outer s H vs Q E hr h => ?_)
  · obtain ⟨a, ns, rfl, _⟩ := h
    rfl
  · obtain ⟨a, ns, rfl, ha, hl, k⟩ := h
    refine ⟨_, (pss_cons (ps_set (i := 1) sc_each_once.nd rfl (Or.inl rfl) pe_dnewK)
      (pss_cons (ps_for PassesOwn.never rfl (pi_list (pv 0)) (pg_name (i := 2) sc_each_once.nd rfl (Or.inl rfl)) (pss_one (ps_dput (hu_of hr) (pv 1) (pv 2) pe_bl rfl)))
      (pss_one (ps_ret (pe_callTy (call_listD rfl) (by rfl) T.n_list (by decide +kernel) (pa_cons (pv 1) pa_nil)))))), ?_⟩
    walk_at "ss"
    intro d hd
    walk_at "ss"
    have e1 : Ex H (upd H d (.dK [])) := Ex.new hd
    refine ⟨⟨_, SqL.of (e1 _ _ ha)⟩, forL (xs := ns.map V.str) (fun i σ' G => (∃ v2, σ' = [some (.ref a), some (.ref d), v2]) ∧ Ex H G ∧ G a = some (.lst (ns.map V.str)) ∧ G d = some (.dK ((once (ns.take i)).map keyT))) ⟨⟨_, rfl⟩, e1, e1 _ _ ha, upd_same⟩ (fun i σ' G _ q => SqL.of q.2.2.1) ?_ ?_⟩
    · rintro i x σ' G hx ⟨⟨v2, rfl⟩, eG, ga, gd⟩
      rw [List.getElem?_map] at hx
      obtain ⟨n, hn, rfl⟩ := Option.map_eq_some_iff.mp hx
      have hlen := once_len (ns.take i)
      have htl : (ns.take i).length ≤ 1000 := by rw [List.length_take]; omega
      walk_at "ss"
      refine ⟨d, _, rfl, .inl ⟨_, .inr n, gd, rfl, Evl.sz_lt (by rw [List.length_map]; omega), rfl⟩, ?_⟩
      walk_at "ss"
      refine ⟨⟨_, rfl⟩, Ex.mut eG hd, ?_, ?_⟩
      · have nda : a ≠ d := ne_of_none ha hd
        rw [upd_ne nda]
        exact ga
      · rw [upd_same, List.take_add_one, hn]
        show some (HO.dK (putK _ _ _)) = some (HO.dK ((once (ns.take i ++ [n])).map keyT))
        rw [put_once, once_app]
    · rintro σ' G ⟨⟨v2, rfl⟩, eG, ga, gd⟩
      rw [List.length_map, List.take_length] at gd
      walk_at "ss"
      refine ⟨d, _, rfl, .inl gd, fun p hp => ?_⟩
      rw [kV_keyT]
      exact k p _ (fresh_back eG hp) (eG.trans (Ex.new hp)) upd_same

theorem ok_each_onceT (T : Txt K mg Z) : FnOk P w K mg base CX0 1 Z.f_each_once Z.fd_each_once ["names"] sp_each_onceT := by
  refine T.F_each_once.ok sc_each_once (fun vs H Q E h => ?_) (fun cdv AA outer s H vs Q E hr h => ?_)
  · obtain ⟨a, ns, rfl, _⟩ := h
    rfl
  · obtain ⟨a, ns, rfl, ha, hl, k⟩ := h
    refine ⟨_, (pss_cons (ps_set (i := 1) sc_each_once.nd rfl (Or.inl rfl) pe_dnewK)
      (pss_cons (ps_for PassesOwn.never rfl (pi_tup (pv 0)) (pg_name (i := 2) sc_each_once.nd rfl (Or.inl rfl)) (pss_one (ps_dput (hu_of hr) (pv 1) (pv 2) pe_bl rfl)))
      (pss_one (ps_ret (pe_callTy (call_listD rfl) (by rfl) T.n_list (by decide +kernel) (pa_cons (pv 1) pa_nil)))))), ?_⟩
    walk_at "ss"
    intro d hd
    walk_at "ss"
    have e1 : Ex H (upd H d (.dK [])) := Ex.new hd
    refine ⟨⟨_, SqT.of (e1 _ _ ha)⟩, forT (xs := ns.map V.str) (fun i σ' G => (∃ v2, σ' = [some (.ref a), some (.ref d), v2]) ∧ Ex H G ∧ G a = some (.tup (ns.map V.str)) ∧ G d = some (.dK ((once (ns.take i)).map keyT))) ⟨⟨_, rfl⟩, e1, e1 _ _ ha, upd_same⟩ (fun i σ' G _ q => SqT.of q.2.2.1) ?_ ?_⟩
    · rintro i x σ' G hx ⟨⟨v2, rfl⟩, eG, ga, gd⟩
      rw [List.getElem?_map] at hx
      obtain ⟨n, hn, rfl⟩ := Option.map_eq_some_iff.mp hx
      have hlen := once_len (ns.take i)
      have htl : (ns.take i).length ≤ 1000 := by rw [List.length_take]; omega
      walk_at "ss"
      refine ⟨d, _, rfl, .inl ⟨_, .inr n, gd, rfl, Evl.sz_lt (by rw [List.length_map]; omega), rfl⟩, ?_⟩
      walk_at "ss"
      refine ⟨⟨_, rfl⟩, Ex.mut eG hd, ?_, ?_⟩
      · have nda : a ≠ d := ne_of_none ha hd
        rw [upd_ne nda]
        exact ga
      · rw [upd_same, List.take_add_one, hn]
        show some (HO.dK (putK _ _ _)) = some (HO.dK ((once (ns.take i ++ [n])).map keyT))
        rw [put_once, once_app]
    · rintro σ' G ⟨⟨v2, rfl⟩, eG, ga, gd⟩
      rw [List.length_map, List.take_length] at gd
      walk_at "ss"
      refine ⟨d, _, rfl, .inl gd, fun p hp => ?_⟩
      rw [kV_keyT]
      exact k p _ (fresh_back eG hp) (eG.trans (Ex.new hp)) upd_same

/-! ### methods of rows -/
def spE (Z : Adr) (S : Rw → Prop) (R : Rw → V → V → Hp → VK → Prop) : Sp := fun vs H Q _ => ∃ r v u, vs = [v] ∧ EqAt Z H r v u ∧ r.good ∧ S r ∧ R r v u H Q
def Re_told : Rw → V → V → Hp → VK → Prop := fun _ _ u H Q => Q u H
def Re_tells : Rw → V → V → Hp → VK → Prop := fun r _ _ H Q => RetL (r.tells.map V.str) H Q
def Re_names : Rw → V → V → Hp → VK → Prop := fun r _ _ H Q => RetL (r.names.map V.str) H Q
def Re_term (Z : Adr) : Rw → V → V → Hp → VK → Prop := fun r _ _ H Q => match r with
  | .pl _ t => ∀ tv, TermAt Z H t tv → Q tv H
  | _ => Q .non H
def Re_is_call : Rw → V → V → Hp → VK → Prop := fun r _ _ H Q => Q (.bl (decide (r.kind = 6))) H

def spmE_told (Z : Adr) (C : Addr) : Sp := spE Z (fun r => clsK Z r.kind = C) Re_told
def spmE_tells (Z : Adr) (C : Addr) : Sp := spE Z (fun r => clsK Z r.kind = C) Re_tells
def spmE_names (Z : Adr) (C : Addr) : Sp := spE Z (fun r => clsK Z r.kind = C) Re_names
def spmE_term (Z : Adr) (C : Addr) : Sp := spE Z (fun r => clsK Z r.kind = C) (Re_term Z)
def spmE_is_call (Z : Adr) (C : Addr) : Sp := spE Z (fun r => clsK Z r.kind = C) Re_is_call
theorem ok_Equation_told (T : Txt K mg Z) : FnOk P w K mg base CX0 1 Z.f_Equation_told Z.fd_Equation_told ["self"] (spE Z (fun r => True) Re_told) := by
  refine T.F_Equation_told.ok sc_Equation_told (fun vs H Q E h => ?_) (fun cdv AA outer s H vs Q E hr h => ?_)
  · obtain ⟨r, v, u, rfl, _⟩ := h
    rfl
  · obtain ⟨r, v, u, rfl, ⟨a, dx, fs, rfl, ha, hr2, hrow, hoff, htm⟩, hg, hS, k⟩ := h
    have TX := tcE T r.kind_lt
    refine ⟨_, (pss_one (ps_ret (pe_fld (pv 0) (by rfl)))), ?_⟩
    walk_at "ss"
    exact ⟨_, _, _, _, _, rfl, ha, TX.1, TX.2.1, hrow, k⟩
theorem kind_pl {r : Rw} (h : r.kind = 0) : ∃ n t, r = .pl n t := by
  cases r with
  | pl n t => exact ⟨_, _, rfl⟩
  | vd k n v x => rcases k with _ | _ | k <;> cases h
  | wh n x y => cases h
  | sm ns => cases h
  | cl a b c => cases h
theorem kind_vd {r : Rw} (h : r.kind = 1 ∨ r.kind = 2 ∨ r.kind = 3) : ∃ k n v x, r = .vd k n v x := by
  cases r with
  | vd k n v x => exact ⟨_, _, _, _, rfl⟩
  | _ => simp [Rw.kind] at h
theorem kind_wh {r : Rw} (h : r.kind = 4) : ∃ n x y, r = .wh n x y := by
  cases r with
  | wh n x y => exact ⟨_, _, _, rfl⟩
  | vd k n v x => rcases k with _ | _ | k <;> cases h
  | _ => cases h
theorem kind_sm {r : Rw} (h : r.kind = 5) : ∃ ns, r = .sm ns := by
  cases r with
  | sm ns => exact ⟨_, rfl⟩
  | vd k n v x => rcases k with _ | _ | k <;> cases h
  | _ => cases h
theorem kind_cl {r : Rw} (h : r.kind = 6) : ∃ os nd xs, r = .cl os nd xs := by
  cases r with
  | cl a b c => exact ⟨_, _, _, rfl⟩
  | vd k n v x => rcases k with _ | _ | k <;> cases h
  | _ => cases h
/-- the row's second thing, where it tells one name -/
theorem row_one {H : Hp} {r : Rw} {u : V} (h : RowAt H r u) (hk : r.kind = 0 ∨ r.kind = 1 ∨ r.kind = 2 ∨ r.kind = 3 ∨ r.kind = 4) : ∃ a xs n, u = .ref a ∧ H a = some (.tup (.str r.word :: .str n :: xs)) ∧ r.tells = [n] := by
  cases r with
  | pl n t => obtain ⟨a, w, h1, h2, h3⟩ := h; exact ⟨a, _, _, h1, h2, rfl⟩
  | vd k n v x => obtain ⟨a, h1, h2⟩ := h; exact ⟨a, _, _, h1, h2, rfl⟩
  | wh n x y => obtain ⟨a, h1, h2⟩ := h; exact ⟨a, _, _, h1, h2, rfl⟩
  | sm ns => simp [Rw.kind] at hk
  | cl a b c => simp [Rw.kind] at hk
theorem at_hd {x : V} {xs : List V} : atI (x :: xs) 0 = some x := atI_nat (j := 0) rfl
theorem at_1 {x y : V} {xs : List V} : atI (x :: y :: xs) 1 = some y := atI_nat (j := 1) rfl
theorem ok_Equation_tells (T : Txt K mg Z) : FnOk P w K mg base CX0 1 Z.f_Equation_tells Z.fd_Equation_tells ["self"] (spE Z (fun r => r.kind = 0 ∨ r.kind = 1 ∨ r.kind = 2 ∨ r.kind = 3 ∨ r.kind = 4) Re_tells) := by
  refine T.F_Equation_tells.ok sc_Equation_tells (fun vs H Q E h => ?_) (fun cdv AA outer s H vs Q E hr h => ?_)
  · obtain ⟨r, v, u, rfl, _⟩ := h
    rfl
  · obtain ⟨r, v, u, rfl, ⟨a, dx, fs, rfl, ha, hr2, hrow, hoff, htm⟩, hg, hS, k⟩ := h
    have TX := tcE T r.kind_lt
    obtain ⟨b, xs, n, rfl, hb, ht⟩ := row_one hr2 hS
    refine ⟨_, (pss_one (ps_ret (pe_lst (pa_cons (pe_ix ix_tup (pe_fld (pv 0) (by rfl)) pe_int (fun _ _ => rfl)) pa_nil)))), ?_⟩
    walk_at "ss"
    refine ⟨_, _, _, _, _, rfl, ha, TX.1, TX.2.1, hrow, ?_⟩
    walk_at "ss"
    refine c_ixT (SqT.of hb) at_1 ?_
    walk_at "ss"
    unfold Re_tells at k
    rw [ht] at k
    exact newL k
theorem ok_Same_tells (T : Txt K mg Z) : FnOk P w K mg base CX0 1 Z.f_Same_tells Z.fd_Same_tells ["self"] (spE Z (fun r => r.kind = 5) Re_tells) := by
  refine T.F_Same_tells.ok sc_Same_tells (fun vs H Q E h => ?_) (fun cdv AA outer s H vs Q E hr h => ?_)
  · obtain ⟨r, v, u, rfl, _⟩ := h
    rfl
  · obtain ⟨r, v, u, rfl, ⟨a, dx, fs, rfl, ha, hr2, hrow, hoff, htm⟩, hg, hS, k⟩ := h
    have TX := tcE T r.kind_lt
    obtain ⟨ns, rfl⟩ := kind_sm hS
    refine ⟨_, (pss_one (ps_ret (pe_lst pa_nil))), ?_⟩
    walk_at "ss"
    exact newL k
theorem ok_Call_tells (T : Txt K mg Z) : FnOk P w K mg base CX0 1 Z.f_Call_tells Z.fd_Call_tells ["self"] (spE Z (fun r => r.kind = 6) Re_tells) := by
  refine T.F_Call_tells.ok sc_Call_tells (fun vs H Q E h => ?_) (fun cdv AA outer s H vs Q E hr h => ?_)
  · obtain ⟨r, v, u, rfl, _⟩ := h
    rfl
  · obtain ⟨r, v, u, rfl, ⟨a, dx, fs, rfl, ha, hr2, hrow, hoff, htm⟩, hg, hS, k⟩ := h
    have TX := tcE T r.kind_lt
    obtain ⟨os, nd, xs, rfl⟩ := kind_cl hS
    obtain ⟨b, p, q, rfl, hb, hp, hq⟩ := hr2
    refine ⟨_, (pss_one (ps_ret (pe_callTy call_list_of (by rfl) T.n_list (by decide +kernel) (pa_cons (pe_ix ix_tup (pe_fld (pv 0) (by rfl)) pe_int (fun _ _ => rfl)) pa_nil)))), ?_⟩
    walk_at "ss"
    refine ⟨_, _, _, _, _, rfl, ha, TX.1, TX.2.1, hrow, ?_⟩
    walk_at "ss"
    refine c_ixT (SqT.of hb) rfl ?_
    walk_at "ss"
    refine ⟨_, _, rfl, .inr (SqT.of hp), fun l hl => ?_⟩
    exact k l _ hl (Ex.new hl) upd_same
theorem ok_Equation_names (T : Txt K mg Z) : FnOk P w K mg base CX0 1 Z.f_Equation_names Z.fd_Equation_names ["self"] (spE Z (fun r => r.kind = 1 ∨ r.kind = 2 ∨ r.kind = 3) Re_names) := by
  refine T.F_Equation_names.ok sc_Equation_names (fun vs H Q E h => ?_) (fun cdv AA outer s H vs Q E hr h => ?_)
  · obtain ⟨r, v, u, rfl, _⟩ := h
    rfl
  · obtain ⟨r, v, u, rfl, ⟨a, dx, fs, rfl, ha, hr2, hrow, hoff, htm⟩, hg, hS, k⟩ := h
    have TX := tcE T r.kind_lt
    obtain ⟨kk, n, w0, x, rfl⟩ := kind_vd hS
    obtain ⟨b, rfl, hb⟩ := hr2
    refine ⟨_, (pss_one (ps_ret (pe_lst (pa_cons (pe_ix ix_tup (pe_fld (pv 0) (by rfl)) pe_int (fun _ _ => rfl)) pa_nil)))), ?_⟩
    walk_at "ss"
    refine ⟨_, _, _, _, _, rfl, ha, TX.1, TX.2.1, hrow, ?_⟩
    walk_at "ss"
    refine c_ixT (SqT.of hb) rfl ?_
    walk_at "ss"
    exact newL k
theorem ok_Plain_names (T : Txt K mg Z)  : FnOk P w K mg base CX0 (9) Z.f_Plain_names Z.fd_Plain_names ["self"] (spE Z (fun r => r.kind = 0) Re_names) := by
  refine T.F_Plain_names.ok sc_Plain_names (fun vs H Q E h => ?_) (fun cdv AA outer s H vs Q E hr h => ?_)
  · obtain ⟨r, v, u, rfl, _⟩ := h
    rfl
  · obtain ⟨r, v, u, rfl, ⟨a, dx, fs, rfl, ha, hr2, hrow, hoff, htm⟩, hg, hS, k⟩ := h
    have TX := tcE T r.kind_lt
    obtain ⟨n, t, rfl⟩ := kind_pl hS
    obtain ⟨tv, hk, htv⟩ := htm n t rfl
    have GM_names := gm_names (P := P) (w := w) (base := base) T 5
    refine ⟨_, (pss_one (ps_ret (pe_methP0 (pe_fld (pv 0) (by rfl)) GM_names (hr.mono (by omega)) pass0))), ?_⟩
    walk_at "ss"
    refine ⟨_, _, _, _, _, rfl, ha, TX.1, TX.2.2.1 rfl, hk, ?_⟩
    obtain ⟨a2, dx2, fs2, rfl, ha2, l1, l2, l3, l4⟩ := htv.cls
    refine ⟨a2, _, dx2, fs2, rfl, ha2, clsT_MC Z t, l2, ?_⟩
    walk_at "ss"
    have h5 := hg.2.2
    exact ⟨t, _, rfl, htv, rfl, h5, by omega, k⟩
theorem ok_When_names (T : Txt K mg Z) : FnOk P w K mg base CX0 2 Z.f_When_names Z.fd_When_names ["self"] (spE Z (fun r => r.kind = 4) Re_names) := by
  have G_each_once := ok_each_once (P := P) (w := w) (base := base) T
  refine T.F_When_names.ok sc_When_names (fun vs H Q E h => ?_) (fun cdv AA outer s H vs Q E hr h => ?_)
  · obtain ⟨r, v, u, rfl, _⟩ := h
    rfl
  · obtain ⟨r, v, u, rfl, ⟨a, dx, fs, rfl, ha, hr2, hrow, hoff, htm⟩, hg, hS, k⟩ := h
    have TX := tcE T r.kind_lt
    obtain ⟨n, x, y, rfl⟩ := kind_wh hS
    obtain ⟨b, rfl, hb⟩ := hr2
    refine ⟨_, (pss_one (ps_ret (pe_call G_each_once (hr.mono (by omega)) rfl T.g_each_once T.F_each_once.kp T.b_each_once .nil pass0 (pa_cons (pe_callTy call_list_of (by rfl) T.n_list (by decide +kernel) (pa_cons (pe_slice sl_tup (pe_fld (pv 0) (by rfl)) (po_some pe_int) po_none) pa_nil)) pa_nil)))), ?_⟩
    walk_at "ss"
    refine ⟨_, _, _, _, _, rfl, ha, TX.1, TX.2.1, hrow, ?_⟩
    walk_at "ss"
    refine ⟨b, _, rfl, SqT.of hb, fun z => absurd (show (2 : Nat) = 0 from z.1) (by decide), fun p2 hp2 => ?_⟩
    walk_at "ss"
    refine ⟨_, _, rfl, .inr (SqT.of upd_same), fun l hl => ?_⟩
    walk_at "ss"
    refine ⟨l, [x, y], rfl, upd_same, by simp, RetL.up k ((Ex.new hp2).trans (Ex.new hl))⟩
theorem ok_Same_names (T : Txt K mg Z)  : FnOk P w K mg base CX0 (2) Z.f_Same_names Z.fd_Same_names ["self"] (spE Z (fun r => r.kind = 5) Re_names) := by
  refine T.F_Same_names.ok sc_Same_names (fun vs H Q E h => ?_) (fun cdv AA outer s H vs Q E hr h => ?_)
  · obtain ⟨r, v, u, rfl, _⟩ := h
    rfl
  · obtain ⟨r, v, u, rfl, ⟨a, dx, fs, rfl, ha, hr2, hrow, hoff, htm⟩, hg, hS, k⟩ := h
    have TX := tcE T r.kind_lt
    obtain ⟨ns, rfl⟩ := kind_sm hS
    obtain ⟨b, p, rfl, hb, hp⟩ := hr2
    have G_each_once := ok_each_onceT (P := P) (w := w) (base := base) T
    refine ⟨_, (pss_one (ps_ret (pe_call G_each_once (hr.mono (by omega)) rfl T.g_each_once T.F_each_once.kp T.b_each_once .nil pass0 (pa_cons (pe_ix ix_tup (pe_fld (pv 0) (by rfl)) pe_int (fun _ _ => rfl)) pa_nil)))), ?_⟩
    walk_at "ss"
    refine ⟨_, _, _, _, _, rfl, ha, TX.1, TX.2.1, hrow, ?_⟩
    walk_at "ss"
    refine c_ixT (SqT.of hb) rfl ?_
    walk_at "ss"
    have hlen := hg.2.1
    exact ⟨p, ns, rfl, hp, by omega, k⟩
theorem ok_Call_names (T : Txt K mg Z)  : FnOk P w K mg base CX0 (2) Z.f_Call_names Z.fd_Call_names ["self"] (spE Z (fun r => r.kind = 6) Re_names) := by
  refine T.F_Call_names.ok sc_Call_names (fun vs H Q E h => ?_) (fun cdv AA outer s H vs Q E hr h => ?_)
  · obtain ⟨r, v, u, rfl, _⟩ := h
    rfl
  · obtain ⟨r, v, u, rfl, ⟨a, dx, fs, rfl, ha, hr2, hrow, hoff, htm⟩, hg, hS, k⟩ := h
    have TX := tcE T r.kind_lt
    obtain ⟨os, nd, xs, rfl⟩ := kind_cl hS
    obtain ⟨b, q, p, rfl, hb, hq, hp⟩ := hr2
    have G_each_once := ok_each_onceT (P := P) (w := w) (base := base) T
    refine ⟨_, (pss_one (ps_ret (pe_call G_each_once (hr.mono (by omega)) rfl T.g_each_once T.F_each_once.kp T.b_each_once .nil pass0 (pa_cons (pe_ix ix_tup (pe_fld (pv 0) (by rfl)) pe_int (fun _ _ => rfl)) pa_nil)))), ?_⟩
    walk_at "ss"
    refine ⟨_, _, _, _, _, rfl, ha, TX.1, TX.2.1, hrow, ?_⟩
    walk_at "ss"
    refine c_ixT (SqT.of hb) rfl ?_
    walk_at "ss"
    have hlen := hg.2.2.2.2.2.1
    exact ⟨p, xs, rfl, hp, by omega, k⟩
theorem ok_Equation_term (T : Txt K mg Z) : FnOk P w K mg base CX0 1 Z.f_Equation_term Z.fd_Equation_term ["self"] (spE Z (fun r => r.kind = 1 ∨ r.kind = 2 ∨ r.kind = 3 ∨ r.kind = 4 ∨ r.kind = 5 ∨ r.kind = 6) (Re_term Z)) := by
  refine T.F_Equation_term.ok sc_Equation_term (fun vs H Q E h => ?_) (fun cdv AA outer s H vs Q E hr h => ?_)
  · obtain ⟨r, v, u, rfl, _⟩ := h
    rfl
  · obtain ⟨r, v, u, rfl, ⟨a, dx, fs, rfl, ha, hr2, hrow, hoff, htm⟩, hg, hS, k⟩ := h
    have TX := tcE T r.kind_lt
    refine ⟨_, (pss_one (ps_ret pe_non)), ?_⟩
    walk_at "ss"
    cases r with
    | pl n t => simp [Rw.kind] at hS
    | _ => exact k
theorem ok_Plain_term (T : Txt K mg Z) : FnOk P w K mg base CX0 1 Z.f_Plain_term Z.fd_Plain_term ["self"] (spE Z (fun r => r.kind = 0) (Re_term Z)) := by
  refine T.F_Plain_term.ok sc_Plain_term (fun vs H Q E h => ?_) (fun cdv AA outer s H vs Q E hr h => ?_)
  · obtain ⟨r, v, u, rfl, _⟩ := h
    rfl
  · obtain ⟨r, v, u, rfl, ⟨a, dx, fs, rfl, ha, hr2, hrow, hoff, htm⟩, hg, hS, k⟩ := h
    have TX := tcE T r.kind_lt
    obtain ⟨n, t, rfl⟩ := kind_pl hS
    obtain ⟨tv, hk, htv⟩ := htm n t rfl
    refine ⟨_, (pss_one (ps_ret (pe_fld (pv 0) (by rfl)))), ?_⟩
    walk_at "ss"
    exact ⟨_, _, _, _, _, rfl, ha, TX.1, TX.2.2.1 rfl, hk, k tv htv⟩
theorem ok_Equation_is_call (T : Txt K mg Z) : FnOk P w K mg base CX0 1 Z.f_Equation_is_call Z.fd_Equation_is_call ["self"] (spE Z (fun r => r.kind = 0 ∨ r.kind = 1 ∨ r.kind = 2 ∨ r.kind = 3 ∨ r.kind = 4 ∨ r.kind = 5) Re_is_call) := by
  refine T.F_Equation_is_call.ok sc_Equation_is_call (fun vs H Q E h => ?_) (fun cdv AA outer s H vs Q E hr h => ?_)
  · obtain ⟨r, v, u, rfl, _⟩ := h
    rfl
  · obtain ⟨r, v, u, rfl, ⟨a, dx, fs, rfl, ha, hr2, hrow, hoff, htm⟩, hg, hS, k⟩ := h
    have TX := tcE T r.kind_lt
    refine ⟨_, (pss_one (ps_ret pe_bl)), ?_⟩
    walk_at "ss"
    have e : decide (r.kind = 6) = false := decide_eq_false (by omega)
    unfold Re_is_call at k
    rw [e] at k
    exact k
theorem ok_Call_is_call (T : Txt K mg Z) : FnOk P w K mg base CX0 1 Z.f_Call_is_call Z.fd_Call_is_call ["self"] (spE Z (fun r => r.kind = 6) Re_is_call) := by
  refine T.F_Call_is_call.ok sc_Call_is_call (fun vs H Q E h => ?_) (fun cdv AA outer s H vs Q E hr h => ?_)
  · obtain ⟨r, v, u, rfl, _⟩ := h
    rfl
  · obtain ⟨r, v, u, rfl, ⟨a, dx, fs, rfl, ha, hr2, hrow, hoff, htm⟩, hg, hS, k⟩ := h
    have TX := tcE T r.kind_lt
    refine ⟨_, (pss_one (ps_ret pe_bl)), ?_⟩
    walk_at "ss"
    have e : decide (r.kind = 6) = true := decide_eq_true hS
    unfold Re_is_call at k
    rw [e] at k
    exact k
theorem gmE_told (T : Txt K mg Z) : ∀ C, MCE Z C → MOk P w K mg base CX0 1 C "told" (spmE_told Z C) := by
  rintro C ⟨i, hi, rfl⟩
  have hi' : i = 0 ∨ i = 1 ∨ i = 2 ∨ i = 3 ∨ i = 4 ∨ i = 5 ∨ i = 6 := by omega
  rcases hi' with rfl | rfl | rfl | rfl | rfl | rfl | rfl
  · exact ⟨(tcB_ok T.x_Plain).cl, _, _, _, ⟨T.h_told_Plain, T.y_Equation_told, T.F_Equation_told.kp⟩, ((ok_Equation_told (P := P) (w := w) (base := base) T).mono (by decide)).imp fun vs H Q E ⟨r, v, u, e, h, hg, hc, k⟩ => ⟨r, v, u, e, h, hg, True.intro, k⟩, T.b_Equation_told⟩
  · exact ⟨(tcB_ok T.x_Before).cl, _, _, _, ⟨T.h_told_Before, T.y_Equation_told, T.F_Equation_told.kp⟩, ((ok_Equation_told (P := P) (w := w) (base := base) T).mono (by decide)).imp fun vs H Q E ⟨r, v, u, e, h, hg, hc, k⟩ => ⟨r, v, u, e, h, hg, True.intro, k⟩, T.b_Equation_told⟩
  · exact ⟨(tcB_ok T.x_Hold).cl, _, _, _, ⟨T.h_told_Hold, T.y_Equation_told, T.F_Equation_told.kp⟩, ((ok_Equation_told (P := P) (w := w) (base := base) T).mono (by decide)).imp fun vs H Q E ⟨r, v, u, e, h, hg, hc, k⟩ => ⟨r, v, u, e, h, hg, True.intro, k⟩, T.b_Equation_told⟩
  · exact ⟨(tcB_ok T.x_Like).cl, _, _, _, ⟨T.h_told_Like, T.y_Equation_told, T.F_Equation_told.kp⟩, ((ok_Equation_told (P := P) (w := w) (base := base) T).mono (by decide)).imp fun vs H Q E ⟨r, v, u, e, h, hg, hc, k⟩ => ⟨r, v, u, e, h, hg, True.intro, k⟩, T.b_Equation_told⟩
  · exact ⟨(tcB_ok T.x_When).cl, _, _, _, ⟨T.h_told_When, T.y_Equation_told, T.F_Equation_told.kp⟩, ((ok_Equation_told (P := P) (w := w) (base := base) T).mono (by decide)).imp fun vs H Q E ⟨r, v, u, e, h, hg, hc, k⟩ => ⟨r, v, u, e, h, hg, True.intro, k⟩, T.b_Equation_told⟩
  · exact ⟨(tcB_ok T.x_Same).cl, _, _, _, ⟨T.h_told_Same, T.y_Equation_told, T.F_Equation_told.kp⟩, ((ok_Equation_told (P := P) (w := w) (base := base) T).mono (by decide)).imp fun vs H Q E ⟨r, v, u, e, h, hg, hc, k⟩ => ⟨r, v, u, e, h, hg, True.intro, k⟩, T.b_Equation_told⟩
  · exact ⟨(tcB_ok T.x_Call).cl, _, _, _, ⟨T.h_told_Call, T.y_Equation_told, T.F_Equation_told.kp⟩, ((ok_Equation_told (P := P) (w := w) (base := base) T).mono (by decide)).imp fun vs H Q E ⟨r, v, u, e, h, hg, hc, k⟩ => ⟨r, v, u, e, h, hg, True.intro, k⟩, T.b_Equation_told⟩
theorem gmE_tells (T : Txt K mg Z) : ∀ C, MCE Z C → MOk P w K mg base CX0 1 C "tells" (spmE_tells Z C) := by
  rintro C ⟨i, hi, rfl⟩
  have hi' : i = 0 ∨ i = 1 ∨ i = 2 ∨ i = 3 ∨ i = 4 ∨ i = 5 ∨ i = 6 := by omega
  rcases hi' with rfl | rfl | rfl | rfl | rfl | rfl | rfl
  · exact ⟨(tcB_ok T.x_Plain).cl, _, _, _, ⟨T.h_tells_Plain, T.y_Equation_tells, T.F_Equation_tells.kp⟩, ((ok_Equation_tells (P := P) (w := w) (base := base) T).mono (by decide)).imp fun vs H Q E ⟨r, v, u, e, h, hg, hc, k⟩ => ⟨r, v, u, e, h, hg, (by have := clsK_inj T r.kind_lt hi hc; omega), k⟩, T.b_Equation_tells⟩
  · exact ⟨(tcB_ok T.x_Before).cl, _, _, _, ⟨T.h_tells_Before, T.y_Equation_tells, T.F_Equation_tells.kp⟩, ((ok_Equation_tells (P := P) (w := w) (base := base) T).mono (by decide)).imp fun vs H Q E ⟨r, v, u, e, h, hg, hc, k⟩ => ⟨r, v, u, e, h, hg, (by have := clsK_inj T r.kind_lt hi hc; omega), k⟩, T.b_Equation_tells⟩
  · exact ⟨(tcB_ok T.x_Hold).cl, _, _, _, ⟨T.h_tells_Hold, T.y_Equation_tells, T.F_Equation_tells.kp⟩, ((ok_Equation_tells (P := P) (w := w) (base := base) T).mono (by decide)).imp fun vs H Q E ⟨r, v, u, e, h, hg, hc, k⟩ => ⟨r, v, u, e, h, hg, (by have := clsK_inj T r.kind_lt hi hc; omega), k⟩, T.b_Equation_tells⟩
  · exact ⟨(tcB_ok T.x_Like).cl, _, _, _, ⟨T.h_tells_Like, T.y_Equation_tells, T.F_Equation_tells.kp⟩, ((ok_Equation_tells (P := P) (w := w) (base := base) T).mono (by decide)).imp fun vs H Q E ⟨r, v, u, e, h, hg, hc, k⟩ => ⟨r, v, u, e, h, hg, (by have := clsK_inj T r.kind_lt hi hc; omega), k⟩, T.b_Equation_tells⟩
  · exact ⟨(tcB_ok T.x_When).cl, _, _, _, ⟨T.h_tells_When, T.y_Equation_tells, T.F_Equation_tells.kp⟩, ((ok_Equation_tells (P := P) (w := w) (base := base) T).mono (by decide)).imp fun vs H Q E ⟨r, v, u, e, h, hg, hc, k⟩ => ⟨r, v, u, e, h, hg, (by have := clsK_inj T r.kind_lt hi hc; omega), k⟩, T.b_Equation_tells⟩
  · exact ⟨(tcB_ok T.x_Same).cl, _, _, _, ⟨T.h_tells_Same, T.y_Same_tells, T.F_Same_tells.kp⟩, ((ok_Same_tells (P := P) (w := w) (base := base) T).mono (by decide)).imp fun vs H Q E ⟨r, v, u, e, h, hg, hc, k⟩ => ⟨r, v, u, e, h, hg, (by have := clsK_inj T r.kind_lt hi hc; omega), k⟩, T.b_Same_tells⟩
  · exact ⟨(tcB_ok T.x_Call).cl, _, _, _, ⟨T.h_tells_Call, T.y_Call_tells, T.F_Call_tells.kp⟩, ((ok_Call_tells (P := P) (w := w) (base := base) T).mono (by decide)).imp fun vs H Q E ⟨r, v, u, e, h, hg, hc, k⟩ => ⟨r, v, u, e, h, hg, (by have := clsK_inj T r.kind_lt hi hc; omega), k⟩, T.b_Call_tells⟩
theorem gmE_names (T : Txt K mg Z) : ∀ C, MCE Z C → MOk P w K mg base CX0 9 C "names" (spmE_names Z C) := by
  rintro C ⟨i, hi, rfl⟩
  have hi' : i = 0 ∨ i = 1 ∨ i = 2 ∨ i = 3 ∨ i = 4 ∨ i = 5 ∨ i = 6 := by omega
  rcases hi' with rfl | rfl | rfl | rfl | rfl | rfl | rfl
  · exact ⟨(tcB_ok T.x_Plain).cl, _, _, _, ⟨T.h_names_Plain, T.y_Plain_names, T.F_Plain_names.kp⟩, ((ok_Plain_names (P := P) (w := w) (base := base) T).mono (by decide)).imp fun vs H Q E ⟨r, v, u, e, h, hg, hc, k⟩ => ⟨r, v, u, e, h, hg, (by have := clsK_inj T r.kind_lt hi hc; omega), k⟩, T.b_Plain_names⟩
  · exact ⟨(tcB_ok T.x_Before).cl, _, _, _, ⟨T.h_names_Before, T.y_Equation_names, T.F_Equation_names.kp⟩, ((ok_Equation_names (P := P) (w := w) (base := base) T).mono (by decide)).imp fun vs H Q E ⟨r, v, u, e, h, hg, hc, k⟩ => ⟨r, v, u, e, h, hg, (by have := clsK_inj T r.kind_lt hi hc; omega), k⟩, T.b_Equation_names⟩
  · exact ⟨(tcB_ok T.x_Hold).cl, _, _, _, ⟨T.h_names_Hold, T.y_Equation_names, T.F_Equation_names.kp⟩, ((ok_Equation_names (P := P) (w := w) (base := base) T).mono (by decide)).imp fun vs H Q E ⟨r, v, u, e, h, hg, hc, k⟩ => ⟨r, v, u, e, h, hg, (by have := clsK_inj T r.kind_lt hi hc; omega), k⟩, T.b_Equation_names⟩
  · exact ⟨(tcB_ok T.x_Like).cl, _, _, _, ⟨T.h_names_Like, T.y_Equation_names, T.F_Equation_names.kp⟩, ((ok_Equation_names (P := P) (w := w) (base := base) T).mono (by decide)).imp fun vs H Q E ⟨r, v, u, e, h, hg, hc, k⟩ => ⟨r, v, u, e, h, hg, (by have := clsK_inj T r.kind_lt hi hc; omega), k⟩, T.b_Equation_names⟩
  · exact ⟨(tcB_ok T.x_When).cl, _, _, _, ⟨T.h_names_When, T.y_When_names, T.F_When_names.kp⟩, ((ok_When_names (P := P) (w := w) (base := base) T).mono (by decide)).imp fun vs H Q E ⟨r, v, u, e, h, hg, hc, k⟩ => ⟨r, v, u, e, h, hg, (by have := clsK_inj T r.kind_lt hi hc; omega), k⟩, T.b_When_names⟩
  · exact ⟨(tcB_ok T.x_Same).cl, _, _, _, ⟨T.h_names_Same, T.y_Same_names, T.F_Same_names.kp⟩, ((ok_Same_names (P := P) (w := w) (base := base) T).mono (by decide)).imp fun vs H Q E ⟨r, v, u, e, h, hg, hc, k⟩ => ⟨r, v, u, e, h, hg, (by have := clsK_inj T r.kind_lt hi hc; omega), k⟩, T.b_Same_names⟩
  · exact ⟨(tcB_ok T.x_Call).cl, _, _, _, ⟨T.h_names_Call, T.y_Call_names, T.F_Call_names.kp⟩, ((ok_Call_names (P := P) (w := w) (base := base) T).mono (by decide)).imp fun vs H Q E ⟨r, v, u, e, h, hg, hc, k⟩ => ⟨r, v, u, e, h, hg, (by have := clsK_inj T r.kind_lt hi hc; omega), k⟩, T.b_Call_names⟩
theorem gmE_term (T : Txt K mg Z) : ∀ C, MCE Z C → MOk P w K mg base CX0 1 C "term" (spmE_term Z C) := by
  rintro C ⟨i, hi, rfl⟩
  have hi' : i = 0 ∨ i = 1 ∨ i = 2 ∨ i = 3 ∨ i = 4 ∨ i = 5 ∨ i = 6 := by omega
  rcases hi' with rfl | rfl | rfl | rfl | rfl | rfl | rfl
  · exact ⟨(tcB_ok T.x_Plain).cl, _, _, _, ⟨T.h_term_Plain, T.y_Plain_term, T.F_Plain_term.kp⟩, ((ok_Plain_term (P := P) (w := w) (base := base) T).mono (by decide)).imp fun vs H Q E ⟨r, v, u, e, h, hg, hc, k⟩ => ⟨r, v, u, e, h, hg, (by have := clsK_inj T r.kind_lt hi hc; omega), k⟩, T.b_Plain_term⟩
  · exact ⟨(tcB_ok T.x_Before).cl, _, _, _, ⟨T.h_term_Before, T.y_Equation_term, T.F_Equation_term.kp⟩, ((ok_Equation_term (P := P) (w := w) (base := base) T).mono (by decide)).imp fun vs H Q E ⟨r, v, u, e, h, hg, hc, k⟩ => ⟨r, v, u, e, h, hg, (by have := clsK_inj T r.kind_lt hi hc; omega), k⟩, T.b_Equation_term⟩
  · exact ⟨(tcB_ok T.x_Hold).cl, _, _, _, ⟨T.h_term_Hold, T.y_Equation_term, T.F_Equation_term.kp⟩, ((ok_Equation_term (P := P) (w := w) (base := base) T).mono (by decide)).imp fun vs H Q E ⟨r, v, u, e, h, hg, hc, k⟩ => ⟨r, v, u, e, h, hg, (by have := clsK_inj T r.kind_lt hi hc; omega), k⟩, T.b_Equation_term⟩
  · exact ⟨(tcB_ok T.x_Like).cl, _, _, _, ⟨T.h_term_Like, T.y_Equation_term, T.F_Equation_term.kp⟩, ((ok_Equation_term (P := P) (w := w) (base := base) T).mono (by decide)).imp fun vs H Q E ⟨r, v, u, e, h, hg, hc, k⟩ => ⟨r, v, u, e, h, hg, (by have := clsK_inj T r.kind_lt hi hc; omega), k⟩, T.b_Equation_term⟩
  · exact ⟨(tcB_ok T.x_When).cl, _, _, _, ⟨T.h_term_When, T.y_Equation_term, T.F_Equation_term.kp⟩, ((ok_Equation_term (P := P) (w := w) (base := base) T).mono (by decide)).imp fun vs H Q E ⟨r, v, u, e, h, hg, hc, k⟩ => ⟨r, v, u, e, h, hg, (by have := clsK_inj T r.kind_lt hi hc; omega), k⟩, T.b_Equation_term⟩
  · exact ⟨(tcB_ok T.x_Same).cl, _, _, _, ⟨T.h_term_Same, T.y_Equation_term, T.F_Equation_term.kp⟩, ((ok_Equation_term (P := P) (w := w) (base := base) T).mono (by decide)).imp fun vs H Q E ⟨r, v, u, e, h, hg, hc, k⟩ => ⟨r, v, u, e, h, hg, (by have := clsK_inj T r.kind_lt hi hc; omega), k⟩, T.b_Equation_term⟩
  · exact ⟨(tcB_ok T.x_Call).cl, _, _, _, ⟨T.h_term_Call, T.y_Equation_term, T.F_Equation_term.kp⟩, ((ok_Equation_term (P := P) (w := w) (base := base) T).mono (by decide)).imp fun vs H Q E ⟨r, v, u, e, h, hg, hc, k⟩ => ⟨r, v, u, e, h, hg, (by have := clsK_inj T r.kind_lt hi hc; omega), k⟩, T.b_Equation_term⟩
theorem gmE_is_call (T : Txt K mg Z) : ∀ C, MCE Z C → MOk P w K mg base CX0 1 C "is_call" (spmE_is_call Z C) := by
  rintro C ⟨i, hi, rfl⟩
  have hi' : i = 0 ∨ i = 1 ∨ i = 2 ∨ i = 3 ∨ i = 4 ∨ i = 5 ∨ i = 6 := by omega
  rcases hi' with rfl | rfl | rfl | rfl | rfl | rfl | rfl
  · exact ⟨(tcB_ok T.x_Plain).cl, _, _, _, ⟨T.h_is_call_Plain, T.y_Equation_is_call, T.F_Equation_is_call.kp⟩, ((ok_Equation_is_call (P := P) (w := w) (base := base) T).mono (by decide)).imp fun vs H Q E ⟨r, v, u, e, h, hg, hc, k⟩ => ⟨r, v, u, e, h, hg, (by have := clsK_inj T r.kind_lt hi hc; omega), k⟩, T.b_Equation_is_call⟩
  · exact ⟨(tcB_ok T.x_Before).cl, _, _, _, ⟨T.h_is_call_Before, T.y_Equation_is_call, T.F_Equation_is_call.kp⟩, ((ok_Equation_is_call (P := P) (w := w) (base := base) T).mono (by decide)).imp fun vs H Q E ⟨r, v, u, e, h, hg, hc, k⟩ => ⟨r, v, u, e, h, hg, (by have := clsK_inj T r.kind_lt hi hc; omega), k⟩, T.b_Equation_is_call⟩
  · exact ⟨(tcB_ok T.x_Hold).cl, _, _, _, ⟨T.h_is_call_Hold, T.y_Equation_is_call, T.F_Equation_is_call.kp⟩, ((ok_Equation_is_call (P := P) (w := w) (base := base) T).mono (by decide)).imp fun vs H Q E ⟨r, v, u, e, h, hg, hc, k⟩ => ⟨r, v, u, e, h, hg, (by have := clsK_inj T r.kind_lt hi hc; omega), k⟩, T.b_Equation_is_call⟩
  · exact ⟨(tcB_ok T.x_Like).cl, _, _, _, ⟨T.h_is_call_Like, T.y_Equation_is_call, T.F_Equation_is_call.kp⟩, ((ok_Equation_is_call (P := P) (w := w) (base := base) T).mono (by decide)).imp fun vs H Q E ⟨r, v, u, e, h, hg, hc, k⟩ => ⟨r, v, u, e, h, hg, (by have := clsK_inj T r.kind_lt hi hc; omega), k⟩, T.b_Equation_is_call⟩
  · exact ⟨(tcB_ok T.x_When).cl, _, _, _, ⟨T.h_is_call_When, T.y_Equation_is_call, T.F_Equation_is_call.kp⟩, ((ok_Equation_is_call (P := P) (w := w) (base := base) T).mono (by decide)).imp fun vs H Q E ⟨r, v, u, e, h, hg, hc, k⟩ => ⟨r, v, u, e, h, hg, (by have := clsK_inj T r.kind_lt hi hc; omega), k⟩, T.b_Equation_is_call⟩
  · exact ⟨(tcB_ok T.x_Same).cl, _, _, _, ⟨T.h_is_call_Same, T.y_Equation_is_call, T.F_Equation_is_call.kp⟩, ((ok_Equation_is_call (P := P) (w := w) (base := base) T).mono (by decide)).imp fun vs H Q E ⟨r, v, u, e, h, hg, hc, k⟩ => ⟨r, v, u, e, h, hg, (by have := clsK_inj T r.kind_lt hi hc; omega), k⟩, T.b_Equation_is_call⟩
  · exact ⟨(tcB_ok T.x_Call).cl, _, _, _, ⟨T.h_is_call_Call, T.y_Call_is_call, T.F_Call_is_call.kp⟩, ((ok_Call_is_call (P := P) (w := w) (base := base) T).mono (by decide)).imp fun vs H Q E ⟨r, v, u, e, h, hg, hc, k⟩ => ⟨r, v, u, e, h, hg, (by have := clsK_inj T r.kind_lt hi hc; omega), k⟩, T.b_Call_is_call⟩

/-! ### rows made -/
theorem TermAt.keepM {H H2 : Hp} (e : ∀ a C dx fs, MC Z C → H a = some (.ins C dx fs) → H2 a = some (.ins C dx fs)) : ∀ {t : Tm} {v : V}, TermAt Z H t v → TermAt Z H2 t v := by
  intro t
  induction t with
  | nm s => rintro v ⟨a, dx, h1, h2⟩; exact ⟨a, dx, h1, e _ _ _ _ (clsT_MC Z (.nm s)) h2⟩
  | vl x => rintro v ⟨a, dx, h1, h2⟩; exact ⟨a, dx, h1, e _ _ _ _ (clsT_MC Z (.vl x)) h2⟩
  | two op p q ihp ihq => rintro v ⟨a, dx, v1, v2, h1, h2, h3, h4⟩; exact ⟨a, dx, v1, v2, h1, e _ _ _ _ (clsT_MC Z (.two op p q)) h2, ihp h3, ihq h4⟩
  | nt p ihp => rintro v ⟨a, dx, v1, h1, h2, h3⟩; exact ⟨a, dx, v1, h1, e _ _ _ _ (clsT_MC Z (.nt p)) h2, ihp h3⟩
  | pk c p q ihc ihp ihq => rintro v ⟨a, dx, v0, v1, v2, h1, h2, h3, h4, h5⟩; exact ⟨a, dx, v0, v1, v2, h1, e _ _ _ _ (clsT_MC Z (.pk c p q)) h2, ihc h3, ihp h4, ihq h5⟩
theorem MC_ne (T : Txt K mg Z) {C : Addr} (h : MC Z C) : C ≠ Z.c_Plain := by
  rcases h with rfl | rfl | rfl | rfl | rfl
  · exact (difB_ne (i := 0) (j := 1) T.fact_difT rfl rfl (by decide)).symm
  · exact (difB_ne (i := 0) (j := 2) T.fact_difT rfl rfl (by decide)).symm
  · exact (difB_ne (i := 0) (j := 3) T.fact_difT rfl rfl (by decide)).symm
  · exact (difB_ne (i := 0) (j := 4) T.fact_difT rfl rfl (by decide)).symm
  · exact (difB_ne (i := 0) (j := 5) T.fact_difT rfl rfl (by decide)).symm
def RetE (Z : Adr) (r : Rw) (u : V) (H : Hp) (Q : VK) : Prop := ∀ v H2, Ex H H2 → EqAt Z H2 r v u → Q v H2
theorem RetE.up {r : Rw} {u : V} {H0 H : Hp} {Q : VK} (k : RetE Z r u H0 Q) (e : Ex H0 H) : RetE Z r u H Q := fun v H2 e2 => k v H2 (e.trans e2)
def sp_Equation_init (Z : Adr) : Sp := fun vs H Q _ => ∃ x dx i v, vs = [.ref x, v] ∧ i < 7 ∧ H x = some (.ins (clsK Z i) dx []) ∧ Q .non (upd H x (.ins (clsK Z i) dx [("told_row", v)]))
theorem ok_Equation_init (T : Txt K mg Z) : FnOk P w K mg base CX0 1 Z.f_Equation_init Z.fd_Equation_init ["self", "row"] (sp_Equation_init Z) := by
  refine T.F_Equation_init.ok sc_Equation_init (fun vs H Q E h => ?_) (fun cdv AA outer s H vs Q E hr h => ?_)
  · obtain ⟨x, dx, i, v, rfl, _⟩ := h
    rfl
  · obtain ⟨x, dx, i, v, rfl, hi, hx, k⟩ := h
    have TX := tcE T hi
    refine ⟨_, (pss_one (ps_fld (pv 0) (pv 1) (by rfl))), ?_⟩
    walk_at "ss"
    refine ⟨x, _, dx, _, rfl, hx, TX.1, TX.2.1, by simp, ?_⟩
    walk_at "ss"
    exact k
def sp_Plain_init (Z : Adr) : Sp := fun vs H Q _ => ∃ x dx n t u H0, vs = [.ref x, u] ∧ H x = some (.ins Z.c_Plain dx []) ∧ H0 x = none ∧ Ex H0 H ∧ RowAt H0 (.pl n t) u ∧ t.good ∧ t.dep ≤ 5 ∧
  ∀ H2 tv, Ex H0 H2 → H2 x = some (.ins Z.c_Plain dx [("told_row", u), ("kept_term", tv)]) → TermAt Z H2 t tv → Q .non H2
theorem ok_Plain_init (T : Txt K mg Z)  : FnOk P w K mg base CX0 (20) Z.f_Plain_init Z.fd_Plain_init ["self", "row"] (sp_Plain_init Z) := by
  have G_Equation_init := ok_Equation_init (P := P) (w := w) (base := base) T
  have G_term_of := ok_term_of (P := P) (w := w) (base := base) T
  refine T.F_Plain_init.ok sc_Plain_init (fun vs H Q E h => ?_) (fun cdv AA outer s H vs Q E hr h => ?_)
  · obtain ⟨x, dx, n, t, u, H0, rfl, _⟩ := h
    rfl
  · obtain ⟨x, dx, n, t, u, H0, rfl, hx, h0, e0, ⟨b, tw, rfl, hb, hw⟩, hg, hd, k⟩ := h
    have TX := tcE T (i := 0) (by decide)
    refine ⟨_, (pss_cons (ps_expr (pe_cm rfl T.m_Equation (cmB_ok T.fact_cm_Equation) G_Equation_init (hr.mono (by omega)) T.F_Equation_init.kp T.b_Equation_init pass0 (pa_cons (pv 0) (pa_cons (pv 1) pa_nil))))
      (pss_one (ps_fld (pv 0) (pe_call G_term_of (hr.mono (by omega)) rfl T.g_term_of T.F_term_of.kp T.b_term_of .nil pass0 (pa_cons (pe_ix ix_tup (pv 1) pe_int (fun _ _ => rfl)) pa_nil)) (by rfl)))), ?_⟩
    walk_at "ss"
    refine ⟨x, dx, 0, _, rfl, by decide, hx, ?_⟩
    have e1 : Ex H0 (upd H x (.ins (clsK Z 0) dx [("told_row", .ref b)])) := Ex.mut e0 h0
    have hx1 : upd H x (.ins (clsK Z 0) dx [("told_row", .ref b)]) x = some (.ins (clsK Z 0) dx [("told_row", .ref b)]) := upd_same
    generalize upd H x (.ins (clsK Z 0) dx [("told_row", .ref b)]) = H1 at e1 hx1
    walk_at "ss"
    refine c_ixT (SqT.of (e1 _ _ hb)) rfl ?_
    walk_at "ss"
    refine ⟨t, tw, rfl, hw.up e1, hg, hd, fun tv H2 e2 htv => ?_⟩
    walk_at "ss"
    refine ⟨x, _, dx, _, rfl, e2 _ _ hx1, TX.1, TX.2.2.1 rfl, by simp, ?_⟩
    rw [put_tl (by decide +kernel)]
    walk_at "ss"
    refine k _ tv (Ex.mut (e1.trans e2) h0) upd_same (htv.keepM fun a C dx' fs hC ha => ?_)
    rw [upd_ne]
    · exact ha
    · intro z
      subst z
      have := (e2 _ _ hx1).symm.trans ha
      injection this with this
      injection this with h1
      exact MC_ne T hC h1.symm
theorem offE1 {u : V} : offE [("told_row", u)] := by
  refine ⟨?_, ?_, ?_, ?_, ?_⟩ <;> exact lk_tl (by decide +kernel) rfl
theorem offE2 {u v : V} : offE [("told_row", u), ("kept_term", v)] := by
  refine ⟨?_, ?_, ?_, ?_, ?_⟩ <;> exact lk_tl (by decide +kernel) (lk_tl (by decide +kernel) rfl)
theorem offX1 {u : V} : offX [("told_row", u)] := by
  refine ⟨?_, ?_⟩ <;> exact lk_tl (by decide +kernel) rfl
theorem offX2 {u v : V} : offX [("told_row", u), ("kept_term", v)] := by
  refine ⟨?_, ?_⟩ <;> exact lk_tl (by decide +kernel) (lk_tl (by decide +kernel) rfl)
theorem mk_row {H : Hp} {Q : VK} {E : XK} {i : Nat} {r : Rw} {u : V} (hi : r.kind = i) (h0 : i ≠ 0) (hr : RowAt H r u) (k : RetE Z r u H Q) : MkP2 (clsK Z i) (sp_Equation_init Z) [u] H Q E := fun x dx hx hd _ => by
  have hk := r.kind_lt
  refine ⟨x, dx, i, u, rfl, by omega, upd_same, rfl, ?_⟩
  have e1 : Ex H (upd (upd (upd H dx (.own x)) x (.ins (clsK Z i) dx [])) x (.ins (clsK Z i) dx [("told_row", u)])) := Ex.mut (mk_heap hx hd) hx
  refine k _ _ e1 ⟨x, dx, _, rfl, by rw [hi]; exact upd_same, hr.up e1, lk_hd, ⟨offE1, offX1⟩, fun n t e => ?_⟩
  subst e
  exact absurd hi.symm h0
theorem mk_Plain {H : Hp} {Q : VK} {E : XK} {n : Str} {t : Tm} {u : V} (hr : RowAt H (.pl n t) u) (hg : t.good) (hd5 : t.dep ≤ 5) (k : RetE Z (.pl n t) u H Q) : MkP2 Z.c_Plain (sp_Plain_init Z) [u] H Q E := fun x dx hx hd _ =>
  ⟨x, dx, n, t, u, H, rfl, upd_same, hx, mk_heap hx hd, hr, hg, hd5, fun H2 tv e2 g2 htv => ⟨rfl, k _ _ e2 ⟨x, dx, _, rfl, g2, hr.up e2, lk_hd, ⟨offE2, offX2⟩, fun n' t' e => by cases e; exact ⟨tv, lk_tl (by decide +kernel) lk_hd, htv⟩⟩⟩⟩
/-! are_pointed .. equation_of -/
def sp_are_pointed : Sp := fun vs H Q _ => ∃ (p : Addr) (ns : List Str) (m : Int), vs = [.ref p, .int m] ∧ H p = some (.tup (ns.map V.str)) ∧ (∀ s ∈ ns, goodN s) ∧ m ≤ (ns.length : Int) ∧ ns.length ≤ 1000 ∧ RetV (.bl true) H Q
theorem ok_are_pointed (T : Txt K mg Z) : FnOk P w K mg base CX0 3 Z.f_are_pointed Z.fd_are_pointed ["thing", "least"] sp_are_pointed := by
  have G_is_pointed := ok_is_pointed (P := P) (w := w) (base := base) T
  refine T.F_are_pointed.ok sc_are_pointed (fun vs H Q E h => ?_) (fun cdv AA outer s H vs Q E hr h => ?_)
  · obtain ⟨p, ns, m, rfl, _⟩ := h
    rfl
  · obtain ⟨p, ns, m, rfl, hp, hg, hm, hl, k⟩ := h
    refine ⟨_, (pss_one (ps_ret (pe_and (pe_callB call_isi (by rfl) T.n_isinstance (by decide +kernel) (pa_cons (pv 0) (pa_cons (pe_bltn (v := .ty "tuple") (by rfl) T.n_tuple (by decide +kernel) rfl) pa_nil))) (pe_and (pe_cmpR op_ge (pe_callB call_len_seq (by rfl) T.n_len (by decide +kernel) (pa_cons (pv 0) pa_nil)) (pv 1) (nomark _)) (pe_one (pe_callB (cr_all rfl) (by rfl) T.n_all (by decide +kernel) (pa_cons (pe_lc (own := [("name", 2)]) (g := (gName 2)) (tt := tYes) (te := (tCall (sp_is_pointed K) [] E0 (tCons (tVar 2) tNil))) rfl sc_are_pointed.nd (pi_tup (pv 0)) (blkOk_by (own := [("name", 2)]) (N := N_are_pointed) (sc := defScope s_are_pointed) (by decide +kernel)) (fun _ _ _ _ _ => (pg_name (i := 2) sc_are_pointed.nd rfl (Or.inl rfl))) (fun _ _ _ _ _ => pts_nil) (fun _ _ _ _ _ => (pe_call G_is_pointed (hr.mono (by omega)) rfl T.g_is_pointed T.F_is_pointed.kp T.b_is_pointed .nil pass0 (pa_cons (pv 2) pa_nil)))) pa_nil))))))), ?_⟩
    walk_at "ss"
    refine isi (ty_tup hp) kb_tt ?_
    walk_at "ss"
    refine ⟨p, _, rfl, .inr (SqT.of hp), ?_⟩
    walk_at "ss"
    refine if_tt (decide_eq_true (by rw [List.length_map]; exact hm)) ?_
    walk_at "ss"
    refine ⟨⟨_, SqT.of hp⟩, lcT (fun i => (ns[i]?).bind fun _ => some (.bl true)) (SqT.of hp) (by rw [List.length_map]; omega) (fun i x hx => ?_) ?_⟩
    · rw [List.getElem?_map] at hx
      obtain ⟨s, hs, rfl⟩ := Option.map_eq_some_iff.mp hx
      have hgs := hg s (List.mem_of_getElem? hs)
      have := hgs.2.1
      intro H2 e2 R hR
      walk_at "ss"
      refine ⟨_, rfl, .inl ⟨s, rfl, by omega, fun H3 e3 => ?_⟩⟩
      rw [hgs.1]
      rw [hs] at hR
      exact hR _ e3
    rw [List.length_map, fm_range, fm_some]
    intro p2 H2 hp2 e2 g2
    walk_at "ss"
    refine ⟨p2, ns.map fun _ => true, rfl, SqL.of (by rw [g2, List.map_map]; rfl), ?_⟩
    have ea : (ns.map fun _ => true).all id = true := by
      rw [List.all_eq_true]
      intro b hb
      obtain ⟨_, _, rfl⟩ := List.mem_map.mp hb
      rfl
    rw [ea]
    exact k _ e2
/-- a row with a value, or one whose name is none -/
def sp_is_valued : Sp := fun vs H Q _ => ∃ a w n v x, vs = [.ref a] ∧ H a = some (.tup [.str w, .str n, v, .str x]) ∧ n.length ≤ 1000 ∧ ((isPointed n = true ∧ isVal v = true ∧ goodN x ∧ RetV (.bl true) H Q) ∨ (isPointed n = false ∧ RetV (.bl false) H Q))
theorem ok_is_valued (T : Txt K mg Z) : FnOk P w K mg base CX0 4 Z.f_is_valued Z.fd_is_valued ["row"] sp_is_valued := by
  have G_is_pointed := ok_is_pointed (P := P) (w := w) (base := base) T
  have G_is_value := ok_is_value (P := P) (w := w) (base := base) T
  refine T.F_is_valued.ok sc_is_valued (fun vs H Q E h => ?_) (fun cdv AA outer s H vs Q E hr h => ?_)
  · obtain ⟨a, w0, n, v, x, rfl, _⟩ := h
    rfl
  · obtain ⟨a, w0, n, v, x, rfl, ha, hn, h⟩ := h
    refine ⟨_, (pss_one (ps_ret (pe_and (pe_cmpR op_eq (pe_callB call_len_seq (by rfl) T.n_len (by decide +kernel) (pa_cons (pv 0) pa_nil)) pe_int (nomark _)) (pe_and (pe_call G_is_pointed (hr.mono (by omega)) rfl T.g_is_pointed T.F_is_pointed.kp T.b_is_pointed .nil pass0 (pa_cons (pe_ix ix_tup (pv 0) pe_int (fun _ _ => rfl)) pa_nil)) (pe_and (pe_call G_is_value (hr.mono (by omega)) rfl T.g_is_value T.F_is_value.kp T.b_is_value .nil pass0 (pa_cons (pe_ix ix_tup (pv 0) pe_int (fun _ _ => rfl)) pa_nil)) (pe_one (pe_call G_is_pointed (hr.mono (by omega)) rfl T.g_is_pointed T.F_is_pointed.kp T.b_is_pointed .nil pass0 (pa_cons (pe_ix ix_tup (pv 0) pe_int (fun _ _ => rfl)) pa_nil)))))))), ?_⟩
    walk_at "ss"
    refine ⟨a, _, rfl, .inr (SqT.of ha), ?_⟩
    walk_at "ss"
    refine if_tt rfl ?_
    walk_at "ss"
    refine c_ixT (SqT.of ha) rfl ?_
    walk_at "ss"
    refine ⟨_, rfl, .inl ⟨n, rfl, by omega, fun H1 e1 => ?_⟩⟩
    rcases h with ⟨h1, h2, h3, k⟩ | ⟨h1, k⟩
    · rw [h1]
      walk_at "ss"
      refine c_ixT (SqT.of (e1 _ _ ha)) rfl ?_
      walk_at "ss"
      refine is_val h2 ?_
      walk_at "ss"
      refine c_ixT (SqT.of (e1 _ _ ha)) rfl ?_
      walk_at "ss"
      have := h3.2.1
      refine ⟨_, rfl, .inl ⟨x, rfl, by omega, fun H2 e2 => ?_⟩⟩
      rw [h3.1]
      exact k _ (e1.trans e2)
    · rw [h1]
      walk_at "ss"
      exact k _ e1
def sp_plain_of (Z : Adr) : Sp := fun vs H Q _ => ∃ n t u, vs = [u] ∧ RowAt H (.pl n t) u ∧ Rw.good (.pl n t) ∧ RetE Z (.pl n t) u H Q
theorem ok_plain_of (T : Txt K mg Z) : FnOk P w K mg base CX0 22 Z.f_plain_of Z.fd_plain_of ["row"] (sp_plain_of Z) := by
  have G_is_pointed := ok_is_pointed (P := P) (w := w) (base := base) T
  have G_Plain_init := ok_Plain_init (P := P) (w := w) (base := base) T
  refine T.F_plain_of.ok sc_plain_of (fun vs H Q E h => ?_) (fun cdv AA outer s H vs Q E hr h => ?_)
  · obtain ⟨n, t, u, rfl, _⟩ := h
    rfl
  · obtain ⟨n, t, u, rfl, hr2, hg, k⟩ := h
    have hr3 := hr2
    obtain ⟨a, tw, rfl, ha, hw⟩ := hr2
    refine ⟨_, (pss_cons (ps_if (PW.pt (pw_or (pt_cmpR op_ne (pe_callB call_len_seq (by rfl) T.n_len (by decide +kernel) (pa_cons (pv 0) pa_nil)) pe_int (nomark _)) (pw_or1 (pt_not (pt_val (pe_call G_is_pointed (hr.mono (by omega)) rfl T.g_is_pointed T.F_is_pointed.kp T.b_is_pointed .nil pass0 (pa_cons (pe_ix ix_tup (pv 0) pe_int (fun _ _ => rfl)) pa_nil))))))) (pss_one (ps_ret pe_non)) pss_nil)
      (pss_one (ps_try_thru0 (pss_one (ps_ret (pe_make ⟨(tcB_ok T.x_Plain).makes, T.i_Plain, T.y_Plain_init, (tcB_ok T.x_Plain).kp⟩ G_Plain_init (hr.mono (by omega)) rfl T.m_Plain T.b_Plain_init .nil pass0 (pa_cons (pv 0) pa_nil))))))), ?_⟩
    walk_at "ss"
    refine ⟨a, _, rfl, .inr (SqT.of ha), ?_⟩
    walk_at "ss"
    refine if_ff rfl ?_
    walk_at "ss"
    refine c_ixT (SqT.of ha) rfl ?_
    walk_at "ss"
    have := hg.1.2.1
    refine ⟨_, rfl, .inl ⟨n, rfl, by omega, fun H1 e1 => ?_⟩⟩
    rw [hg.1.1]
    walk_at "ss"
    exact mk_Plain (hr3.up e1) hg.2.1 hg.2.2 (k.up e1)
def badV (H : Hp) (u : V) : Prop := ∃ a n v x, u = .ref a ∧ H a = some (.tup [.str "before", .str n, v, .str x]) ∧ n.length ≤ 1000 ∧ isPointed n = false
def sp_valued_of (Z : Adr) : Sp := fun vs H Q _ => ∃ u, vs = [u] ∧ ((∃ kk n v x, RowAt H (.vd kk n v x) u ∧ Rw.good (.vd kk n v x) ∧ RetE Z (.vd kk n v x) u H Q) ∨ (badV H u ∧ RetV .non H Q))
theorem ok_valued_of (T : Txt K mg Z) : FnOk P w K mg base CX0 5 Z.f_valued_of Z.fd_valued_of ["row"] (sp_valued_of Z) := by
  have G_Equation_init := ok_Equation_init (P := P) (w := w) (base := base) T
  have G_is_valued := ok_is_valued (P := P) (w := w) (base := base) T
  refine T.F_valued_of.ok sc_valued_of (fun vs H Q E h => ?_) (fun cdv AA outer s H vs Q E hr h => ?_)
  · obtain ⟨u, rfl, _⟩ := h
    rfl
  · obtain ⟨u, rfl, h⟩ := h
    refine ⟨_, (pss_cons (ps_if (pt_not (pt_val (pe_call G_is_valued (hr.mono (by omega)) rfl T.g_is_valued T.F_is_valued.kp T.b_is_valued .nil pass0 (pa_cons (pv 0) pa_nil)))) (pss_one (ps_ret pe_non)) pss_nil)
      (pss_cons (ps_if (pt_cmpR op_eq (pe_ix ix_tup (pv 0) pe_int (fun _ _ => rfl)) pe_str (nomark _)) (pss_one (ps_ret (pe_make ⟨(tcB_ok T.x_Before).makes, T.i_Before, T.y_Equation_init, (tcB_ok T.x_Before).kp⟩ G_Equation_init (hr.mono (by omega)) rfl T.m_Before T.b_Equation_init .nil pass0 (pa_cons (pv 0) pa_nil)))) pss_nil)
      (pss_cons (ps_if (pt_cmpR op_eq (pe_ix ix_tup (pv 0) pe_int (fun _ _ => rfl)) pe_str (nomark _)) (pss_one (ps_ret (pe_make ⟨(tcB_ok T.x_Hold).makes, T.i_Hold, T.y_Equation_init, (tcB_ok T.x_Hold).kp⟩ G_Equation_init (hr.mono (by omega)) rfl T.m_Hold T.b_Equation_init .nil pass0 (pa_cons (pv 0) pa_nil)))) pss_nil)
      (pss_one (ps_ret (pe_make ⟨(tcB_ok T.x_Like).makes, T.i_Like, T.y_Equation_init, (tcB_ok T.x_Like).kp⟩ G_Equation_init (hr.mono (by omega)) rfl T.m_Like T.b_Equation_init .nil pass0 (pa_cons (pv 0) pa_nil))))))), ?_⟩
    rcases h with ⟨kk, n, v, x, hr2, hg, k⟩ | ⟨⟨a, n, v, x, rfl, ha, hn, hb⟩, k⟩
    · have hr3 := hr2
      obtain ⟨a, rfl, ha⟩ := hr2
      have h80 := hg.2.1.2.1
      walk_at "ss"
      refine ⟨a, _, n, v, x, rfl, ha, by omega, .inl ⟨hg.2.1.1, hg.2.2.1, hg.2.2.2, fun H1 e1 => ?_⟩⟩
      have ha1 := e1 _ _ ha
      walk_at "ss"
      refine c_ixT (SqT.of ha1) rfl ?_
      walk_at "ss"
      have hk3 := hg.1
      have hk : kk = 0 ∨ kk = 1 ∨ kk = 2 := by omega
      rcases hk with rfl | rfl | rfl
      · refine if_tt (str_eq rfl) ?_
        walk_at "ss"
        exact mk_row (i := 1) rfl (by decide) (hr3.up e1) (k.up e1)
      · refine if_ff (str_ne (by decide +kernel)) ?_
        walk_at "ss"
        refine c_ixT (SqT.of ha1) rfl ?_
        walk_at "ss"
        refine if_tt (str_eq rfl) ?_
        walk_at "ss"
        exact mk_row (i := 2) rfl (by decide) (hr3.up e1) (k.up e1)
      · refine if_ff (str_ne (by decide +kernel)) ?_
        walk_at "ss"
        refine c_ixT (SqT.of ha1) rfl ?_
        walk_at "ss"
        refine if_ff (str_ne (by decide +kernel)) ?_
        walk_at "ss"
        exact mk_row (i := 3) rfl (by decide) (hr3.up e1) (k.up e1)
    · walk_at "ss"
      refine ⟨a, _, n, v, x, rfl, ha, by omega, .inr ⟨hb, fun H1 e1 => ?_⟩⟩
      walk_at "ss"
      exact k _ e1
def sp_call_of (Z : Adr) : Sp := fun vs H Q _ => ∃ os nd xs u, vs = [u] ∧ RowAt H (.cl os nd xs) u ∧ Rw.good (.cl os nd xs) ∧ RetE Z (.cl os nd xs) u H Q
theorem ok_call_of (T : Txt K mg Z) : FnOk P w K mg base CX0 4 Z.f_call_of Z.fd_call_of ["row"] (sp_call_of Z) := by
  have G_is_name := ok_is_name (P := P) (w := w) (base := base) T
  have G_Equation_init := ok_Equation_init (P := P) (w := w) (base := base) T
  have G_are_pointed := ok_are_pointed (P := P) (w := w) (base := base) T
  refine T.F_call_of.ok sc_call_of (fun vs H Q E h => ?_) (fun cdv AA outer s H vs Q E hr h => ?_)
  · obtain ⟨os, nd, xs, u, rfl, _⟩ := h
    rfl
  · obtain ⟨os, nd, xs, u, rfl, hr2, hg, k⟩ := h
    have hr3 := hr2
    obtain ⟨a, p, q, rfl, ha, hp, hq⟩ := hr2
    obtain ⟨g1, g2, g3, ⟨g4, g5, g6⟩, g7, g8, g9⟩ := hg
    refine ⟨_, (pss_cons (ps_if (PW.pt (pw_or (pt_cmpR op_ne (pe_callB call_len_seq (by rfl) T.n_len (by decide +kernel) (pa_cons (pv 0) pa_nil)) pe_int (nomark _)) (pw_or (pt_not (pt_val (pe_call G_are_pointed (hr.mono (by omega)) rfl T.g_are_pointed T.F_are_pointed.kp T.b_are_pointed .nil pass0 (pa_cons (pe_ix ix_tup (pv 0) pe_int (fun _ _ => rfl)) (pa_cons pe_int pa_nil))))) (pw_or (pt_not (pt_val (pe_call G_is_name (hr.mono (by omega)) rfl T.g_is_name T.F_is_name.kp T.b_is_name .nil pass0 (pa_cons (pe_ix ix_tup (pv 0) pe_int (fun _ _ => rfl)) pa_nil)))) (pw_or1 (pt_not (pt_val (pe_call G_are_pointed (hr.mono (by omega)) rfl T.g_are_pointed T.F_are_pointed.kp T.b_are_pointed .nil pass0 (pa_cons (pe_ix ix_tup (pv 0) pe_int (fun _ _ => rfl)) (pa_cons pe_int pa_nil)))))))))) (pss_one (ps_ret pe_non)) pss_nil)
      (pss_one (ps_ret (pe_make ⟨(tcB_ok T.x_Call).makes, T.i_Call, T.y_Equation_init, (tcB_ok T.x_Call).kp⟩ G_Equation_init (hr.mono (by omega)) rfl T.m_Call T.b_Equation_init .nil pass0 (pa_cons (pv 0) pa_nil))))), ?_⟩
    walk_at "ss"
    refine ⟨a, _, rfl, .inr (SqT.of ha), ?_⟩
    walk_at "ss"
    refine if_ff rfl ?_
    walk_at "ss"
    refine c_ixT (SqT.of ha) rfl ?_
    walk_at "ss"
    refine ⟨p, os, 1, rfl, hp, g3, by omega, by omega, fun H1 e1 => ?_⟩
    walk_at "ss"
    refine c_ixT (SqT.of (e1 _ _ ha)) rfl ?_
    walk_at "ss"
    refine ⟨_, rfl, .inl ⟨nd, rfl, by omega, fun H2 e2 => ?_⟩⟩
    rw [g4]
    walk_at "ss"
    have e12 := e1.trans e2
    refine c_ixT (SqT.of (e12 _ _ ha)) rfl ?_
    walk_at "ss"
    refine ⟨q, xs, 1, rfl, e12 _ _ hq, g9, by omega, by omega, fun H3 e3 => ?_⟩
    walk_at "ss"
    exact mk_row (i := 6) rfl (by decide) (hr3.up (e12.trans e3)) (k.up (e12.trans e3))
def sp_made_of (Z : Adr) : Sp := fun vs H Q _ => ∃ u, vs = [u] ∧ ((∃ r, RowAt H r u ∧ r.good ∧ RetE Z r u H Q) ∨ (badV H u ∧ RetV .non H Q))
theorem in_vw (k : Nat) : inV (.str (vword k)) [.str "before", .str "hold", .str "like"] = true := by
  rcases vword_in k with e | e | e <;> (rw [e]; decide +kernel)
theorem vw_ne {k : Nat} : vword k ≠ "plain" := by
  rcases vword_in k with e | e | e <;> (rw [e]; decide +kernel)
theorem ok_made_of (T : Txt K mg Z) : FnOk P w K mg base CX0 23 Z.f_made_of Z.fd_made_of ["row"] (sp_made_of Z) := by
  have G_Equation_init := ok_Equation_init (P := P) (w := w) (base := base) T
  have G_are_pointed := ok_are_pointed (P := P) (w := w) (base := base) T
  have G_plain_of := ok_plain_of (P := P) (w := w) (base := base) T
  have G_valued_of := ok_valued_of (P := P) (w := w) (base := base) T
  have G_call_of := ok_call_of (P := P) (w := w) (base := base) T
  refine T.F_made_of.ok sc_made_of (fun vs H Q E h => ?_) (fun cdv AA outer s H vs Q E hr h => ?_)
  · obtain ⟨u, rfl, _⟩ := h
    rfl
  · obtain ⟨u, rfl, h⟩ := h
    refine ⟨_, (pss_cons (ps_if (pt_cmpR op_eq (pe_ix ix_tup (pv 0) pe_int (fun _ _ => rfl)) pe_str (nomark _)) (pss_one (ps_ret (pe_call G_plain_of (hr.mono (by omega)) rfl T.g_plain_of T.F_plain_of.kp T.b_plain_of .nil pass0 (pa_cons (pv 0) pa_nil)))) pss_nil)
      (pss_cons (ps_if (pt_cmpR op_in_seq (pe_ix ix_tup (pv 0) pe_int (fun _ _ => rfl)) (pe_tup (pa_cons pe_str (pa_cons pe_str (pa_cons pe_str pa_nil)))) (by rfl)) (pss_one (ps_ret (pe_call G_valued_of (hr.mono (by omega)) rfl T.g_valued_of T.F_valued_of.kp T.b_valued_of .nil pass0 (pa_cons (pv 0) pa_nil)))) pss_nil)
      (pss_cons (ps_if (pt_cmpR op_eq (pe_ix ix_tup (pv 0) pe_int (fun _ _ => rfl)) pe_str (nomark _)) (pss_one (ps_ret (pe_call G_call_of (hr.mono (by omega)) rfl T.g_call_of T.F_call_of.kp T.b_call_of .nil pass0 (pa_cons (pv 0) pa_nil)))) pss_nil)
      (pss_cons (ps_if (PW.pt (pw_and (pt_cmpR op_eq (pe_ix ix_tup (pv 0) pe_int (fun _ _ => rfl)) pe_str (nomark _)) (pw_and (pt_cmpR op_eq (pe_callB call_len_seq (by rfl) T.n_len (by decide +kernel) (pa_cons (pv 0) pa_nil)) pe_int (nomark _)) (pw_and1 (pt_val (pe_call G_are_pointed (hr.mono (by omega)) rfl T.g_are_pointed T.F_are_pointed.kp T.b_are_pointed .nil pass0 (pa_cons (pe_slice sl_tup (pv 0) (po_some pe_int) po_none) (pa_cons pe_int pa_nil)))))))) (pss_one (ps_ret (pe_make ⟨(tcB_ok T.x_When).makes, T.i_When, T.y_Equation_init, (tcB_ok T.x_When).kp⟩ G_Equation_init (hr.mono (by omega)) rfl T.m_When T.b_Equation_init .nil pass0 (pa_cons (pv 0) pa_nil)))) pss_nil)
      (pss_cons (ps_if (PW.pt (pw_and (pt_cmpR op_eq (pe_ix ix_tup (pv 0) pe_int (fun _ _ => rfl)) pe_str (nomark _)) (pw_and (pt_cmpR op_eq (pe_callB call_len_seq (by rfl) T.n_len (by decide +kernel) (pa_cons (pv 0) pa_nil)) pe_int (nomark _)) (pw_and1 (pt_val (pe_call G_are_pointed (hr.mono (by omega)) rfl T.g_are_pointed T.F_are_pointed.kp T.b_are_pointed .nil pass0 (pa_cons (pe_ix ix_tup (pv 0) pe_int (fun _ _ => rfl)) (pa_cons pe_int pa_nil)))))))) (pss_one (ps_ret (pe_make ⟨(tcB_ok T.x_Same).makes, T.i_Same, T.y_Equation_init, (tcB_ok T.x_Same).kp⟩ G_Equation_init (hr.mono (by omega)) rfl T.m_Same T.b_Equation_init .nil pass0 (pa_cons (pv 0) pa_nil)))) pss_nil)
      (pss_one (ps_ret pe_non))))))), ?_⟩
    rcases h with ⟨r, hr2, hg, k⟩ | ⟨⟨a, n, v, x, rfl, ha, hn, hb⟩, k⟩
    · have hr3 := hr2
      cases r with
      | pl n t =>
        obtain ⟨a, tw, rfl, ha, hw⟩ := hr2
        walk_at "ss"
        refine c_ixT (SqT.of ha) rfl ?_
        walk_at "ss"
        rw [str_eq rfl]
        walk_at "ss"
        exact ⟨n, t, _, rfl, hr3, hg, k⟩
      | vd kk n v x =>
        obtain ⟨a, rfl, ha⟩ := hr2
        walk_at "ss"
        refine c_ixT (SqT.of ha) rfl ?_
        walk_at "ss"
        rw [str_ne vw_ne]
        walk_at "ss"
        refine c_ixT (SqT.of ha) rfl ?_
        walk_at "ss"
        refine newT fun p1 H1 hp1 e1 g1 => ?_
        refine c_in (.inr (SqT.of g1)) rfl rfl ?_
        rw [in_vw]
        walk_at "ss"
        exact ⟨_, rfl, .inl ⟨kk, n, v, x, hr3.up e1, hg, k.up e1⟩⟩
      | cl os nd xs =>
        obtain ⟨a, p, q, rfl, ha, hp, hq⟩ := hr2
        walk_at "ss"
        refine c_ixT (SqT.of ha) rfl ?_
        walk_at "ss"
        rw [str_ne (by decide +kernel)]
        walk_at "ss"
        refine c_ixT (SqT.of ha) rfl ?_
        walk_at "ss"
        refine newT fun p1 H1 hp1 e1 g1 => ?_
        refine c_in (.inr (SqT.of g1)) rfl rfl ?_
        rw [show inV (V.str "call") [.str "before", .str "hold", .str "like"] = false from by decide +kernel]
        walk_at "ss"
        refine c_ixT (SqT.of (e1 _ _ ha)) rfl ?_
        walk_at "ss"
        rw [str_eq rfl]
        walk_at "ss"
        exact ⟨os, nd, xs, _, rfl, hr3.up e1, hg, k.up e1⟩
      | wh n x y =>
        obtain ⟨a, rfl, ha⟩ := hr2
        walk_at "ss"
        refine c_ixT (SqT.of ha) rfl ?_
        walk_at "ss"
        rw [str_ne (by decide +kernel)]
        walk_at "ss"
        refine c_ixT (SqT.of ha) rfl ?_
        walk_at "ss"
        refine newT fun p1 H1 hp1 e1 g1 => ?_
        refine c_in (.inr (SqT.of g1)) rfl rfl ?_
        rw [show inV (V.str "when") [.str "before", .str "hold", .str "like"] = false from by decide +kernel]
        have ha1 := e1 _ _ ha
        walk_at "ss"
        refine c_ixT (SqT.of ha1) rfl ?_
        walk_at "ss"
        rw [str_ne (by decide +kernel)]
        walk_at "ss"
        refine c_ixT (SqT.of ha1) rfl ?_
        walk_at "ss"
        rw [str_eq rfl]
        walk_at "ss"
        refine ⟨a, _, rfl, .inr (SqT.of ha1), ?_⟩
        walk_at "ss"
        refine if_tt rfl ?_
        walk_at "ss"
        refine ⟨a, _, rfl, SqT.of ha1, fun z => absurd (show (1 : Nat) = 0 from z.1) (by decide), fun p2 hp2 => ?_⟩
        walk_at "ss"
        have e2 := Ex.new (H := H1) (p := p2) (o := .tup ([n, x, y].map V.str)) hp2
        refine ⟨p2, [n, x, y], 3, rfl, upd_same, fun s hs => ?_, by simp, by simp, fun H3 e3 => ?_⟩
        · simp only [List.mem_cons, List.not_mem_nil, or_false] at hs
          rcases hs with rfl | rfl | rfl
          · exact hg.1
          · exact hg.2.1
          · exact hg.2.2
        walk_at "ss"
        exact mk_row (i := 4) rfl (by decide) (hr3.up (e1.trans (e2.trans e3))) (k.up (e1.trans (e2.trans e3)))
      | sm ns =>
        obtain ⟨a, p, rfl, ha, hp⟩ := hr2
        walk_at "ss"
        refine c_ixT (SqT.of ha) rfl ?_
        walk_at "ss"
        rw [str_ne (by decide +kernel)]
        walk_at "ss"
        refine c_ixT (SqT.of ha) rfl ?_
        walk_at "ss"
        refine newT fun p1 H1 hp1 e1 g1 => ?_
        refine c_in (.inr (SqT.of g1)) rfl rfl ?_
        rw [show inV (V.str "same") [.str "before", .str "hold", .str "like"] = false from by decide +kernel]
        have ha1 := e1 _ _ ha
        walk_at "ss"
        refine c_ixT (SqT.of ha1) rfl ?_
        walk_at "ss"
        rw [str_ne (by decide +kernel)]
        walk_at "ss"
        refine c_ixT (SqT.of ha1) rfl ?_
        walk_at "ss"
        rw [str_ne (by decide +kernel)]
        walk_at "ss"
        refine c_ixT (SqT.of ha1) rfl ?_
        walk_at "ss"
        rw [str_eq rfl]
        walk_at "ss"
        refine ⟨a, _, rfl, .inr (SqT.of ha1), ?_⟩
        walk_at "ss"
        refine if_tt rfl ?_
        walk_at "ss"
        refine c_ixT (SqT.of ha1) rfl ?_
        walk_at "ss"
        have g1' := hg.1
        have g2' := hg.2.1
        refine ⟨p, ns, 2, rfl, e1 _ _ hp, hg.2.2, by omega, by omega, fun H3 e3 => ?_⟩
        walk_at "ss"
        exact mk_row (i := 5) rfl (by decide) (hr3.up (e1.trans e3)) (k.up (e1.trans e3))
    · walk_at "ss"
      refine c_ixT (SqT.of ha) rfl ?_
      walk_at "ss"
      rw [str_ne (by decide +kernel)]
      walk_at "ss"
      refine c_ixT (SqT.of ha) rfl ?_
      walk_at "ss"
      refine newT fun p1 H1 hp1 e1 g1 => ?_
      refine c_in (.inr (SqT.of g1)) rfl rfl ?_
      rw [show inV (V.str "before") [.str "before", .str "hold", .str "like"] = true from by decide +kernel]
      walk_at "ss"
      exact ⟨_, rfl, .inr ⟨⟨a, n, v, x, rfl, e1 _ _ ha, hn, hb⟩, k.up e1⟩⟩
theorem ne_empty {H : Hp} {Q : VK} {a p : Addr} {d : PyData} {ds : List PyData} {D B : Nat} (h : Dp K H (.ref a) (.tuple (d :: ds))) (r : RpOk D B (.tuple (d :: ds))) (hD : D ≤ 64) (g : H p = some (.tup [])) (q : Q (.bl true) H) : rNeD K (.ref a) (.ref p) H Q := by
  refine ⟨_, .tuple [], h, .tup (SqT.of g) .nil, r.shaped hD, by decide +kernel, ?_⟩
  rw [show PyData.eqv (.tuple (d :: ds)) (.tuple []) = false from by simp [PyData.eqv, PyData.eqvAll]]
  exact q
theorem Rw.data_cons (r : Rw) : ∃ d ds, r.data = .tuple (d :: ds) := by cases r <;> exact ⟨_, _, rfl⟩
def sp_equation_of (Z : Adr) : Sp := fun vs H Q _ => ∃ r u, vs = [u] ∧ RowAt H r u ∧ r.good ∧ RetE Z r u H Q
theorem ok_equation_of (T : Txt K mg Z) : FnOk P w K mg base CX0 24 Z.f_equation_of Z.fd_equation_of ["told"] (sp_equation_of Z) := by
  have G_made_of := ok_made_of (P := P) (w := w) (base := base) T
  refine T.F_equation_of.ok sc_equation_of (fun vs H Q E h => ?_) (fun cdv AA outer s H vs Q E hr h => ?_)
  · obtain ⟨r, u, rfl, _⟩ := h
    rfl
  · obtain ⟨r, u, rfl, hr2, hg, k⟩ := h
    have hr3 := hr2
    obtain ⟨a, xs, rfl, ha⟩ := hr2.hd
    refine ⟨_, (pss_cons (ps_set (i := 1) sc_equation_of.nd rfl (Or.inl rfl) pe_non)
      (pss_cons (ps_if (PW.pt (pw_and (pt_val (pe_callB call_isi (by rfl) T.n_isinstance (by decide +kernel) (pa_cons (pv 0) (pa_cons (pe_bltn (v := .ty "tuple") (by rfl) T.n_tuple (by decide +kernel) rfl) pa_nil)))) (pw_and (pt_cmpR (op_neD hr.units) (pv 0) (pe_tup pa_nil) (nomark _)) (pw_and1 (pt_val (pe_callB call_isi (by rfl) T.n_isinstance (by decide +kernel) (pa_cons (pe_ix ix_tup (pv 0) pe_int (fun _ _ => rfl)) (pa_cons (pe_bltn (v := .ty "str") (by rfl) T.n_str (by decide +kernel) rfl) pa_nil)))))))) (pss_one (ps_set (i := 1) sc_equation_of.nd rfl (Or.inl rfl) (pe_call G_made_of (hr.mono (by omega)) rfl T.g_made_of T.F_made_of.kp T.b_made_of .nil pass0 (pa_cons (pv 0) pa_nil)))) pss_nil)
      (pss_cons (ps_if (pt_cmpR op_isN (pv 1) pe_non (nomark _)) (pss_one ps_never) pss_nil)
      (pss_one (ps_ret (pv 1)))))), ?_⟩
    walk_at "ss"
    refine isi (ty_tup ha) kb_tt ?_
    walk_at "ss"
    refine newT fun p1 H1 hp1 e1 g1 => ?_
    obtain ⟨d, ds, hdd⟩ := r.data_cons
    have hdp := (hr3.up e1).dp (K := K) hg
    have hrp := Rw.rp hg
    rw [hdd] at hdp hrp
    refine ne_empty hdp hrp (by decide) g1 ?_
    walk_at "ss"
    refine c_ixT (SqT.of (e1 _ _ ha)) at_hd ?_
    walk_at "ss"
    refine isi (ty_str _) kb_ss ?_
    walk_at "ss"
    refine ⟨_, rfl, .inl ⟨r, hr3.up e1, hg, fun v H2 e2 hv => ?_⟩⟩
    walk_at "ss"
    have nv : decide (v = V.non) = false := by
      obtain ⟨aa, _, _, rfl, _⟩ := hv
      rfl
    rw [nv]
    walk_at "ss"
    exact k _ _ (e1.trans e2) hv

/-! ### plain facts about rows (printed by mk_rowf.py) -/
def Tm.flat : Tm → List Str
  | .nm s => [s]
  | .vl _ => []
  | .two _ a b => a.flat ++ b.flat
  | .nt a => a.flat
  | .pk c a b => c.flat ++ a.flat ++ b.flat
theorem snoc_ind {P : List Str → Prop} (h0 : P []) (h1 : ∀ y n, P y → P (y ++ [n])) : ∀ y, P y := by
  intro y
  have h : ∀ z : List Str, P z.reverse := by
    intro z
    induction z with
    | nil => exact h0
    | cons a z ih => rw [List.reverse_cons]; exact h1 _ _ ih
  have h2 := h y.reverse
  rw [List.reverse_reverse] at h2
  exact h2
theorem once_go (y : List Str) : ∀ (A : List Str), y.foldl (fun acc n => addN acc [n]) A = addN A (once y) := by
  intro A
  refine snoc_ind (P := fun y => y.foldl (fun acc n => addN acc [n]) A = addN A (once y)) ?_ (fun y n ih => ?_) y
  · show A = addN A []
    simp [addN]
  · rw [List.foldl_append, ih, once_app]
    show addN (addN A (once y)) [n] = addN A (addN (once y) [n])
    have m1 : (addN A (once y)).contains n = (A.contains n || (once y).contains n) := by
      rw [Bool.eq_iff_iff, Bool.or_eq_true, List.contains_iff_mem, List.contains_iff_mem, List.contains_iff_mem]
      constructor
      · intro h
        rcases List.mem_append.mp h with h | h
        · exact .inl h
        · exact .inr (List.mem_filter.mp h).1
      · intro h
        by_cases hA : n ∈ A
        · exact List.mem_append_left _ hA
        · rcases h with h | h
          · exact absurd h hA
          · refine List.mem_append_right _ (List.mem_filter.mpr ⟨h, ?_⟩)
            rw [Bool.not_eq_true']
            cases hc : A.contains n with
            | false => rfl
            | true => exact absurd (List.contains_iff_mem.mp hc) hA
    rw [addN_one, addN_one, m1]
    cases h1 : (once y).contains n with
    | true => rw [Bool.or_true, if_pos rfl, if_pos rfl]
    | false =>
      simp only [Bool.or_false, Bool.false_eq_true, ↓reduceIte]
      unfold addN
      rw [List.filter_append]
      cases h2 : A.contains n with
      | true =>
        have h3 : [n].filter (fun m => !A.contains m) = [] := by rw [List.filter_cons, h2]; rfl
        rw [h3, List.append_nil, if_pos rfl]
      | false =>
        have h3 : [n].filter (fun m => !A.contains m) = [n] := by rw [List.filter_cons, h2]; rfl
        rw [h3, if_neg (by decide), List.append_assoc]
theorem once_cat (x y : List Str) : once (x ++ y) = addN (once x) (once y) := by
  have : once (x ++ y) = y.foldl (fun acc n => addN acc [n]) (once x) := by
    unfold once
    rw [List.foldl_append]
  rw [this, once_go]
theorem addN_nil (l : List Str) : addN [] l = l := by
  unfold addN
  rw [List.nil_append]
  exact List.filter_eq_self.mpr fun a _ => rfl
theorem Tm.names_once (t : Tm) : once t.flat = t.names := by
  induction t with
  | nm s => exact addN_nil [s]
  | vl v => rfl
  | two op a b iha ihb =>
    show once (a.flat ++ b.flat) = addN (addN [] a.names) b.names
    rw [once_cat, iha, ihb, addN_nil]
  | nt a iha =>
    show once a.flat = addN [] a.names
    rw [iha, addN_nil]
  | pk c a b ihc iha ihb =>
    show once (c.flat ++ a.flat ++ b.flat) = addN (addN (addN [] c.names) a.names) b.names
    rw [once_cat, once_cat, ihc, iha, ihb, addN_nil]
theorem addN_mem {a b : List Str} {s : Str} (h : s ∈ addN a b) : s ∈ a ∨ s ∈ b := by
  rcases List.mem_append.mp h with h | h
  · exact .inl h
  · exact .inr (List.mem_filter.mp h).1
theorem once_mem {l : List Str} {s : Str} (h : s ∈ once l) : s ∈ l := by
  refine snoc_ind (P := fun l => s ∈ once l → s ∈ l) (fun h => by cases h) (fun y n ih h => ?_) l h
  rw [once_app] at h
  rcases addN_mem h with h | h
  · exact List.mem_append_left _ (ih h)
  · exact List.mem_append_right _ h
theorem once_sub {l : List Str} {s : Str} (h : s ∈ l) : s ∈ once l := by
  revert h
  refine snoc_ind (P := fun l => s ∈ l → s ∈ once l) (fun h => by cases h) (fun y n ih h => ?_) l
  rw [once_app, addN_one]
  rcases List.mem_append.mp h with h | h
  · split
    · exact ih h
    · exact List.mem_append_left _ (ih h)
  · have e : s = n := by simpa using h
    subst e
    split
    · rename_i hc; exact List.contains_iff_mem.mp hc
    · exact List.mem_append_right _ (by simp)
theorem flat_names {t : Tm} {s : Str} (h : s ∈ t.flat) : s ∈ t.names := by rw [← Tm.names_once]; exact once_sub h
theorem names_flat {t : Tm} {s : Str} (h : s ∈ t.names) : s ∈ t.flat := by rw [← Tm.names_once] at h; exact once_mem h
theorem Tm.flat_len (t : Tm) : t.flat.length ≤ 3 ^ t.dep := by
  induction t with
  | nm s => simp [Tm.flat, Tm.dep]
  | vl v => simp [Tm.flat, Tm.dep]
  | two op a b iha ihb =>
    have p1 : 3 ^ a.dep ≤ 3 ^ max a.dep b.dep := Nat.pow_le_pow_right (by decide) (by omega)
    have p2 : 3 ^ b.dep ≤ 3 ^ max a.dep b.dep := Nat.pow_le_pow_right (by decide) (by omega)
    have e : 3 ^ (1 + max a.dep b.dep) = 3 * 3 ^ max a.dep b.dep := by rw [Nat.pow_add]
    show (a.flat ++ b.flat).length ≤ 3 ^ (1 + max a.dep b.dep)
    rw [e, List.length_append]
    omega
  | nt a iha =>
    have e : 3 ^ (1 + a.dep) = 3 * 3 ^ a.dep := by rw [Nat.pow_add]
    show a.flat.length ≤ 3 ^ (1 + a.dep)
    rw [e]
    omega
  | pk c a b ihc iha ihb =>
    have p0 : 3 ^ c.dep ≤ 3 ^ max (max c.dep a.dep) b.dep := Nat.pow_le_pow_right (by decide) (by omega)
    have p1 : 3 ^ a.dep ≤ 3 ^ max (max c.dep a.dep) b.dep := Nat.pow_le_pow_right (by decide) (by omega)
    have p2 : 3 ^ b.dep ≤ 3 ^ max (max c.dep a.dep) b.dep := Nat.pow_le_pow_right (by decide) (by omega)
    have e : 3 ^ (1 + max (max c.dep a.dep) b.dep) = 3 * 3 ^ max (max c.dep a.dep) b.dep := by rw [Nat.pow_add]
    show (c.flat ++ a.flat ++ b.flat).length ≤ 3 ^ (1 + max (max c.dep a.dep) b.dep)
    rw [e, List.length_append, List.length_append]
    omega
theorem flat_729 {t : Tm} (h : t.dep ≤ 6) : t.flat.length ≤ 729 := by
  have h1 := t.flat_len
  have h2 : 3 ^ t.dep ≤ 3 ^ 6 := Nat.pow_le_pow_right (by decide) h
  have e : (3 : Nat) ^ 6 = 729 := rfl
  omega
def Beh (K : PySem.W.Frag) (H : Hp) : Option Tm → V → Prop
  | some q, v => ToldAt H q v
  | none, v => (∃ s, v = .str s) ∨ isVal v = true
def Tm.beh : Tm → List (Option Tm)
  | .nm _ => []
  | .vl _ => [none]
  | .two _ a b => [none, some a, some b]
  | .nt a => [some a]
  | .pk c a b => [some c, some a, some b]
def flatO : List (Option Tm) → List Str
  | [] => []
  | some q :: l => q.flat ++ flatO l
  | none :: l => flatO l
theorem flatO_app (l : List (Option Tm)) (o : Option Tm) : flatO (l ++ [o]) = flatO l ++ (match o with | some q => q.flat | none => []) := by
  induction l with
  | nil => cases o <;> simp [flatO]
  | cons a l ih => cases a <;> simp [flatO, ih]
theorem Tm.flat_beh (t : Tm) (h : ∀ s, t ≠ .nm s) : flatO t.beh = t.flat := by
  cases t with
  | nm s => exact absurd rfl (h s)
  | vl v => rfl
  | two op a b => simp [Tm.beh, flatO, Tm.flat]
  | nt a => simp [Tm.beh, flatO, Tm.flat]
  | pk c a b => simp [Tm.beh, flatO, Tm.flat]
theorem told_beh {H : Hp} {t : Tm} {u : V} (h : ToldAt H t u) (hg : t.good) (hn : ∀ s, t ≠ .nm s) : ∃ (a : Addr) (w : Str) (xs : List V), u = .ref a ∧ H a = some (.tup (.str w :: xs)) ∧ w ≠ "name" ∧ xs.length = t.beh.length ∧ cutV (.str w :: xs) (some 1) none = xs ∧ xs ≠ [] ∧
    (∀ (i : Nat) (v : V), xs[i]? = some v → ∃ o, t.beh[i]? = some o ∧ Beh K H o v) ∧ ∀ q, some q ∈ t.beh → q.good ∧ q.dep + 1 ≤ t.dep := by
  have i2 : ∀ {x y v : V} {o p : Option Tm}, Beh K H o x → Beh K H p y → ∀ i : Nat, ([x, y] : List V)[i]? = some v → ∃ z, ([o, p] : List (Option Tm))[i]? = some z ∧ Beh K H z v := by
    intro x y v o p h1 h2 i hv
    match i, hv with
    | 0, hv => cases hv; exact ⟨_, rfl, h1⟩
    | 1, hv => cases hv; exact ⟨_, rfl, h2⟩
  have i3 : ∀ {x y z v : V} {o p q : Option Tm}, Beh K H o x → Beh K H p y → Beh K H q z → ∀ i : Nat, ([x, y, z] : List V)[i]? = some v → ∃ r, ([o, p, q] : List (Option Tm))[i]? = some r ∧ Beh K H r v := by
    intro x y z v o p q h1 h2 h3 i hv
    match i, hv with
    | 0, hv => cases hv; exact ⟨_, rfl, h1⟩
    | 1, hv => cases hv; exact ⟨_, rfl, h2⟩
    | 2, hv => cases hv; exact ⟨_, rfl, h3⟩
  cases t with
  | nm s => exact absurd rfl (hn s)
  | vl x =>
    obtain ⟨a, rfl, ha⟩ := h
    refine ⟨a, _, _, rfl, ha, by decide +kernel, rfl, rfl, by simp, fun i v hv => ?_, fun q hq => by simp [Tm.beh] at hq⟩
    match i, hv with
    | 0, hv => cases hv; exact ⟨none, rfl, .inr hg⟩
  | two op p q =>
    obtain ⟨a, v1, v2, rfl, ha, h1, h2⟩ := h
    refine ⟨a, _, _, rfl, ha, by decide +kernel, rfl, rfl, by simp, fun i v hv => i3 (o := none) (p := some p) (q := some q) (.inl ⟨_, rfl⟩) h1 h2 i hv, fun z hz => ?_⟩
    simp only [Tm.beh, List.mem_cons, reduceCtorEq, Option.some.injEq, List.not_mem_nil, or_false, false_or] at hz
    rcases hz with rfl | rfl
    · exact ⟨hg.2.1, Tm.dep_part (by simp [Tm.parts])⟩
    · exact ⟨hg.2.2, Tm.dep_part (by simp [Tm.parts])⟩
  | nt p =>
    obtain ⟨a, v1, rfl, ha, h1⟩ := h
    refine ⟨a, _, _, rfl, ha, by decide +kernel, rfl, rfl, by simp, fun i v hv => ?_, fun z hz => ?_⟩
    · match i, hv with
      | 0, hv => cases hv; exact ⟨some p, rfl, h1⟩
    · simp only [Tm.beh, List.mem_cons, Option.some.injEq, List.not_mem_nil, or_false] at hz
      subst hz
      exact ⟨hg, Tm.dep_part (by simp [Tm.parts])⟩
  | pk c p q =>
    obtain ⟨a, v0, v1, v2, rfl, ha, h0, h1, h2⟩ := h
    refine ⟨a, _, _, rfl, ha, by decide +kernel, rfl, rfl, by simp, fun i v hv => i3 (o := some c) (p := some p) (q := some q) h0 h1 h2 i hv, fun z hz => ?_⟩
    simp only [Tm.beh, List.mem_cons, Option.some.injEq, List.not_mem_nil, or_false] at hz
    rcases hz with rfl | rfl | rfl
    · exact ⟨hg.1, Tm.dep_part (by simp [Tm.parts])⟩
    · exact ⟨hg.2.1, Tm.dep_part (by simp [Tm.parts])⟩
    · exact ⟨hg.2.2, Tm.dep_part (by simp [Tm.parts])⟩
theorem kb_st : kitB "str" "tuple" = some false := by decide +kernel
theorem kb_it : kitB "int" "tuple" = some false := by decide +kernel
theorem kb_bt : kitB "bool" "tuple" = some false := by decide +kernel
theorem beh_none {H : Hp} {v : V} (h : Beh K H none v) : ∃ n : String, TyX K H v (.type n) ∧ kitB n "tuple" = some false := by
  rcases h with ⟨s, rfl⟩ | h
  · exact ⟨_, ty_str s, kb_st⟩
  · cases v with
    | bl b => exact ⟨_, ty_bl b, kb_bt⟩
    | int i => exact ⟨_, ty_int i, kb_it⟩
    | _ => exact absurd h Bool.false_ne_true
theorem Told_tup {H : Hp} {t : Tm} {v : V} (h : ToldAt H t v) : ∃ a xs, v = .ref a ∧ H a = some (.tup xs) := by
  cases t with
  | nm s => obtain ⟨a, h1, h2⟩ := h; exact ⟨a, _, h1, h2⟩
  | vl s => obtain ⟨a, h1, h2⟩ := h; exact ⟨a, _, h1, h2⟩
  | two op p q => obtain ⟨a, _, _, h1, h2, _⟩ := h; exact ⟨a, _, h1, h2⟩
  | nt p => obtain ⟨a, _, h1, h2, _⟩ := h; exact ⟨a, _, h1, h2⟩
  | pk c p q => obtain ⟨a, _, _, _, h1, h2, _⟩ := h; exact ⟨a, _, h1, h2⟩
theorem nat_pow6 {t : Tm} (l : List (Option Tm)) (h : ∀ q, some q ∈ l → q.dep ≤ 6) (hl : l.length ≤ 3) : (flatO l).length ≤ l.length * 729 := by
  induction l with
  | nil => simp [flatO]
  | cons o l ih =>
    have ih' := ih (fun q hq => h q (List.mem_cons_of_mem _ hq)) (by rw [List.length_cons] at hl; omega)
    cases o with
    | none => simp only [flatO, List.length_cons, Nat.succ_mul]; omega
    | some q =>
      have := flat_729 (h q List.mem_cons_self)
      simp only [flatO, List.length_append, List.length_cons, Nat.succ_mul]
      omega
theorem beh_len (t : Tm) : t.beh.length ≤ 3 := by cases t <;> simp [Tm.beh]
theorem RowAt.tu {H H2 : Hp} (e : ∀ a xs, H a = some (.tup xs) → H2 a = some (.tup xs)) {r : Rw} {u : V} (h : RowAt H r u) : RowAt H2 r u := by
  cases r with
  | pl n t => obtain ⟨a, w, h1, h2, h3⟩ := h; exact ⟨a, w, h1, e _ _ h2, h3.keep e⟩
  | vd k n v x => obtain ⟨a, h1, h2⟩ := h; exact ⟨a, h1, e _ _ h2⟩
  | wh n x y => obtain ⟨a, h1, h2⟩ := h; exact ⟨a, h1, e _ _ h2⟩
  | sm ns => obtain ⟨a, p, h1, h2, h3⟩ := h; exact ⟨a, p, h1, e _ _ h2, e _ _ h3⟩
  | cl os nd xs => obtain ⟨a, p, q, h1, h2, h3, h4⟩ := h; exact ⟨a, p, q, h1, e _ _ h2, e _ _ h3, e _ _ h4⟩
theorem str_ok {l : List Str} (h : ∀ s ∈ l, goodN s) : (l.map V.str).all okV = true := by
  rw [List.all_eq_true]
  intro x hx
  obtain ⟨s, hs, rfl⟩ := List.mem_map.mp hx
  exact okT_V (h s hs).2.2
theorem Tm.good_flat : ∀ {t : Tm}, t.good → ∀ s ∈ t.flat, goodN s := by
  intro t
  induction t with
  | nm z => intro g s hs; have : s = z := (by simpa [Tm.flat] using hs); rw [this]; exact g
  | vl v => intro _ s hs; cases hs
  | two op a b iha ihb => intro g s hs; exact (List.mem_append.mp hs).elim (iha g.2.1 s) (ihb g.2.2 s)
  | nt a iha => intro g s hs; exact iha g s hs
  | pk c a b ihc iha ihb => intro g s hs; exact (List.mem_append.mp hs).elim (fun h => (List.mem_append.mp h).elim (ihc g.1 s) (iha g.2.1 s)) (ihb g.2.2 s)
theorem Rw.good_all {r : Rw} (g : r.good) : ∀ s ∈ r.all, goodN s := by
  intro s hs
  cases r with
  | pl n t =>
    rcases List.mem_append.mp hs with h | h
    · have : s = n := by simpa [Rw.tells] using h
      rw [this]; exact g.1
    · exact Tm.good_flat g.2.1 s (names_flat h)
  | vd k n v x =>
    rcases List.mem_append.mp hs with h | h
    · have : s = n := by simpa [Rw.tells] using h
      rw [this]; exact g.2.1
    · have : s = x := by simpa [Rw.names] using h
      rw [this]; exact g.2.2.2
  | wh n x y =>
    rcases List.mem_append.mp hs with h | h
    · have : s = n := by simpa [Rw.tells] using h
      rw [this]; exact g.1
    · have h2 : s ∈ [x, y] := once_mem h
      simp only [List.mem_cons, List.not_mem_nil, or_false] at h2
      rcases h2 with rfl | rfl
      · exact g.2.1
      · exact g.2.2
  | sm ns =>
    rcases List.mem_append.mp hs with h | h
    · cases h
    · exact g.2.2 s (once_mem h)
  | cl os nd xs =>
    rcases List.mem_append.mp hs with h | h
    · exact g.2.2.1 s h
    · exact g.2.2.2.2.2.2 s (once_mem h)
theorem eqL_strs : ∀ {F : List Str}, eqL (F.map V.str) (F.map V.str) = true
  | [] => rfl
  | a :: F => by
    rw [List.map_cons, eqL, eqL_strs, Bool.and_true]
    show (a == a) = true
    exact beq_self_eq_true a
theorem Rw.all_len {r : Rw} (g : r.good) : r.all.length ≤ 1000 := by
  unfold Rw.all
  rw [List.length_append]
  cases r with
  | pl n t => have := names_729 (t := t) (by have := g.2.2; omega); simp only [Rw.tells, Rw.names, List.length_cons, List.length_nil]; omega
  | vd k n v x => simp [Rw.tells, Rw.names]
  | wh n x y => have := once_len [x, y]; simp only [Rw.tells, Rw.names, List.length_cons, List.length_nil] at this ⊢; omega
  | sm ns => have := once_len ns; have := g.2.1; simp only [Rw.tells, Rw.names, List.length_nil]; omega
  | cl os nd xs => have := once_len xs; have := g.2.1; have := g.2.2.2.2.2.1; simp only [Rw.tells, Rw.names]; omega

/-! ### nodes: the plain side -/
open TL (tl)
theorem kb_tl : kitB "tuple" "list" = some false := by decide +kernel
theorem kb_ll : kitB "list" "list" = some true := by decide +kernel
/-- isinstance(x, (list, tuple)) -/
theorem isiLT {H : Hp} {Q : VK} {x : V} {tp : Addr} (h : TyX K H x (.type "tuple") ∨ TyX K H x (.type "list")) (ht : H tp = some (.tup [.ty "list", .ty "tuple"])) (q : Q (.bl true) H) : rIsiT K [x, .ref tp] H Q := by
  rcases h with h | h
  · refine ⟨x, tp, _, _, [.type "list", .type "tuple"], _, rfl, ht, .cons (.ty _) (.cons (.ty _) .nil), h, ?_, q⟩
    exact kitAny_cons (kit_ty kb_tl) (fun _ => kitAny_cons (kit_ty kb_tt) (fun z => by cases z) (fun _ => rfl)) (fun z => by cases z)
  · refine ⟨x, tp, _, _, [.type "list", .type "tuple"], _, rfl, ht, .cons (.ty _) (.cons (.ty _) .nil), h, ?_, q⟩
    exact kitAny_cons (kit_ty kb_ll) (fun z => by cases z) (fun _ => rfl)
theorem forT {H : Hp} {σ : St} {D : Ends} {g : L2.TG} {tb : TS} {a : Addr} {xs : List V} (Pv : Nat → St → Hp → Prop) (h0 : Pv 0 σ H) (hl : ∀ i σ' H', i ≤ xs.length → Pv i σ' H' → SqT K H' a xs)
    (hs : ∀ i x σ' H', xs[i]? = some x → Pv i σ' H' → g x σ' H' fun σ2 H2 => tb { D with nx := Pv (i + 1), ct := Pv (i + 1), bk := D.nx } σ2 H2) (hd : ∀ σ' H', Pv xs.length σ' H' → D.nx σ' H') : ForI (Itt K a) g tb D σ H := for_tup Pv h0 hl hs hd
theorem nodup_take {l : List Str} {i : Nat} {s : Str} (h : (l.take i).Nodup) (hs : l[i]? = some s) (hn : s ∉ l.take i) : (l.take (i + 1)).Nodup := by
  rw [List.take_add_one, hs, List.nodup_append]
  refine ⟨h, by simp, fun a ha b hb e => hn ?_⟩
  have : b = s := by simpa using hb
  rw [← this, ← e]
  exact ha
/-! a list or a tuple of these -/
def sqO (kb : Bool) (xs : List V) : HO := cond kb (.lst xs) (.tup xs)
def iLTn (K : PySem.W.Frag) (t : L2.TE) : L2.TI := fun σ H R => iList K t σ H R ∨ iTup K t σ H R
theorem pi_ltn {X : Cx} {tg e : Expr} {t : L2.TE} (h : PE X e t) : PI X tg e (iLTn X.K t) := ⟨fun pins s σ H R I hw => hw.elim (fun q => (pi_list h).run pins s σ H R I q) fun q => (pi_tup h).run pins s σ H R I q⟩
theorem c_forX {kb : Bool} {H : Hp} {σ : St} {D : Ends} {g : L2.TG} {tb : TS} {t : L2.TE} {a : Addr} {xs : List V} (ht : ∀ Q : VK, Q (.ref a) H → t σ H Q) (hx : H a = some (sqO kb xs)) (Pv : Nat → St → Hp → Prop) (h0 : Pv 0 σ H) (hl : ∀ i σ' H', i ≤ xs.length → Pv i σ' H' → H' a = some (sqO kb xs))
    (hs : ∀ i x σ' H', xs[i]? = some x → Pv i σ' H' → g x σ' H' fun σ2 H2 => tb { D with nx := Pv (i + 1), ct := Pv (i + 1), bk := D.nx } σ2 H2) (hd : ∀ σ' H', Pv xs.length σ' H' → D.nx σ' H') : tFor (iLTn K t) g tb D σ H := by
  cases kb with
  | true => exact Or.inl (ht _ ⟨a, rfl, ⟨_, SqL.of hx⟩, for_list Pv h0 (fun i σ' H' h p => SqL.of (hl i σ' H' h p)) hs hd⟩)
  | false => exact Or.inr (ht _ ⟨a, rfl, ⟨_, SqT.of hx⟩, for_tup Pv h0 (fun i σ' H' h p => SqT.of (hl i σ' H' h p)) hs hd⟩)
theorem isiB {H : Hp} {Q : VK} {kb : Bool} {p : Addr} {xs : List V} {tp : Addr} (h : H p = some (sqO kb xs)) (ht : H tp = some (.tup [.ty "list", .ty "tuple"])) (q : Q (.bl true) H) : rIsiT K [.ref p, .ref tp] H Q := by
  cases kb with
  | true => exact isiLT (.inr (ty_lst h)) ht q
  | false => exact isiLT (.inl (ty_tup h)) ht q
theorem sqB {H : Hp} {kb : Bool} {p : Addr} {xs : List V} (h : H p = some (sqO kb xs)) : SqL K H p xs ∨ SqT K H p xs := by
  cases kb with
  | true => exact .inl (SqL.of h)
  | false => exact .inr (SqT.of h)
/-! unlike names -/
def sp_need_names : Sp := fun vs H Q _ => ∃ (p : Addr) (ns : List Str) (kb : Bool), vs = [.ref p] ∧ H p = some (sqO kb (ns.map V.str)) ∧ 0 < ns.length ∧ ns.length ≤ 300 ∧ (∀ s ∈ ns, goodN s) ∧ ns.Nodup ∧ RetV .non H Q
theorem ok_need_names (T : Txt K mg Z) : FnOk P w K mg base CX0 3 Z.f_need_names Z.fd_need_names ["things"] sp_need_names := by
  have G_is_pointed := ok_is_pointed (P := P) (w := w) (base := base) T
  refine T.F_need_names.ok sc_need_names (fun vs H Q E h => ?_) (fun cdv AA outer s H vs Q E hr h => ?_)
  · obtain ⟨p, ns, kb, rfl, _⟩ := h
    rfl
  · obtain ⟨p, ns, kb, rfl, gp, h0, hl, hg, hnd, k⟩ := h
    refine ⟨_, (pss_cons (ps_if (PW.pt (pw_or (pt_not (pt_val (pe_callB call_isiT (by rfl) T.n_isinstance (by decide +kernel) (pa_cons (pv 0) (pa_cons (pe_tup (pa_cons (pe_bltn (v := .ty "list") (by rfl) T.n_list (by decide +kernel) rfl) (pa_cons (pe_bltn (v := .ty "tuple") (by rfl) T.n_tuple (by decide +kernel) rfl) pa_nil))) pa_nil))))) (pw_or1 (pt_cmpR op_eq (pe_callB call_len_seq (by rfl) T.n_len (by decide +kernel) (pa_cons (pv 0) pa_nil)) pe_int (nomark _))))) (pss_one ps_never) pss_nil)
      (pss_cons (ps_set (i := 1) sc_need_names.nd rfl (Or.inl rfl) pe_dnewK)
      (pss_one (ps_for PassesOwn.never rfl (pi_ltn (pv 0)) (pg_name (i := 2) sc_need_names.nd rfl (Or.inl rfl)) (pss_cons (ps_if (pt_not (pt_val (pe_call G_is_pointed (hr.mono (by omega)) rfl T.g_is_pointed T.F_is_pointed.kp T.b_is_pointed .nil pass0 (pa_cons (pv 2) pa_nil)))) (pss_one ps_never) pss_nil)
      (pss_cons (ps_if (pt_cmpR (op_inDk (hu_of hr)) (pv 2) (pv 1) (by rfl)) (pss_one ps_never) pss_nil)
      (pss_one (ps_dput (hu_of hr) (pv 1) (pv 2) pe_bl rfl)))))))), ?_⟩
    walk_at "ss"
    refine newT fun tp H1 htp e1 g1 => ?_
    walk_at "ss"
    refine isiB (e1 _ _ gp) g1 ?_
    walk_at "ss"
    refine ⟨p, _, rfl, sqB (e1 _ _ gp), ?_⟩
    walk_at "ss"
    rw [List.length_map]
    refine if_ff (decide_eq_false (fun z => by have := V.int.inj z; omega)) ?_
    walk_at "ss"
    intro ad had
    have e2 : Ex H1 (upd H1 ad (.dK [])) := Ex.new had
    have g2 : upd H1 ad (.dK []) ad = some (.dK []) := upd_same
    generalize upd H1 ad (.dK []) = H2 at e2 g2
    have e12 := e1.trans e2
    have hadH : H ad = none := fresh_back e1 had
    walk_at "ss"
    refine c_forX (a := p) (fun _ q => c_var (by with_unfolding_all rfl) q) (e12 _ _ gp) (xs := ns.map V.str) (fun i σ' G => (∃ v2, σ' = [some (.ref p), some (.ref ad), v2]) ∧ Ex H G ∧ ∃ ka, G ad = some (.dK ka) ∧ ka.length ≤ i ∧ ∀ z, (valV ka (.inr z)).isSome = decide (z ∈ ns.take i)) ⟨⟨_, rfl⟩, e12, [], g2, Nat.le_refl _, fun z => by simp [valV]⟩ (fun i σ' G _ q => q.2.1 _ _ gp) ?_ ?_
    · rintro i x σ' G hx ⟨⟨v2, rfl⟩, eG, ka, ga, hkl, hka⟩
      rw [List.getElem?_map] at hx
      obtain ⟨s, hs, rfl⟩ := Option.map_eq_some_iff.mp hx
      have hil := (List.getElem?_eq_some_iff.mp hs).1
      have hgs := hg s (List.mem_of_getElem? hs)
      have hsl := hgs.2.1
      have hm : s ∉ ns.take i := fun z => nodup_at hnd hs z (Nat.le_refl _) rfl
      walk_at "ss"
      refine ⟨_, rfl, .inl ⟨s, rfl, by omega, fun H3 e3 => ?_⟩⟩
      rw [hgs.1]
      walk_at "ss"
      refine ⟨ad, _, rfl, dgetK (e3 _ _ ga), ?_⟩
      walk_at "ss"
      rw [hka]
      refine if_ff (decide_eq_false hm) ?_
      walk_at "ss"
      refine ⟨ad, _, rfl, .inl ⟨ka, .inr s, e3 _ _ ga, rfl, Evl.sz_lt (by omega), rfl⟩, ?_⟩
      walk_at "ss"
      have hpl := putK_len ka (.inr s) (.bl true)
      refine ⟨⟨_, rfl⟩, Ex.mut (eG.trans e3) hadH, _, upd_same, by omega, fun z => ?_⟩
      rw [valV_put, List.take_add_one, hs]
      by_cases hz : z = s
      · rw [if_pos (by rw [hz])]
        simp [hz]
      · rw [if_neg (fun e => hz (Sum.inr.inj e)), hka]
        congr 1
        simp [hz]
    · rintro σ' G ⟨⟨v2, rfl⟩, eG, ka, ga, hkl, hka⟩
      walk_at "ss"
      exact k _ eG
/-! the rows -/
def sp_equations_of (Z : Adr) : Sp := fun vs H Q _ => ∃ (p : Addr) (rs : List Rw) (us : List V) (kb : Bool), vs = [.ref p] ∧ H p = some (sqO kb us) ∧ Paired (RowAt H) rs us ∧ rs.length ≤ 300 ∧ (∀ r ∈ rs, r.good ∧ (r.kind = 0 → r.names ≠ [])) ∧
  ∀ l evs H2, H l = none → Ex H H2 → H2 l = some (.lst evs) → Paired (fun r (q : V × V) => EqAt Z H2 r q.1 q.2) rs (evs.zip us) → evs.length = us.length → Q (.ref l) H2
theorem paired_ix {α β : Type} {F : α → β → Prop} : ∀ {l : List α} {m : List β}, Paired F l m → ∀ {i : Nat} {b : β}, m[i]? = some b → ∃ a, l[i]? = some a ∧ F a b
  | _, _, .nil, i, b, h => by simp at h
  | _, _, .cons (a := a0) (b := b0) p q, 0, b, h => by
    have e : b0 = b := by simpa using h
    subst e
    exact ⟨a0, rfl, p⟩
  | _, _, .cons p q, i + 1, b, h => by
    obtain ⟨a, h1, h2⟩ := paired_ix q (i := i) (b := b) (by simpa using h)
    exact ⟨a, by simpa using h1, h2⟩
theorem EqAt.cls {H : Hp} {r : Rw} {v u : V} (h : EqAt Z H r v u) : ∃ a dx fs, v = .ref a ∧ H a = some (.ins (clsK Z r.kind) dx fs) ∧ MCE Z (clsK Z r.kind) ∧ offE fs := by
  obtain ⟨a, dx, fs, h1, h2, _, _, h5, _⟩ := h
  exact ⟨a, dx, fs, h1, h2, ⟨_, r.kind_lt, rfl⟩, h5.1⟩
theorem row_names_good {r : Rw} (g : r.good) : ∀ s ∈ r.names, goodN s := fun s hs => Rw.good_all g s (List.mem_append_right _ hs)
theorem row_tells_good {r : Rw} (g : r.good) : ∀ s ∈ r.tells, goodN s := fun s hs => Rw.good_all g s (List.mem_append_left _ hs)
theorem re_term0 {r : Rw} {v u : V} {H : Hp} {Q : VK} (hk : r.kind ≠ 0) (q : Q .non H) : Re_term Z r v u H Q := by
  cases r with
  | pl n t => exact absurd rfl hk
  | _ => exact q
theorem re_term1 {r : Rw} {v u : V} {H : Hp} {Q : VK} (hk : r.kind = 0) (q : ∀ a, Q (.ref a) H) : Re_term Z r v u H Q := by
  cases r with
  | pl n t =>
    intro tv htv
    obtain ⟨a, dx, fs, rfl, _⟩ := htv.cls
    exact q a
  | vd k n v x => rcases k with _ | _ | k <;> cases hk
  | _ => cases hk
theorem paired_take {α β : Type} {F : α → β → Prop} : ∀ {l : List α} {m : List β}, Paired F l m → ∀ i : Nat, Paired F (l.take i) (m.take i)
  | _, _, .nil, i => by simp; exact .nil
  | _, _, .cons p q, 0 => .nil
  | _, _, .cons p q, i + 1 => .cons p (paired_take q i)
theorem ok_equations_of (T : Txt K mg Z)  : FnOk P w K mg base CX0 (26) Z.f_equations_of Z.fd_equations_of ["rows"] (sp_equations_of Z) := by
  have G_equation_of := ok_equation_of (P := P) (w := w) (base := base) T
  refine T.F_equations_of.ok sc_equations_of (fun vs H Q E h => ?_) (fun cdv AA outer s H vs Q E hr h => ?_)
  · obtain ⟨p, rs, us, kb, rfl, _⟩ := h
    rfl
  · obtain ⟨p, rs, us, kb, rfl, gp, hp, hl, hg, k⟩ := h
    have GME_term := gmE_term (P := P) (w := w) (base := base) T
    have GME_names := gmE_names (P := P) (w := w) (base := base) T
    refine ⟨_, (pss_cons (ps_if (pt_not (pt_val (pe_callB call_isiT (by rfl) T.n_isinstance (by decide +kernel) (pa_cons (pv 0) (pa_cons (pe_tup (pa_cons (pe_bltn (v := .ty "list") (by rfl) T.n_list (by decide +kernel) rfl) (pa_cons (pe_bltn (v := .ty "tuple") (by rfl) T.n_tuple (by decide +kernel) rfl) pa_nil))) pa_nil))))) (pss_one ps_never) pss_nil)
      (pss_cons (ps_set (i := 1) sc_equations_of.nd rfl (Or.inl rfl) (pe_lst pa_nil))
      (pss_cons (ps_for PassesOwn.never rfl (pi_ltn (pv 0)) (pg_name (i := 2) sc_equations_of.nd rfl (Or.inl rfl)) (pss_cons (ps_set (i := 3) sc_equations_of.nd rfl (Or.inl rfl) (pe_call G_equation_of (hr.mono (by omega)) rfl T.g_equation_of T.F_equation_of.kp T.b_equation_of .nil pass0 (pa_cons (pv 2) pa_nil)))
      (Evl.pss_cut (ps_if (PW.pt (pw_and (pt_cmpR op_notN (pe_methP0 (pv 3) GME_term (hr.mono (by omega)) pass0) pe_non (nomark _)) (pw_and1 (pt_cmpR (op_eqD hr.units) (pe_methP0 (pv 3) GME_names (hr.mono (by omega)) pass0) (pe_lst pa_nil) (nomark _))))) (pss_one ps_never) pss_nil)
      (pss_one (ps_expr (pe_bm PySem.F.plainAttrs_list PySem.F.slot_list_append PySem.F.type_list_append mt_append (pv 1) (pa_cons (pv 3) pa_nil)))))))
      (pss_one (ps_ret (pv 1)))))), ?_⟩
    walk_at "ss"
    refine newT fun tp H1 htp e1 g1 => ?_
    walk_at "ss"
    refine isiB (e1 _ _ gp) g1 ?_
    walk_at "ss"
    refine newL fun fd H2 hfd e2 g2 => ?_
    have e12 := e1.trans e2
    have hfdH : H fd = none := fresh_back e1 hfd
    walk_at "ss"
    refine c_forX (a := p) (fun _ q => c_var (by with_unfolding_all rfl) q) (e12 _ _ gp) (xs := us) (fun i σ' G => (∃ v2 v3, σ' = [some (.ref p), some (.ref fd), v2, v3]) ∧ Ex H G ∧ ∃ evs, G fd = some (.lst evs) ∧ evs.length = i ∧ Paired (fun r (q : V × V) => EqAt Z G r q.1 q.2) (rs.take i) (evs.zip (us.take i))) ⟨⟨_, _, rfl⟩, e12, [], g2, rfl, .nil⟩ (fun i σ' G _ q => q.2.1 _ _ gp) ?_ ?_
    · rintro i x σ' G hx ⟨⟨v2, v3, rfl⟩, eG, evs, gf, hel, hpr⟩
      obtain ⟨r, hr2, hR⟩ := paired_ix hp hx
      obtain ⟨hgr, hpl⟩ := hg r (List.mem_of_getElem? hr2)
      have hil := (List.getElem?_eq_some_iff.mp hr2).1
      walk_at "ss"
      refine ⟨r, x, rfl, hR.up eG, hgr, fun v H3 e3 hE => ?_⟩
      walk_at "ss"
      obtain ⟨a, dx, fs, rfl, ha, hM, o1, o2, o3, o4, o5⟩ := hE.cls
      refine c_cut (M := fun σ' G' => σ' = [some (.ref p), some (.ref fd), some x, some (.ref a)] ∧ Ex H3 G') ?_ ?_
      · walk_at "ss"
        refine ⟨a, _, dx, fs, rfl, ha, hM, o4, ?_⟩
        walk_at "ss"
        refine ⟨r, _, _, rfl, hE, hgr, rfl, ?_⟩
        by_cases hk0 : r.kind = 0
        · refine re_term1 hk0 fun tv => ?_
          walk_at "ss"
          refine if_tt (by rfl) ?_
          walk_at "ss"
          refine ⟨a, _, dx, fs, rfl, ha, hM, o3, ?_⟩
          walk_at "ss"
          refine ⟨r, _, _, rfl, hE, hgr, rfl, fun l2 H4 hl2 e4 g4 => ?_⟩
          walk_at "ss"
          refine newL fun l3 H5 hl3 e5 g5 => ?_
          have hno : r.names ≠ [] := hpl hk0
          have hok : (r.names.map V.str).all okV = true := by
            rw [List.all_eq_true]
            intro y hy
            obtain ⟨s, hs, rfl⟩ := List.mem_map.mp hy
            exact okT_V (row_names_good hgr s hs).2.2
          refine c_eqLs (SqL.of (e5 _ _ g4)) (SqL.of g5) hok rfl ?_
          have hf : eqL (r.names.map V.str) [] = false := by
            cases hn : r.names with
            | nil => exact absurd hn hno
            | cons a l => rfl
          rw [hf]
          walk_at "ss"
          exact e4.trans e5
        · refine re_term0 hk0 ?_
          walk_at "ss"
          refine if_ff (by rfl) ?_
          walk_at "ss"
          exact Ex.refl _
      · rintro σ' G4 ⟨rfl, e4⟩
        have e34 := e3.trans e4
        walk_at "ss"
        refine ⟨.inl ⟨rfl, _, SqL.of (e34 _ _ gf)⟩, ?_⟩
        walk_at "ss"
        refine ⟨fd, _, _, rfl, rfl, e34 _ _ gf, Evl.sz_lt (by omega), ?_⟩
        walk_at "ss"
        have NU : NL G4 (upd G4 fd (.lst (evs ++ [.ref a]))) := NL.upd (e34 _ _ gf)
        refine ⟨⟨_, _, rfl⟩, Ex.mut (eG.trans e34) hfdH, evs ++ [.ref a], upd_same, by rw [List.length_append, hel]; rfl, ?_⟩
        have hul : (us.take i).length = i := by
          rw [List.length_take]
          have := (List.getElem?_eq_some_iff.mp hx).1
          omega
        rw [List.take_add_one, hr2, List.take_add_one, hx]
        show Paired _ (rs.take i ++ [r]) ((evs ++ [V.ref a]).zip (us.take i ++ [x]))
        rw [List.zip_append (by rw [hel, hul])]
        exact paired_snoc (b := (V.ref a, x)) ((hE.up e4).nl NU) (paired_up (fun r q h => (h.up e34).nl NU) hpr)
    · rintro σ' G ⟨⟨v2, v3, rfl⟩, eG, evs, gf, hel, hpr⟩
      walk_at "ss"
      have hlen := paired_len hp
      rw [List.take_length, List.take_of_length_le (by omega)] at hpr
      exact k fd evs G hfdH eG gf hpr hel

/-! ### the class of nodes -/
open TL (tl)
structure Nd where
  nm : Str
  ins : List Str
  outs : List Str
  rows : List Rw
def Nd.told (n : Nd) : List Str := n.rows.flatMap Rw.tells
def Nd.names (n : Nd) : List Str := n.ins ++ n.told
structure Nd.good (n : Nd) : Prop where
  nm : isName n.nm = true ∧ n.nm.length ≤ 8 ∧ OkT n.nm
  in0 : 0 < n.ins.length
  in1 : n.ins.length ≤ 300
  inG : ∀ s ∈ n.ins, goodN s
  out0 : 0 < n.outs.length
  out1 : n.outs.length ≤ 300
  outG : ∀ s ∈ n.outs, goodN s ∧ s ∈ n.told
  outN : n.outs.Nodup
  all : n.names.Nodup
  all1 : n.names.length ≤ 1000
  row1 : n.rows.length ≤ 300
  row : ∀ r ∈ n.rows, r.good ∧ (r.kind = 0 → r.names ≠ []) ∧ ∀ s ∈ r.names, s ∈ n.names
def nfs (nm : Str) (li lo lr td : Addr) : List (Str × V) := [("name", .str nm), ("kept_inputs", .ref li), ("kept_outs", .ref lo), ("kept_rows", .ref lr), ("tellers", .ref td)]
/-- who tells each name -/
def telR (rs : List Rw) (evs : List V) : List (Key × V) := (rs.zip evs).flatMap fun p => p.1.tells.map fun s => ((.inr s : Key), p.2)
def telK (ins : List Str) (rs : List Rw) (evs : List V) : List (Key × V) := (ins.map fun s => ((.inr s : Key), V.non)) ++ telR rs evs
/-- the thing v is the node n -/
def NdAt (Z : Adr) (H : Hp) (n : Nd) (v : V) : Prop := ∃ a dx li lo lr td evs us, v = .ref a ∧ H a = some (.ins Z.c_Node dx (nfs n.nm li lo lr td)) ∧ H li = some (.lst (n.ins.map V.str)) ∧ H lo = some (.lst (n.outs.map V.str)) ∧ H lr = some (.lst evs) ∧ H td = some (.dK (telK n.ins n.rows evs)) ∧ Paired (fun r (q : V × V) => EqAt Z H r q.1 q.2) n.rows (evs.zip us) ∧ evs.length = us.length
theorem NdAt.up {H H2 : Hp} {n : Nd} {v : V} (h : NdAt Z H n v) (e : Ex H H2) : NdAt Z H2 n v := by
  obtain ⟨a, dx, li, lo, lr, td, evs, us, h1, h2, h3, h4, h5, h6, h7, h8⟩ := h
  exact ⟨a, dx, li, lo, lr, td, evs, us, h1, e _ _ h2, e _ _ h3, e _ _ h4, e _ _ h5, e _ _ h6, paired_up (fun r q h => h.up e) h7, h8⟩
/-- the thing u is the tuple by which the node n is told -/
def NdT (H : Hp) (n : Nd) (u : V) : Prop := ∃ a p q t us, u = .ref a ∧ H a = some (.tup [.str n.nm, .ref p, .ref q, .ref t]) ∧ H p = some (.tup (n.ins.map V.str)) ∧ H q = some (.tup (n.outs.map V.str)) ∧ H t = some (.tup us) ∧ Paired (RowAt H) n.rows us
theorem NdT.up {H H2 : Hp} {n : Nd} {u : V} (h : NdT H n u) (e : Ex H H2) : NdT H2 n u := by
  obtain ⟨a, p, q, t, us, h1, h2, h3, h4, h5, h6⟩ := h
  exact ⟨a, p, q, t, us, h1, e _ _ h2, e _ _ h3, e _ _ h4, e _ _ h5, paired_up (fun r q h => h.up e) h6⟩
theorem EqAt.it {H H2 : Hp} {r : Rw} {v u : V} (h : EqAt Z H r v u) (ei : InsK H H2) (et : TupK H H2) : EqAt Z H2 r v u := by
  obtain ⟨a, dx, fs, h1, h2, h3, h4, h5, h6⟩ := h
  refine ⟨a, dx, fs, h1, ei _ _ _ _ h2, h3.tu et, h4, h5, fun n t e => ?_⟩
  obtain ⟨tv, h7, h8⟩ := h6 n t e
  exact ⟨tv, h7, h8.keep ei⟩
theorem ins_dk {H G : Hp} {d : Addr} {kv : List (Key × V)} (x : ExB d H G) (hd : H d = some (.dK kv)) : InsK H G := fun a C dx fs h => x _ _ (ne_of h hd (fun z => by cases z)) h
theorem tup_dk {H G : Hp} {d : Addr} {kv : List (Key × V)} (x : ExB d H G) (hd : H d = some (.dK kv)) : TupK H G := fun a xs h => x _ _ (ne_of h hd (fun z => by cases z)) h
theorem lst_dk {H G : Hp} {d a : Addr} {kv : List (Key × V)} {xs : List V} (x : ExB d H G) (hd : H d = some (.dK kv)) (h : H a = some (.lst xs)) : G a = some (.lst xs) := x _ _ (ne_of h hd (fun z => by cases z)) h
/-- a node in the making -/
def NdMk (Z : Adr) (H : Hp) (n : Nd) (a li lo lr td : Addr) (evs us : List V) : Prop := (∃ dx, H a = some (.ins Z.c_Node dx (nfs n.nm li lo lr td))) ∧ H li = some (.lst (n.ins.map V.str)) ∧ H lo = some (.lst (n.outs.map V.str)) ∧ H lr = some (.lst evs) ∧ Paired (fun r (q : V × V) => EqAt Z H r q.1 q.2) n.rows (evs.zip us) ∧ evs.length = us.length
theorem NdMk.up {H H2 : Hp} {n : Nd} {a li lo lr td : Addr} {evs us : List V} (h : NdMk Z H n a li lo lr td evs us) (e : Ex H H2) : NdMk Z H2 n a li lo lr td evs us := by
  obtain ⟨⟨dx, h1⟩, h2, h3, h4, h5, h6⟩ := h
  exact ⟨⟨dx, e _ _ h1⟩, e _ _ h2, e _ _ h3, e _ _ h4, paired_up (fun r q h => h.up e) h5, h6⟩
theorem NdMk.dk {H H2 : Hp} {n : Nd} {a li lo lr td d : Addr} {evs us : List V} {kv : List (Key × V)} (h : NdMk Z H n a li lo lr td evs us) (x : ExB d H H2) (hd : H d = some (.dK kv)) : NdMk Z H2 n a li lo lr td evs us := by
  obtain ⟨⟨dx, h1⟩, h2, h3, h4, h5, h6⟩ := h
  exact ⟨⟨dx, ins_dk x hd _ _ _ _ h1⟩, lst_dk x hd h2, lst_dk x hd h3, lst_dk x hd h4, paired_up (fun r q h => h.it (ins_dk x hd) (tup_dk x hd)) h5, h6⟩
theorem tcN (T : Txt K mg Z) : Cls K Z.c_Node ∧ ∀ f ∈ (["name", "kept_inputs", "kept_outs", "kept_rows", "tellers"] : List Str), NoAttr K Z.c_Node f := ⟨(tcB_ok T.x_Node).cl, (tcB_ok T.x_Node).no⟩
theorem split_at {α : Type} {l : List α} {i : Nat} {a : α} (h : l[i]? = some a) : l = l.take i ++ a :: l.drop (i + 1) := by
  have h1 := (List.getElem?_eq_some_iff.mp h)
  obtain ⟨hl, he⟩ := h1
  conv => lhs; rw [← List.take_append_drop i l]
  rw [List.drop_eq_getElem_cons hl, he]
theorem nodup_mid {l m : List Str} {s : Str} (h : (l ++ s :: m).Nodup) : s ∉ l := fun hs => (List.nodup_append.mp h).2.2 s hs s List.mem_cons_self rfl
theorem names_split {n : Nd} {i j : Nat} {r : Rw} {s : Str} (hn : n.names.Nodup) (hi : n.rows[i]? = some r) (hj : r.tells[j]? = some s) : s ∉ n.ins ++ (n.rows.take i).flatMap Rw.tells ++ r.tells.take j := by
  refine nodup_mid (m := r.tells.drop (j + 1) ++ (n.rows.drop (i + 1)).flatMap Rw.tells) ?_
  have e : n.names = n.ins ++ (n.rows.take i).flatMap Rw.tells ++ r.tells.take j ++ s :: (r.tells.drop (j + 1) ++ (n.rows.drop (i + 1)).flatMap Rw.tells) := by
    unfold Nd.names Nd.told
    conv => lhs; rw [split_at hi]
    rw [List.flatMap_append, List.flatMap_cons]
    conv => lhs; rw [split_at hj]
    simp only [List.append_assoc, List.cons_append]
  rw [← e]
  exact hn
theorem telR_keys : ∀ {rs : List Rw} {evs : List V}, rs.length = evs.length → (telR rs evs).map (·.1) = (rs.flatMap Rw.tells).map (Sum.inr : Str → Key)
  | [], [], _ => rfl
  | r :: rs, v :: evs, h => by
    have ih := telR_keys (rs := rs) (evs := evs) (by simpa using h)
    unfold telR at ih ⊢
    rw [List.zip_cons_cons, List.flatMap_cons, List.map_append, ih, List.flatMap_cons, List.map_append, List.map_map]
    rfl
theorem telK_keys {ins : List Str} {rs : List Rw} {evs : List V} (h : rs.length = evs.length) : (telK ins rs evs).map (·.1) = (ins ++ rs.flatMap Rw.tells).map (Sum.inr : Str → Key) := by
  unfold telK
  rw [List.map_append, telR_keys h, List.map_map, List.map_append]
  rfl
theorem telK_snoc {ins : List Str} {rs : List Rw} {evs : List V} {r : Rw} {v : V} (h : rs.length = evs.length) : telK ins (rs ++ [r]) (evs ++ [v]) = telK ins rs evs ++ r.tells.map fun s => ((.inr s : Key), v) := by
  unfold telK telR
  rw [List.zip_append h, List.flatMap_append, List.append_assoc]
  simp
theorem valV_nokey {kv : List (Key × V)} {s : Str} {l : List Str} (hk : kv.map (·.1) = l.map (Sum.inr : Str → Key)) (hs : s ∉ l) : valV kv (.inr s) = none := by
  cases hv : valV kv (.inr s) with
  | none => rfl
  | some v =>
    have h1 : (Sum.inr s : Key) ∈ kv.map (·.1) := valV_in hv
    rw [hk] at h1
    obtain ⟨z, hz, he⟩ := List.mem_map.mp h1
    have : z = s := Sum.inr.inj he
    subst this
    exact absurd hz hs
def sp_take (Z : Adr) : Sp := fun vs H Q _ => ∃ n a li lo lr td evs us, vs = [.ref a] ∧ NdMk Z H n a li lo lr td evs us ∧ H td = some (.dK []) ∧ n.good ∧ ∀ H2, ExB td H H2 → H2 td = some (.dK (telK n.ins n.rows evs)) → Q .non H2
theorem ok_Node_take_tellers (T : Txt K mg Z)  : FnOk P w K mg base CX0 (12) Z.f_Node_take_tellers Z.fd_Node_take_tellers ["self"] (sp_take Z) := by
  refine T.F_Node_take_tellers.ok sc_Node_take_tellers (fun vs H Q E h => ?_) (fun cdv AA outer s H vs Q E hr h => ?_)
  · obtain ⟨n, a, li, lo, lr, td, evs, us, rfl, _⟩ := h
    rfl
  · obtain ⟨n, a, li, lo, lr, td, evs, us, rfl, hM, gtd, hg, k⟩ := h
    have GME_tells := gmE_tells (P := P) (w := w) (base := base) T
    obtain ⟨cN, nA⟩ := tcN T
    refine ⟨_, (Evl.pss_cut (ps_for PassesOwn.never rfl (pi_list (pe_fld (pv 0) (by rfl))) (pg_name (i := 1) sc_Node_take_tellers.nd rfl (Or.inl rfl)) (pss_one (ps_dput (hu_of hr) (pe_fld (pv 0) (by rfl)) (pv 1) pe_non rfl)))
      (pss_one (ps_for PassesOwn.never rfl (pi_list (pe_fld (pv 0) (by rfl))) (pg_name (i := 2) sc_Node_take_tellers.nd rfl (Or.inl rfl)) (pss_one (ps_for PassesOwn.never rfl (pi_list (pe_methP0 (pv 2) GME_tells (hr.mono (by omega)) pass0)) (pg_name (i := 1) sc_Node_take_tellers.nd rfl (Or.inl rfl)) (pss_cons (ps_if (pt_cmpR (op_inDk (hu_of hr)) (pv 1) (pe_fld (pv 0) (by rfl)) (by rfl)) (pss_one ps_never) pss_nil)
      (pss_one (ps_dput (hu_of hr) (pe_fld (pv 0) (by rfl)) (pv 1) (pv 2) rfl)))))))), ?_⟩
    walk_at "ss"
    refine c_cut (M := fun σ' G => (∃ v1 v2, σ' = [some (.ref a), v1, v2]) ∧ ExB td H G ∧ G td = some (.dK (n.ins.map fun s => ((.inr s : Key), V.non)))) ?_ ?_
    · walk_at "ss"
      obtain ⟨⟨dx, h1⟩, h2, h3, h4, h5, h6⟩ := id hM
      refine ⟨a, _, dx, _, _, rfl, h1, cN, nA _ (by simp), rfl, ?_⟩
      walk_at "ss"
      refine ⟨⟨_, SqL.of h2⟩, forL (xs := n.ins.map V.str) (fun i σ' G => (∃ v1 v2, σ' = [some (.ref a), v1, v2]) ∧ ExB td H G ∧ G td = some (.dK ((n.ins.take i).map fun s => ((.inr s : Key), V.non)))) ⟨⟨_, _, rfl⟩, ExB.refl _ _, gtd⟩ (fun i σ' G _ q => SqL.of (lst_dk q.2.1 gtd h2)) ?_ ?_⟩
      · rintro i x σ' G hx ⟨⟨v1, v2, rfl⟩, xG, gG⟩
        rw [List.getElem?_map] at hx
        obtain ⟨s, hs, rfl⟩ := Option.map_eq_some_iff.mp hx
        have hil := (List.getElem?_eq_some_iff.mp hs).1
        have h300 := hg.in1
        walk_at "ss"
        refine ⟨a, _, dx, _, _, rfl, ins_dk xG gtd _ _ _ _ h1, cN, nA _ (by simp), rfl, ?_⟩
        walk_at "ss"
        refine ⟨td, _, rfl, .inl ⟨_, .inr s, gG, rfl, Evl.sz_lt (by rw [List.length_map, List.length_take]; omega), rfl⟩, ?_⟩
        walk_at "ss"
        refine ⟨⟨_, _, rfl⟩, xG.trans ExB.upd, ?_⟩
        rw [upd_same, putK_fresh, List.take_add_one, hs, List.map_append]
        · rfl
        · intro hin
          rw [List.map_map] at hin
          obtain ⟨z, hz, he⟩ := List.mem_map.mp hin
          have : z = s := Sum.inr.inj he
          subst this
          have hnd : n.ins.Nodup := (List.nodup_append.mp hg.all).1
          exact nodup_at hnd hs hz (Nat.le_refl _) rfl
      · rintro σ' G ⟨⟨v1, v2, rfl⟩, xG, gG⟩
        rw [List.length_map, List.take_length] at gG
        walk_at "ss"
        exact ⟨⟨_, _, rfl⟩, xG, gG⟩
    · rintro σ' G1 ⟨⟨v1, v2, rfl⟩, x1, g1⟩
      obtain ⟨⟨dx, h1⟩, h2, h3, h4, h5, h6⟩ := id (hM.dk x1 gtd)
      walk_at "ss"
      refine ⟨a, _, dx, _, _, rfl, h1, cN, nA _ (by simp), rfl, ?_⟩
      walk_at "ss"
      have hlr : n.rows.length = evs.length := by have := paired_len h5; rw [List.length_zip, h6] at this; omega
      refine ⟨⟨_, SqL.of h4⟩, forL (xs := evs) (fun i σ' G => (∃ v1 v2, σ' = [some (.ref a), v1, v2]) ∧ ExB td G1 G ∧ G td = some (.dK (telK n.ins (n.rows.take i) (evs.take i)))) ⟨⟨_, _, rfl⟩, ExB.refl _ _, by rw [g1]; simp [telK, telR]⟩ (fun i σ' G _ q => SqL.of (lst_dk q.2.1 g1 h4)) ?_ ?_⟩
      · rintro i v σ' G hv ⟨⟨v1, v2, rfl⟩, xG, gG⟩
        have hil := (List.getElem?_eq_some_iff.mp hv).1
        have hz : (evs.zip us)[i]? = some (v, us[i]'(by omega)) := by
          rw [List.getElem?_zip_eq_some]
          exact ⟨hv, List.getElem?_eq_getElem (by omega)⟩
        obtain ⟨r, hr2, hE1⟩ := paired_ix h5 hz
        have hE : EqAt Z G r v _ := hE1.it (ins_dk xG g1) (tup_dk xG g1)
        have hgr := (hg.row r (List.mem_of_getElem? hr2)).1
        have hall := hg.all1
        obtain ⟨a2, dx2, fs2, rfl, ha2, hM2, o1, o2, o3, o4, o5⟩ := hE.cls
        have hrt : (n.rows.take i).length = (evs.take i).length := by rw [List.length_take, List.length_take, hlr]
        walk_at "ss"
        refine ⟨a2, _, dx2, fs2, rfl, ha2, hM2, o2, ?_⟩
        walk_at "ss"
        refine ⟨r, _, _, rfl, hE, hgr, rfl, fun l2 G2 hl2 e2 g2 => ?_⟩
        have ntl : l2 ≠ td := (ne_of_none gG hl2).symm
        walk_at "ss"
        refine ⟨⟨_, SqL.of g2⟩, forL (xs := r.tells.map V.str) (fun j σ' G' => (∃ v1, σ' = [some (.ref a), v1, some (.ref a2)]) ∧ ExB td G1 G' ∧ G' l2 = some (.lst (r.tells.map V.str)) ∧ G' td = some (.dK (telK n.ins (n.rows.take i) (evs.take i) ++ (r.tells.take j).map fun s => ((.inr s : Key), V.ref a2)))) ⟨⟨_, rfl⟩, xG.trans (ExB.of e2), g2, by rw [List.take_zero, List.map_nil, List.append_nil]; exact e2 _ _ gG⟩ (fun j σ' G' _ q => SqL.of q.2.2.1) ?_ ?_⟩
        · rintro j x σ' G' hx ⟨⟨v1, rfl⟩, xG', gl', gt'⟩
          rw [List.getElem?_map] at hx
          obtain ⟨s, hs, rfl⟩ := Option.map_eq_some_iff.mp hx
          have hkeys : (telK n.ins (n.rows.take i) (evs.take i) ++ (r.tells.take j).map fun s => ((.inr s : Key), V.ref a2)).map (·.1) = (n.ins ++ (n.rows.take i).flatMap Rw.tells ++ r.tells.take j).map (Sum.inr : Str → Key) := by
            rw [List.map_append, telK_keys hrt, List.map_map, List.map_append (l₁ := n.ins ++ (n.rows.take i).flatMap Rw.tells)]
            rfl
          have hno := valV_nokey hkeys (names_split hg.all hr2 hs)
          have hlen : (telK n.ins (n.rows.take i) (evs.take i) ++ (r.tells.take j).map fun s => ((.inr s : Key), V.ref a2)).length ≤ 1000 := by
            have h1 := congrArg List.length hkeys
            rw [List.length_map, List.length_map] at h1
            rw [h1]
            refine Nat.le_trans ?_ hall
            have e : n.names = (n.ins ++ (n.rows.take i).flatMap Rw.tells ++ r.tells.take j) ++ (r.tells.drop j ++ (n.rows.drop (i + 1)).flatMap Rw.tells) := by
              unfold Nd.names Nd.told
              conv => lhs; rw [split_at hr2]
              rw [List.flatMap_append, List.flatMap_cons]
              conv => lhs; rw [← List.take_append_drop j r.tells]
              simp only [List.append_assoc]
            rw [e, List.length_append (as := n.ins ++ (n.rows.take i).flatMap Rw.tells ++ r.tells.take j)]
            omega
          walk_at "ss"
          refine ⟨a, _, dx, _, _, rfl, ins_dk xG' g1 _ _ _ _ h1, cN, nA _ (by simp), rfl, ?_⟩
          walk_at "ss"
          refine ⟨td, _, rfl, dgetK gt', ?_⟩
          rw [hno]
          walk_at "ss"
          refine if_ff rfl ?_
          walk_at "ss"
          refine ⟨a, _, dx, _, _, rfl, ins_dk xG' g1 _ _ _ _ h1, cN, nA _ (by simp), rfl, ?_⟩
          walk_at "ss"
          refine ⟨td, _, rfl, .inl ⟨_, .inr s, gt', rfl, Evl.sz_lt (by omega), rfl⟩, ?_⟩
          walk_at "ss"
          refine ⟨⟨_, rfl⟩, xG'.trans ExB.upd, by rw [upd_ne ntl]; exact gl', ?_⟩
          rw [upd_same, putK_new _ hno, List.take_add_one, hs, List.map_append, List.append_assoc]
          rfl
        · rintro σ' G' ⟨⟨v1, rfl⟩, xG', gl', gt'⟩
          walk_at "ss"
          refine ⟨⟨_, _, rfl⟩, xG', ?_⟩
          rw [gt', List.length_map, List.take_length, List.take_add_one, hr2, List.take_add_one, hv]
          show _ = some (HO.dK (telK n.ins (n.rows.take i ++ [r]) (evs.take i ++ [V.ref a2])))
          rw [telK_snoc hrt]
      · rintro σ' G ⟨⟨v1, v2, rfl⟩, xG, gG⟩
        rw [List.take_length, ← hlr, List.take_length] at gG
        walk_at "ss"
        exact k _ (x1.trans xG) gG
/-! what is mentioned is told -/
def sp_need_told (Z : Adr) : Sp := fun vs H Q _ => ∃ n a li lo lr td evs us, vs = [.ref a] ∧ NdMk Z H n a li lo lr td evs us ∧ H td = some (.dK (telK n.ins n.rows evs)) ∧ n.good ∧ RetV .non H Q
theorem valV_haskey {kv : List (Key × V)} {s : Str} {l : List Str} (hk : kv.map (·.1) = l.map (Sum.inr : Str → Key)) (hs : s ∈ l) : ∃ v, valV kv (.inr s) = some v := by
  cases hv : valV kv (.inr s) with
  | some v => exact ⟨v, rfl⟩
  | none =>
    have h1 : (Sum.inr s : Key) ∈ kv.map (·.1) := by rw [hk]; exact List.mem_map.mpr ⟨s, hs, rfl⟩
    obtain ⟨p, hp, he⟩ := List.mem_map.mp h1
    exfalso
    clear h1 hk
    induction kv with
    | nil => cases hp
    | cons q r ih =>
      by_cases e : q.1 = (Sum.inr s : Key)
      · rw [valV_pos e] at hv
        cases hv
      · rw [valV_neg e] at hv
        rcases List.mem_cons.mp hp with hp | hp
        · subst hp
          exact e he
        · exact ih hv hp
theorem valV_mem0' {kv : List (Key × V)} {k : Key} {v : V} (h : valV kv k = some v) : (k, v) ∈ kv := by
  induction kv with
  | nil => cases h
  | cons p r ih =>
    by_cases e : p.1 = k
    · rw [valV_pos e] at h
      have : p = (k, v) := by rw [← e, ← Option.some.inj h]
      rw [this]
      exact List.mem_cons_self
    · rw [valV_neg e] at h
      exact List.mem_cons_of_mem _ (ih h)
theorem telR_ref {Z : Adr} {H : Hp} : ∀ {rs : List Rw} {evs us : List V}, Paired (fun r (q : V × V) => EqAt Z H r q.1 q.2) rs (evs.zip us) → evs.length = us.length → ∀ p ∈ telR rs evs, ∃ a, p.2 = .ref a
  | [], [], _, _, _, p, hp => by cases hp
  | r :: rs, v :: evs, u :: us, h, hl, p, hp => by
    rw [List.zip_cons_cons] at h
    cases h with
    | cons h1 h2 =>
      unfold telR at hp
      rw [List.zip_cons_cons, List.flatMap_cons] at hp
      rcases List.mem_append.mp hp with hp | hp
      · obtain ⟨s, _, rfl⟩ := List.mem_map.mp hp
        obtain ⟨a, dx, fs, e, _⟩ := h1.cls
        exact ⟨a, e⟩
      · exact telR_ref h2 (by simpa using hl) p hp
  | [], _ :: _, _ :: _, h, _, _, _ => by cases h
  | [], _ :: _, [], _, hl, _, _ => by cases hl
theorem told_ref {H : Hp} {n : Nd} {evs us : List V} {s : Str} (h : Paired (fun r (q : V × V) => EqAt Z H r q.1 q.2) n.rows (evs.zip us)) (hl : evs.length = us.length) (hn : n.names.Nodup) (hs : s ∈ n.told) : ∃ a, valV (telK n.ins n.rows evs) (.inr s) = some (.ref a) := by
  have hlr : n.rows.length = evs.length := by have := paired_len h; rw [List.length_zip, hl] at this; omega
  obtain ⟨v, hv⟩ := valV_haskey (telK_keys (ins := n.ins) hlr) (List.mem_append_right _ hs)
  have hm := valV_mem0' hv
  unfold telK at hm
  rcases List.mem_append.mp hm with hm | hm
  · obtain ⟨z, hz, he⟩ := List.mem_map.mp hm
    have : z = s := Sum.inr.inj (Prod.mk.inj he).1
    subst this
    exact absurd rfl ((List.nodup_append.mp hn).2.2 z hz z hs)
  · obtain ⟨a, e⟩ := telR_ref h hl _ hm
    have e2 : v = .ref a := e
    rw [hv, e2]
    exact ⟨a, rfl⟩
theorem ok_Node_need_told (T : Txt K mg Z)  : FnOk P w K mg base CX0 (14) Z.f_Node_need_told Z.fd_Node_need_told ["self"] (sp_need_told Z) := by
  refine T.F_Node_need_told.ok sc_Node_need_told (fun vs H Q E h => ?_) (fun cdv AA outer s H vs Q E hr h => ?_)
  · obtain ⟨n, a, li, lo, lr, td, evs, us, rfl, _⟩ := h
    rfl
  · obtain ⟨n, a, li, lo, lr, td, evs, us, rfl, hM, gtd, hg, k⟩ := h
    have GME_names := gmE_names (P := P) (w := w) (base := base) T
    obtain ⟨cN, nA⟩ := tcN T
    obtain ⟨⟨dx, h1⟩, h2, h3, h4, h5, h6⟩ := id hM
    have hlr : n.rows.length = evs.length := by have := paired_len h5; rw [List.length_zip, h6] at this; omega
    have hkeys := telK_keys (ins := n.ins) hlr
    refine ⟨_, (Evl.pss_cut (ps_for PassesOwn.never rfl (pi_list (pe_fld (pv 0) (by rfl))) (pg_name (i := 1) sc_Node_need_told.nd rfl (Or.inl rfl)) (pss_one (ps_for PassesOwn.never rfl (pi_list (pe_methP0 (pv 1) GME_names (hr.mono (by omega)) pass0)) (pg_name (i := 2) sc_Node_need_told.nd rfl (Or.inl rfl)) (pss_one (ps_if (pt_cmpR (op_notInDk (hu_of hr)) (pv 2) (pe_fld (pv 0) (by rfl)) (by rfl)) (pss_one ps_never) pss_nil)))))
      (pss_one (ps_for PassesOwn.never rfl (pi_list (pe_fld (pv 0) (by rfl))) (pg_name (i := 2) sc_Node_need_told.nd rfl (Or.inl rfl)) (pss_one (ps_if (pt_cmpR op_isN (pe_dget1 (hu_of hr) (pe_fld (pv 0) (by rfl)) (pv 2) ⟨rfl, rfl, rfl, rfl⟩) pe_non (nomark _)) (pss_one ps_never) pss_nil))))), ?_⟩
    walk_at "ss"
    refine c_cut (M := fun σ' G => (∃ v1 v2, σ' = [some (.ref a), v1, v2]) ∧ Ex H G) ?_ ?_
    · walk_at "ss"
      refine ⟨a, _, dx, _, _, rfl, h1, cN, nA _ (by simp), rfl, ?_⟩
      walk_at "ss"
      refine ⟨⟨_, SqL.of h4⟩, forL (xs := evs) (fun i σ' G => (∃ v1 v2, σ' = [some (.ref a), v1, v2]) ∧ Ex H G) ⟨⟨_, _, rfl⟩, Ex.refl _⟩ (fun i σ' G _ q => SqL.of (q.2 _ _ h4)) ?_ ?_⟩
      · rintro i v σ' G hv ⟨⟨v1, v2, rfl⟩, eG⟩
        have hil := (List.getElem?_eq_some_iff.mp hv).1
        have hz : (evs.zip us)[i]? = some (v, us[i]'(by omega)) := by
          rw [List.getElem?_zip_eq_some]
          exact ⟨hv, List.getElem?_eq_getElem (by omega)⟩
        obtain ⟨r, hr2, hE1⟩ := paired_ix h5 hz
        have hE : EqAt Z G r v _ := hE1.up eG
        obtain ⟨hgr, _, hmen⟩ := hg.row r (List.mem_of_getElem? hr2)
        obtain ⟨a2, dx2, fs2, rfl, ha2, hM2, o1, o2, o3, o4, o5⟩ := hE.cls
        walk_at "ss"
        refine ⟨a2, _, dx2, fs2, rfl, ha2, hM2, o3, ?_⟩
        walk_at "ss"
        refine ⟨r, _, _, rfl, hE, hgr, rfl, fun l2 G2 hl2 e2 g2 => ?_⟩
        walk_at "ss"
        refine ⟨⟨_, SqL.of g2⟩, forL (xs := r.names.map V.str) (fun j σ' G' => (∃ v1 v2, σ' = [some (.ref a), v1, v2]) ∧ Ex G2 G') ⟨⟨_, _, rfl⟩, Ex.refl _⟩ (fun j σ' G' _ q => SqL.of (q.2 _ _ g2)) ?_ ?_⟩
        · rintro j x σ' G' hx ⟨⟨v1, v2, rfl⟩, eG'⟩
          rw [List.getElem?_map] at hx
          obtain ⟨s, hs, rfl⟩ := Option.map_eq_some_iff.mp hx
          obtain ⟨vt, hvt⟩ := valV_haskey hkeys (hmen s (List.mem_of_getElem? hs))
          have E' := eG.trans (e2.trans eG')
          walk_at "ss"
          refine ⟨a, _, dx, _, _, rfl, E' _ _ h1, cN, nA _ (by simp), rfl, ?_⟩
          walk_at "ss"
          refine ⟨td, _, rfl, dgetK (E' _ _ gtd), ?_⟩
          rw [hvt]
          walk_at "ss"
          refine if_ff rfl ?_
          walk_at "ss"
          exact ⟨⟨_, _, rfl⟩, eG'⟩
        · rintro σ' G' ⟨⟨v1, v2, rfl⟩, eG'⟩
          walk_at "ss"
          exact ⟨⟨_, _, rfl⟩, eG.trans (e2.trans eG')⟩
      · rintro σ' G ⟨⟨v1, v2, rfl⟩, eG⟩
        walk_at "ss"
        exact ⟨⟨_, _, rfl⟩, eG⟩
    · rintro σ' G ⟨⟨v1, v2, rfl⟩, eG⟩
      walk_at "ss"
      refine ⟨a, _, dx, _, _, rfl, eG _ _ h1, cN, nA _ (by simp), rfl, ?_⟩
      walk_at "ss"
      refine ⟨⟨_, SqL.of (eG _ _ h3)⟩, forL (xs := n.outs.map V.str) (fun i σ' G => (∃ v1 v2, σ' = [some (.ref a), v1, v2]) ∧ Ex H G) ⟨⟨_, _, rfl⟩, eG⟩ (fun i σ' G _ q => SqL.of (q.2 _ _ h3)) ?_ ?_⟩
      · rintro i x σ' G hx ⟨⟨v1, v2, rfl⟩, eG⟩
        rw [List.getElem?_map] at hx
        obtain ⟨s, hs, rfl⟩ := Option.map_eq_some_iff.mp hx
        obtain ⟨at_, hat⟩ := told_ref h5 h6 hg.all (hg.outG s (List.mem_of_getElem? hs)).2
        walk_at "ss"
        refine ⟨a, _, dx, _, _, rfl, eG _ _ h1, cN, nA _ (by simp), rfl, ?_⟩
        walk_at "ss"
        refine ⟨isD (eG _ _ gtd), ?_⟩
        walk_at "ss"
        refine ⟨_, dgetK (eG _ _ gtd), ?_⟩
        rw [hat]
        walk_at "ss"
        refine if_ff (by rfl) ?_
        walk_at "ss"
        exact ⟨⟨_, _, rfl⟩, eG⟩
      · rintro σ' G ⟨⟨v1, v2, rfl⟩, eG⟩
        walk_at "ss"
        exact k _ eG

/-! ### nodes made -/
open TL (tl)
def MCN (Z : Adr) (C : Addr) : Prop := C = Z.c_Node
def spmN_take_tellers (Z : Adr) (C : Addr) : Sp := sp_take Z
def spmN_need_told (Z : Adr) (C : Addr) : Sp := sp_need_told Z
theorem gmN_take_tellers (T : Txt K mg Z) : ∀ C, MCN Z C → MOk P w K mg base CX0 12 C "take_tellers" (spmN_take_tellers Z C) := by
  rintro C rfl
  exact ⟨(tcB_ok T.x_Node).cl, _, _, _, ⟨T.h_take_tellers_Node, T.y_Node_take_tellers, T.F_Node_take_tellers.kp⟩, ok_Node_take_tellers (P := P) (w := w) (base := base) T, T.b_Node_take_tellers⟩
theorem gmN_need_told (T : Txt K mg Z) : ∀ C, MCN Z C → MOk P w K mg base CX0 14 C "need_told" (spmN_need_told Z C) := by
  rintro C rfl
  exact ⟨(tcB_ok T.x_Node).cl, _, _, _, ⟨T.h_need_told_Node, T.y_Node_need_told, T.F_Node_need_told.kp⟩, ok_Node_need_told (P := P) (w := w) (base := base) T, T.b_Node_need_told⟩
theorem MCx_ne (T : Txt K mg Z) {C : Addr} (h : MC Z C ∨ MCE Z C) : C ≠ Z.c_Node := by
  rcases h with h | ⟨i, hi, rfl⟩
  · rcases h with rfl | rfl | rfl | rfl | rfl
    · exact (difB_ne (i := 0) (j := 1) T.fact_difN1 rfl rfl (by decide)).symm
    · exact (difB_ne (i := 0) (j := 2) T.fact_difN1 rfl rfl (by decide)).symm
    · exact (difB_ne (i := 0) (j := 3) T.fact_difN1 rfl rfl (by decide)).symm
    · exact (difB_ne (i := 0) (j := 4) T.fact_difN1 rfl rfl (by decide)).symm
    · exact (difB_ne (i := 0) (j := 5) T.fact_difN1 rfl rfl (by decide)).symm
  · have hi' : i = 0 ∨ i = 1 ∨ i = 2 ∨ i = 3 ∨ i = 4 ∨ i = 5 ∨ i = 6 := by omega
    rcases hi' with rfl | rfl | rfl | rfl | rfl | rfl | rfl
    · exact (difB_ne (i := 0) (j := 1) T.fact_difN2 rfl rfl (by decide)).symm
    · exact (difB_ne (i := 0) (j := 2) T.fact_difN2 rfl rfl (by decide)).symm
    · exact (difB_ne (i := 0) (j := 3) T.fact_difN2 rfl rfl (by decide)).symm
    · exact (difB_ne (i := 0) (j := 4) T.fact_difN2 rfl rfl (by decide)).symm
    · exact (difB_ne (i := 0) (j := 5) T.fact_difN2 rfl rfl (by decide)).symm
    · exact (difB_ne (i := 0) (j := 6) T.fact_difN2 rfl rfl (by decide)).symm
    · exact (difB_ne (i := 0) (j := 7) T.fact_difN2 rfl rfl (by decide)).symm
theorem EqAt.keepE {H H2 : Hp} {r : Rw} {v u : V} (h : EqAt Z H r v u) (ei : ∀ a C dx fs, MC Z C ∨ MCE Z C → H a = some (.ins C dx fs) → H2 a = some (.ins C dx fs)) (et : TupK H H2) : EqAt Z H2 r v u := by
  obtain ⟨a, dx, fs, h1, h2, h3, h4, h5, h6⟩ := h
  refine ⟨a, dx, fs, h1, ei _ _ _ _ (.inr ⟨_, r.kind_lt, rfl⟩) h2, h3.tu et, h4, h5, fun n t e => ?_⟩
  obtain ⟨tv, h7, h8⟩ := h6 n t e
  exact ⟨tv, h7, h8.keepM fun a C dx fs hC ha => ei a C dx fs (.inl hC) ha⟩
theorem eqs_node (T : Txt K mg Z) {H : Hp} {x dx : Addr} {fs gs : List (Str × V)} {rs : List Rw} {ps : List (V × V)} (hx : H x = some (.ins Z.c_Node dx fs)) (h : Paired (fun r (q : V × V) => EqAt Z H r q.1 q.2) rs ps) : Paired (fun r (q : V × V) => EqAt Z (upd H x (.ins Z.c_Node dx gs)) r q.1 q.2) rs ps :=
  paired_up (fun r q h => h.keepE (fun a C dx' fs' hC ha => by
    rw [upd_ne]
    · exact ha
    · intro z
      subst z
      rw [hx] at ha
      injection ha with ha
      injection ha with ha
      exact MCx_ne T hC ha.symm) (fun a xs ha => by rw [upd_ne (ne_of ha hx (fun z => by cases z))]; exact ha)) h
/-- the same, its things not yet there in H0 -/
def NdFr (Z : Adr) (H0 H : Hp) (n : Nd) (v : V) : Prop := ∃ a dx li lo lr td evs us, v = .ref a ∧ H a = some (.ins Z.c_Node dx (nfs n.nm li lo lr td)) ∧ H li = some (.lst (n.ins.map V.str)) ∧ H lo = some (.lst (n.outs.map V.str)) ∧ H lr = some (.lst evs) ∧ H td = some (.dK (telK n.ins n.rows evs)) ∧ Paired (fun r (q : V × V) => EqAt Z H r q.1 q.2) n.rows (evs.zip us) ∧ evs.length = us.length ∧ H0 a = none ∧ H0 li = none ∧ H0 lo = none ∧ H0 lr = none ∧ H0 td = none
theorem NdFr.at_ {H0 H : Hp} {n : Nd} {v : V} (h : NdFr Z H0 H n v) : NdAt Z H n v := by
  obtain ⟨a, dx, li, lo, lr, td, evs, us, h1, h2, h3, h4, h5, h6, h7, h8, _⟩ := h
  exact ⟨a, dx, li, lo, lr, td, evs, us, h1, h2, h3, h4, h5, h6, h7, h8⟩
theorem NdFr.back {H00 H0 H : Hp} {n : Nd} {v : V} (h : NdFr Z H0 H n v) (e : Ex H00 H0) : NdFr Z H00 H n v := by
  obtain ⟨a, dx, li, lo, lr, td, evs, us, h1, h2, h3, h4, h5, h6, h7, h8, f1, f2, f3, f4, f5⟩ := h
  exact ⟨a, dx, li, lo, lr, td, evs, us, h1, h2, h3, h4, h5, h6, h7, h8, fresh_back e f1, fresh_back e f2, fresh_back e f3, fresh_back e f4, fresh_back e f5⟩
def sp_Node_init (Z : Adr) : Sp := fun vs H Q _ => ∃ x dx n p q t us H0 k1 k2 k3, vs = [.ref x, .str n.nm, .ref p, .ref q, .ref t] ∧ H x = some (.ins Z.c_Node dx []) ∧ H0 x = none ∧ Ex H0 H ∧ H0 p = some (sqO k1 (n.ins.map V.str)) ∧ H0 q = some (sqO k2 (n.outs.map V.str)) ∧ H0 t = some (sqO k3 us) ∧ Paired (RowAt H0) n.rows us ∧ n.good ∧ ∀ H2, Ex H0 H2 → NdFr Z H0 H2 n (.ref x) → Q .non H2
theorem ok_Node_init (T : Txt K mg Z)  : FnOk P w K mg base CX0 (28) Z.f_Node_init Z.fd_Node_init ["self", "name", "inputs", "outs", "rows"] (sp_Node_init Z) := by
  have G_is_name := ok_is_name (P := P) (w := w) (base := base) T
  have G_need_names := ok_need_names (P := P) (w := w) (base := base) T
  have G_equations_of := ok_equations_of (P := P) (w := w) (base := base) T
  refine T.F_Node_init.ok sc_Node_init (fun vs H Q E h => ?_) (fun cdv AA outer s H vs Q E hr h => ?_)
  · obtain ⟨x, dx, n, p, q, t, us, H0, k1, k2, k3, rfl, _⟩ := h
    rfl
  · obtain ⟨x, dx, n, p, q, t, us, H0, k1, k2, k3, rfl, hx, h0, e0, gp, gq, gt, hrw, hg, k⟩ := h
    have GMN_take_tellers := gmN_take_tellers (P := P) (w := w) (base := base) T
    have GMN_need_told := gmN_need_told (P := P) (w := w) (base := base) T
    obtain ⟨cN, nA⟩ := tcN T
    have hnm := hg.nm
    have h8 := hnm.2.1
    have hin : n.ins.Nodup := (List.nodup_append.mp hg.all).1
    refine ⟨_, (pss_cons (ps_if (pt_not (pt_val (pe_call G_is_name (hr.mono (by omega)) rfl T.g_is_name T.F_is_name.kp T.b_is_name .nil pass0 (pa_cons (pv 1) pa_nil)))) (pss_one ps_never) pss_nil)
      (pss_cons (ps_expr (pe_call G_need_names (hr.mono (by omega)) rfl T.g_need_names T.F_need_names.kp T.b_need_names .nil pass0 (pa_cons (pv 2) pa_nil)))
      (pss_cons (ps_expr (pe_call G_need_names (hr.mono (by omega)) rfl T.g_need_names T.F_need_names.kp T.b_need_names .nil pass0 (pa_cons (pv 3) pa_nil)))
      (pss_cons (ps_fld (pv 0) (pv 1) (by rfl))
      (pss_cons (ps_fld (pv 0) (pe_callTy call_list_of (by rfl) T.n_list (by decide +kernel) (pa_cons (pv 2) pa_nil)) (by rfl))
      (pss_cons (ps_fld (pv 0) (pe_callTy call_list_of (by rfl) T.n_list (by decide +kernel) (pa_cons (pv 3) pa_nil)) (by rfl))
      (pss_cons (ps_fld (pv 0) (pe_call G_equations_of (hr.mono (by omega)) rfl T.g_equations_of T.F_equations_of.kp T.b_equations_of .nil pass0 (pa_cons (pv 4) pa_nil)) (by rfl))
      (pss_cons (ps_fld (pv 0) pe_dnewK (by rfl))
      (pss_cons (ps_expr (pe_methP0 (pv 0) GMN_take_tellers (hr.mono (by omega)) pass0))
      (pss_one (ps_expr (pe_methP0 (pv 0) GMN_need_told (hr.mono (by omega)) pass0)))))))))))), ?_⟩
    walk_at "ss"
    refine ⟨_, rfl, .inl ⟨n.nm, rfl, by omega, fun H1 e1 => ?_⟩⟩
    rw [hnm.1]
    walk_at "ss"
    refine ⟨p, n.ins, k1, rfl, (e0.trans e1) _ _ gp, hg.in0, hg.in1, hg.inG, hin, fun H2 e2 => ?_⟩
    walk_at "ss"
    have e02 := e0.trans (e1.trans e2)
    refine ⟨q, n.outs, k2, rfl, e02 _ _ gq, hg.out0, hg.out1, fun s hs => (hg.outG s hs).1, hg.outN, fun H3 e3 => ?_⟩
    have e03 := e02.trans e3
    walk_at "ss"
    have hx3 := (e1.trans (e2.trans e3)) _ _ hx
    refine ⟨x, _, dx, _, rfl, hx3, cN, nA _ (by simp), by simp, ?_⟩
    have f4 : Ex H0 (upd H3 x (.ins Z.c_Node dx (putF "name" (.str n.nm) []))) := Ex.mut e03 h0
    have hx4 : upd H3 x (.ins Z.c_Node dx (putF "name" (.str n.nm) [])) x = some (.ins Z.c_Node dx [("name", .str n.nm)]) := upd_same
    generalize upd H3 x (.ins Z.c_Node dx (putF "name" (.str n.nm) [])) = H4 at f4 hx4
    walk_at "ss"
    refine ⟨_, _, rfl, sqB (f4 _ _ gp), fun li hli => ?_⟩
    have f5 : Ex H4 (upd H4 li (.lst (n.ins.map V.str))) := Ex.new hli
    have g5 : upd H4 li (.lst (n.ins.map V.str)) li = some (.lst (n.ins.map V.str)) := upd_same
    generalize upd H4 li (.lst (n.ins.map V.str)) = H5 at f5 g5
    walk_at "ss"
    refine ⟨x, _, dx, _, rfl, f5 _ _ hx4, cN, nA _ (by simp), by simp, ?_⟩
    rw [put_tl (by decide +kernel)]
    have nlx : li ≠ x := (ne_of_none hx4 hli).symm
    have f6 : Ex H0 (upd H5 x (.ins Z.c_Node dx (("name", .str n.nm) :: putF "kept_inputs" (.ref li) []))) := Ex.mut (f4.trans f5) h0
    have hx6 : upd H5 x (.ins Z.c_Node dx (("name", .str n.nm) :: putF "kept_inputs" (.ref li) [])) x = some (.ins Z.c_Node dx [("name", .str n.nm), ("kept_inputs", .ref li)]) := upd_same
    have g6 : upd H5 x (.ins Z.c_Node dx (("name", .str n.nm) :: putF "kept_inputs" (.ref li) [])) li = some (.lst (n.ins.map V.str)) := by rw [upd_ne nlx]; exact g5
    generalize upd H5 x (.ins Z.c_Node dx (("name", .str n.nm) :: putF "kept_inputs" (.ref li) [])) = H6 at f6 hx6 g6
    walk_at "ss"
    refine ⟨_, _, rfl, sqB (f6 _ _ gq), fun lo hlo => ?_⟩
    have f7 : Ex H6 (upd H6 lo (.lst (n.outs.map V.str))) := Ex.new hlo
    have g7 : upd H6 lo (.lst (n.outs.map V.str)) lo = some (.lst (n.outs.map V.str)) := upd_same
    generalize upd H6 lo (.lst (n.outs.map V.str)) = H7 at f7 g7
    walk_at "ss"
    refine ⟨x, _, dx, _, rfl, f7 _ _ hx6, cN, nA _ (by simp), by simp, ?_⟩
    rw [put_tl (by decide +kernel), put_tl (by decide +kernel)]
    have nox : lo ≠ x := (ne_of_none hx6 hlo).symm
    generalize hF8 : (("name", .str n.nm) :: ("kept_inputs", .ref li) :: putF "kept_outs" (.ref lo) [] : List (Str × V)) = fs8
    have f8 : Ex H0 (upd H7 x (.ins Z.c_Node dx fs8)) := Ex.mut (f6.trans f7) h0
    have hx8 : upd H7 x (.ins Z.c_Node dx fs8) x = some (.ins Z.c_Node dx [("name", .str n.nm), ("kept_inputs", .ref li), ("kept_outs", .ref lo)]) := by rw [upd_same, ← hF8]; rfl
    have gi8 : upd H7 x (.ins Z.c_Node dx fs8) li = some (.lst (n.ins.map V.str)) := by rw [upd_ne nlx]; exact f7 _ _ g6
    have go8 : upd H7 x (.ins Z.c_Node dx fs8) lo = some (.lst (n.outs.map V.str)) := by rw [upd_ne nox]; exact g7
    generalize upd H7 x (.ins Z.c_Node dx fs8) = H8 at f8 hx8 gi8 go8
    walk_at "ss"
    refine ⟨t, n.rows, us, k3, rfl, f8 _ _ gt, paired_up (fun r u h => h.up f8) hrw, hg.row1, fun r hr => ⟨(hg.row r hr).1, (hg.row r hr).2.1⟩, fun lr evs H9 hlr f9 g9 hev hel => ?_⟩
    walk_at "ss"
    refine ⟨x, _, dx, _, rfl, f9 _ _ hx8, cN, nA _ (by simp), by simp, ?_⟩
    rw [put_tl (by decide +kernel), put_tl (by decide +kernel), put_tl (by decide +kernel)]
    have nrx : lr ≠ x := (ne_of_none hx8 hlr).symm
    generalize hF10 : (("name", .str n.nm) :: ("kept_inputs", .ref li) :: ("kept_outs", .ref lo) :: putF "kept_rows" (.ref lr) [] : List (Str × V)) = fs10
    have f10 : Ex H0 (upd H9 x (.ins Z.c_Node dx fs10)) := Ex.mut (f8.trans f9) h0
    have hev10 := eqs_node T (gs := fs10) (f9 _ _ hx8) hev
    have hx10 : upd H9 x (.ins Z.c_Node dx fs10) x = some (.ins Z.c_Node dx [("name", .str n.nm), ("kept_inputs", .ref li), ("kept_outs", .ref lo), ("kept_rows", .ref lr)]) := by rw [upd_same, ← hF10]; rfl
    have gi10 : upd H9 x (.ins Z.c_Node dx fs10) li = some (.lst (n.ins.map V.str)) := by rw [upd_ne nlx]; exact f9 _ _ gi8
    have go10 : upd H9 x (.ins Z.c_Node dx fs10) lo = some (.lst (n.outs.map V.str)) := by rw [upd_ne nox]; exact f9 _ _ go8
    have gr10 : upd H9 x (.ins Z.c_Node dx fs10) lr = some (.lst evs) := by rw [upd_ne nrx]; exact g9
    generalize upd H9 x (.ins Z.c_Node dx fs10) = H10 at f10 hx10 gi10 go10 gr10 hev10
    walk_at "ss"
    intro td htd
    have htd0 : H0 td = none := fresh_back f10 htd
    have f11 : Ex H10 (upd H10 td (.dK [])) := Ex.new htd
    have g11 : upd H10 td (.dK []) td = some (.dK []) := upd_same
    generalize upd H10 td (.dK []) = H11 at f11 g11
    walk_at "ss"
    refine ⟨x, _, dx, _, rfl, f11 _ _ hx10, cN, nA _ (by simp), by simp, ?_⟩
    rw [put_tl (by decide +kernel), put_tl (by decide +kernel), put_tl (by decide +kernel), put_tl (by decide +kernel)]
    have ntx : td ≠ x := (ne_of_none hx10 htd).symm
    generalize hF12 : (("name", .str n.nm) :: ("kept_inputs", .ref li) :: ("kept_outs", .ref lo) :: ("kept_rows", .ref lr) :: putF "tellers" (.ref td) [] : List (Str × V)) = fs12
    have f12 : Ex H0 (upd H11 x (.ins Z.c_Node dx fs12)) := Ex.mut (f10.trans f11) h0
    have hev12 := eqs_node T (gs := fs12) (f11 _ _ hx10) (paired_up (fun r q h => h.up f11) hev10)
    have hx12 : upd H11 x (.ins Z.c_Node dx fs12) x = some (.ins Z.c_Node dx (nfs n.nm li lo lr td)) := by rw [upd_same, ← hF12]; rfl
    have gi12 : upd H11 x (.ins Z.c_Node dx fs12) li = some (.lst (n.ins.map V.str)) := by rw [upd_ne nlx]; exact f11 _ _ gi10
    have go12 : upd H11 x (.ins Z.c_Node dx fs12) lo = some (.lst (n.outs.map V.str)) := by rw [upd_ne nox]; exact f11 _ _ go10
    have gr12 : upd H11 x (.ins Z.c_Node dx fs12) lr = some (.lst evs) := by rw [upd_ne nrx]; exact f11 _ _ gr10
    have gt12 : upd H11 x (.ins Z.c_Node dx fs12) td = some (.dK []) := by rw [upd_ne ntx]; exact g11
    generalize upd H11 x (.ins Z.c_Node dx fs12) = H12 at f12 hx12 gi12 go12 gr12 gt12 hev12
    have hMk : NdMk Z H12 n x li lo lr td evs us := ⟨⟨dx, hx12⟩, gi12, go12, gr12, hev12, hel⟩
    walk_at "ss"
    refine ⟨x, _, dx, _, rfl, hx12, rfl, rfl, ?_⟩
    walk_at "ss"
    refine ⟨n, x, li, lo, lr, td, evs, us, rfl, hMk, gt12, hg, fun H13 x13 g13 => ?_⟩
    have hMk13 := hMk.dk x13 gt12
    have f13 : Ex H0 H13 := fun a o ha => x13 a o (ne_of_none ha htd0) (f12 _ _ ha)
    obtain ⟨⟨dx', hx13⟩, m2, m3, m4, m5, m6⟩ := id hMk13
    walk_at "ss"
    refine ⟨x, _, dx', _, rfl, hx13, rfl, rfl, ?_⟩
    walk_at "ss"
    refine ⟨n, x, li, lo, lr, td, evs, us, rfl, hMk13, g13, hg, fun H14 f14 => ?_⟩
    walk_at "ss"
    obtain ⟨⟨dx2, hx14⟩, w2, w3, w4, w5, w6⟩ := hMk13.up f14
    exact k H14 (f13.trans f14) ⟨x, dx2, li, lo, lr, td, evs, us, rfl, hx14, w2, w3, w4, f14 _ _ g13, w5, w6, h0, fresh_back f4 hli, fresh_back f6 hlo, fresh_back f8 hlr, htd0⟩

/-! ### nodes told -/
open TL (tl)
theorem rows_of {H : Hp} : ∀ {rs : List Rw} {evs us : List V}, Paired (fun r (q : V × V) => EqAt Z H r q.1 q.2) rs (evs.zip us) → evs.length = us.length → Paired (RowAt H) rs us
  | [], [], [], _, _ => .nil
  | r :: rs, v :: evs, u :: us, h, hl => by
    rw [List.zip_cons_cons] at h
    cases h with
    | cons h1 h2 =>
      obtain ⟨_, _, _, _, _, h3, _⟩ := h1
      exact .cons h3 (rows_of h2 (by simpa using hl))
  | [], _ :: _, _ :: _, h, _ => by cases h
  | _ :: _, [], [], h, _ => by cases h
  | _, _ :: _, [], _, hl => by cases hl
  | _, [], _ :: _, _, hl => by cases hl
def spmN_told (Z : Adr) (C : Addr) : Sp := fun vs H Q _ => ∃ n v, vs = [v] ∧ NdAt Z H n v ∧ n.good ∧ ∀ u H2, Ex H H2 → NdT H2 n u → Q u H2
theorem re_told {r : Rw} {v u : V} {H : Hp} {Q : VK} (q : Q u H) : Re_told r v u H Q := q
theorem ok_Node_told (T : Txt K mg Z)  : FnOk P w K mg base CX0 (4) Z.f_Node_told Z.fd_Node_told ["self"] (spmN_told Z Z.c_Node) := by
  refine T.F_Node_told.ok sc_Node_told (fun vs H Q E h => ?_) (fun cdv AA outer s H vs Q E hr h => ?_)
  · obtain ⟨n, v, rfl, _⟩ := h
    rfl
  · obtain ⟨n, v, rfl, ⟨a, dx, li, lo, lr, td, evs, us, rfl, h1, h2, h3, h4, h5, h6, h7⟩, hg, k⟩ := h
    have GME_told := gmE_told (P := P) (w := w) (base := base) T
    obtain ⟨cN, nA⟩ := tcN T
    have hlr : n.rows.length = evs.length := by have := paired_len h6; rw [List.length_zip, h7] at this; omega
    have hrl := hg.row1
    refine ⟨_, (pss_cons (ps_set (i := 1) sc_Node_told.nd rfl (Or.inl rfl) (pe_callTy call_tuple_of (by rfl) T.n_tuple (by decide +kernel) (pa_cons (pe_lc (own := [("row", 2)]) (g := (gName 2)) (tt := tYes) (te := (tMP (MCE Z) "told" (spmE_told Z) E0 (tVar 2) tNil)) rfl sc_Node_told.nd (pi_list (pe_fld (pv 0) (by rfl))) (blkOk_by (own := [("row", 2)]) (N := N_Node_told) (sc := defScope s_Node_told) (by decide +kernel)) (fun _ _ _ _ _ => (pg_name (i := 2) sc_Node_told.nd rfl (Or.inl rfl))) (fun _ _ _ _ _ => pts_nil) (fun _ _ _ _ _ => (pe_methP0 (pv 2) GME_told (hr.mono (by omega)) pass0))) pa_nil)))
      (pss_one (ps_ret (pe_tup (pa_cons (pe_fld (pv 0) (by rfl)) (pa_cons (pe_callTy call_tuple_of (by rfl) T.n_tuple (by decide +kernel) (pa_cons (pe_fld (pv 0) (by rfl)) pa_nil)) (pa_cons (pe_callTy call_tuple_of (by rfl) T.n_tuple (by decide +kernel) (pa_cons (pe_fld (pv 0) (by rfl)) pa_nil)) (pa_cons (pv 1) pa_nil)))))))), ?_⟩
    walk_at "ss"
    refine ⟨a, _, dx, _, _, rfl, h1, cN, nA _ (by simp), rfl, ?_⟩
    walk_at "ss"
    refine ⟨⟨_, SqL.of h4⟩, ?_⟩
    refine lcLP (fun D i y G => us[i]? = some y) (fun _ _ _ _ _ _ h => h) (SqL.of h4) (by omega) (fun D i v hD hv H2 e2 _ R N hR => ?_) (fun ys p H2 hyl hy hp e2 g2 => ?_)
    · have hil := (List.getElem?_eq_some_iff.mp hv).1
      have hu : us[i]? = some (us[i]'(by omega)) := List.getElem?_eq_getElem (by omega)
      have hz : (evs.zip us)[i]? = some (v, us[i]'(by omega)) := by
        rw [List.getElem?_zip_eq_some]
        exact ⟨hv, hu⟩
      obtain ⟨r, hr2, hE1⟩ := paired_ix h6 hz
      have hE : EqAt Z H2 r v _ := hE1.up e2
      have hgr := (hg.row r (List.mem_of_getElem? hr2)).1
      obtain ⟨a2, dx2, fs2, rfl, ha2, hM2, o1, o2, o3, o4, o5⟩ := hE.cls
      walk_at "ss"
      refine ⟨a2, _, dx2, fs2, rfl, ha2, hM2, o1, ?_⟩
      walk_at "ss"
      refine ⟨r, _, _, rfl, hE, hgr, rfl, re_told ?_⟩
      exact hR _ _ (Ex.refl _) hu
    have hys : ys = us := by
      apply List.ext_getElem?
      intro i
      cases hi : ys[i]? with
      | some y => exact (hy i y hi).symm
      | none =>
        rw [List.getElem?_eq_none_iff] at hi
        rw [List.getElem?_eq_none (by omega)]
    subst hys
    walk_at "ss"
    refine ⟨_, _, rfl, .inl ⟨SqL.of g2, fun t3 ht3 => ?_⟩⟩
    have e3 : Ex H2 (upd H2 t3 (.tup ys)) := Ex.new ht3
    have g3 : upd H2 t3 (.tup ys) t3 = some (.tup ys) := upd_same
    generalize upd H2 t3 (.tup ys) = H3 at e3 g3
    have e03 := Ex.trans e2 e3
    walk_at "ss"
    refine ⟨a, _, dx, _, _, rfl, e03 _ _ h1, cN, nA _ (by simp), rfl, ?_⟩
    walk_at "ss"
    refine ⟨a, _, dx, _, _, rfl, e03 _ _ h1, cN, nA _ (by simp), rfl, ?_⟩
    walk_at "ss"
    refine ⟨_, _, rfl, .inl ⟨SqL.of (e03 _ _ h2), fun t4 ht4 => ?_⟩⟩
    have e4 : Ex H3 (upd H3 t4 (.tup (n.ins.map V.str))) := Ex.new ht4
    have g4 : upd H3 t4 (.tup (n.ins.map V.str)) t4 = some (.tup (n.ins.map V.str)) := upd_same
    generalize upd H3 t4 (.tup (n.ins.map V.str)) = H4 at e4 g4
    have e04 := e03.trans e4
    walk_at "ss"
    refine ⟨a, _, dx, _, _, rfl, e04 _ _ h1, cN, nA _ (by simp), rfl, ?_⟩
    walk_at "ss"
    refine ⟨_, _, rfl, .inl ⟨SqL.of (e04 _ _ h3), fun t5 ht5 => ?_⟩⟩
    have e5 : Ex H4 (upd H4 t5 (.tup (n.outs.map V.str))) := Ex.new ht5
    have g5 : upd H4 t5 (.tup (n.outs.map V.str)) t5 = some (.tup (n.outs.map V.str)) := upd_same
    generalize upd H4 t5 (.tup (n.outs.map V.str)) = H5 at e5 g5
    walk_at "ss"
    refine newT fun t6 H6 ht6 e6 g6 => ?_
    walk_at "ss"
    have e06 := e04.trans (e5.trans e6)
    exact k _ H6 e06 ⟨t6, t4, t5, t3, ys, rfl, g6, (e5.trans e6) _ _ g4, e6 _ _ g5, (e4.trans (e5.trans e6)) _ _ g3, paired_up (fun r u h => h.up e06) (rows_of h6 h7)⟩
theorem gmN_told (T : Txt K mg Z) : ∀ C, MCN Z C → MOk P w K mg base CX0 4 C "told" (spmN_told Z C) := by
  rintro C rfl
  exact ⟨(tcB_ok T.x_Node).cl, _, _, _, ⟨T.h_told_Node, T.y_Node_told, T.F_Node_told.kp⟩, ok_Node_told (P := P) (w := w) (base := base) T, T.b_Node_told⟩
theorem c_thru {t u : TS} {D : Ends} {σ : St} {H : Hp} (h : t { D with nx := u D } σ H) : tThru t u D σ H := h
/-! the node that a tuple tells -/
def sp_node_of (Z : Adr) : Sp := fun vs H Q _ => ∃ u n, vs = [u] ∧ NdT H n u ∧ n.good ∧ ∀ v H2, Ex H H2 → NdFr Z H H2 n v → Q v H2
theorem ok_node_of (T : Txt K mg Z)  : FnOk P w K mg base CX0 (31) Z.f_node_of Z.fd_node_of ["told"] (sp_node_of Z) := by
  have G_Node_init := ok_Node_init (P := P) (w := w) (base := base) T
  refine T.F_node_of.ok sc_node_of (fun vs H Q E h => ?_) (fun cdv AA outer s H vs Q E hr h => ?_)
  · obtain ⟨u, n, rfl, _⟩ := h
    rfl
  · obtain ⟨u, n, rfl, ⟨a, p, q, t, us, rfl, ga, gp, gq, gt, hrw⟩, hg, k⟩ := h
    refine ⟨_, (pss_cons (ps_if (PW.pt (pw_or (pt_not (pt_val (pe_callB call_isi (by rfl) T.n_isinstance (by decide +kernel) (pa_cons (pv 0) (pa_cons (pe_bltn (v := .ty "tuple") (by rfl) T.n_tuple (by decide +kernel) rfl) pa_nil))))) (pw_or1 (pt_cmpR op_ne (pe_callB call_len_seq (by rfl) T.n_len (by decide +kernel) (pa_cons (pv 0) pa_nil)) (pe_gcst rfl T.c_TOLD_THINGS) (nomark _))))) (pss_one ps_never) pss_nil)
      (pss_cons (ps_if (pt_not (pt_val (pe_callB (cr_all rfl) (by rfl) T.n_all (by decide +kernel) (pa_cons (pe_lc (own := [("thing", 1)]) (g := (gName 1)) (tt := tYes) (te := (tCB (rIsi K) (tCons (tVar 1) (tCons (tC (.ty "tuple")) tNil)))) rfl sc_node_of.nd (pi_tup (pe_slice sl_tup (pv 0) (po_some pe_int) po_none)) (blkOk_by (own := [("thing", 1)]) (N := N_node_of) (sc := defScope s_node_of) (by decide +kernel)) (fun _ _ _ _ _ => (pg_name (i := 1) sc_node_of.nd rfl (Or.inl rfl))) (fun _ _ _ _ _ => pts_nil) (fun _ _ _ _ _ => (pe_callB call_isi (by rfl) T.n_isinstance (by decide +kernel) (pa_cons (pv 1) (pa_cons (pe_bltn (v := .ty "tuple") (by rfl) T.n_tuple (by decide +kernel) rfl) pa_nil))))) pa_nil)))) (pss_one ps_never) pss_nil)
      (pss_one (ps_try_thru (pss_one (ps_set (i := 2) sc_node_of.nd rfl (Or.inl rfl) (pe_make ⟨(tcB_ok T.x_Node).makes, T.i_Node, T.y_Node_init, (tcB_ok T.x_Node).kp⟩ G_Node_init (hr.mono (by omega)) rfl T.m_Node T.b_Node_init .nil pass0 (pa_cons (pe_ix ix_tup (pv 0) pe_int (fun _ _ => rfl)) (pa_cons (pe_ix ix_tup (pv 0) pe_int (fun _ _ => rfl)) (pa_cons (pe_ix ix_tup (pv 0) pe_int (fun _ _ => rfl)) (pa_cons (pe_ix ix_tup (pv 0) pe_int (fun _ _ => rfl)) pa_nil))))))) (pss_one (ps_ret (pv 2))))))), ?_⟩
    walk_at "ss"
    refine isi (ty_tup ga) kb_tt ?_
    walk_at "ss"
    refine ⟨a, _, rfl, .inr (SqT.of ga), ?_⟩
    walk_at "ss"
    refine if_ff (by rfl) ?_
    walk_at "ss"
    refine ⟨a, _, rfl, SqT.of ga, (by
      intro z
      have h1 := z.1
      rw [show (1 : Int) = ((1 : Nat) : Int) from rfl, HT.sIx_nat] at h1
      simp at h1), fun p2 hp2 => ?_⟩
    rw [show cutV [.str n.nm, .ref p, .ref q, .ref t] (some 1) none = [.ref p, .ref q, .ref t] from rfl]
    have e2 : Ex H (upd H p2 (.tup [.ref p, .ref q, .ref t])) := Ex.new hp2
    have g2 : upd H p2 (.tup [.ref p, .ref q, .ref t]) p2 = some (.tup [.ref p, .ref q, .ref t]) := upd_same
    generalize upd H p2 (.tup [.ref p, .ref q, .ref t]) = H2 at e2 g2
    refine ⟨p2, rfl, ⟨_, SqT.of g2⟩, ?_⟩
    refine lcT (fun _ => some (.bl true)) (SqT.of g2) (by simp) (fun i x hx F2 f2 R hR => ?_) ?_
    · have hty : TyX K F2 x (.type "tuple") := by
        have e := e2.trans f2
        match i, hx with
        | 0, hx => cases hx; exact ty_tup (e _ _ gp)
        | 1, hx => cases hx; exact ty_tup (e _ _ gq)
        | 2, hx => cases hx; exact ty_tup (e _ _ gt)
      walk_at "ss"
      refine isi hty kb_tt ?_
      exact hR _ (Ex.refl _)
    intro l3 H3 hl3 e3 g3
    walk_at "ss"
    refine ⟨l3, [true, true, true], rfl, SqL.of g3, ?_⟩
    walk_at "ss"
    have e03 := e2.trans e3
    refine if_ff (by rfl) ?_
    walk_at "ss"
    refine c_thru ?_
    walk_at "ss"
    refine c_ixT (SqT.of (e03 _ _ ga)) rfl ?_
    walk_at "ss"
    refine c_ixT (SqT.of (e03 _ _ ga)) rfl ?_
    walk_at "ss"
    refine c_ixT (SqT.of (e03 _ _ ga)) rfl ?_
    walk_at "ss"
    refine c_ixT (SqT.of (e03 _ _ ga)) rfl ?_
    walk_at "ss"
    intro x dx hx hdx nxd
    have eM : Ex H3 (upd (upd H3 dx (.own x)) x (.ins Z.c_Node dx [])) := fun b o hb => by rw [upd_ne (ne_of_none hb hx), upd_ne (ne_of_none hb hdx)]; exact hb
    refine ⟨x, dx, n, p, q, t, us, H3, false, false, false, rfl, upd_same, hx, eM, e03 _ _ gp, e03 _ _ gq, e03 _ _ gt, paired_up (fun r u h => h.up e03) hrw, hg, fun H4 e4 h4 => ⟨rfl, ?_⟩⟩
    walk_at "ss"
    exact k _ H4 (e03.trans e4) (h4.back e03)

/-! ### unlike things are shown unlike -/
open TL (tl)
def plC (c : Nat) : Bool := decide (33 ≤ c ∧ c < 127 ∧ c ≠ 39 ∧ c ≠ 92)
mutual
def plD : PyData → Bool
  | .none => true
  | .bool _ => true
  | .int _ => true
  | .str s => (tl s).all plC
  | .list ds => plAll ds
  | .tuple ds => plAll ds
  | .dict _ => false
def plAll : List PyData → Bool
  | [] => true
  | d :: ds => plD d && plAll ds
end
theorem plAll_of {ds : List PyData} (h : ∀ d ∈ ds, plD d = true) : plAll ds = true := by
  induction ds with
  | nil => rfl
  | cons d ds ih => rw [plAll, h d List.mem_cons_self, ih fun x hx => h x (List.mem_cons_of_mem _ hx)]; rfl
theorem prn_all : ∀ c < 127, 33 ≤ c → PySem.Unicode.isPrintable c = true := by decide +kernel
theorem reprC_pl {c : Nat} (h : plC c = true) : Builtin.Str.reprChar 39 c = [c] := by
  unfold plC at h
  rw [decide_eq_true_eq] at h
  obtain ⟨h1, h2, h3, h4⟩ := h
  unfold Builtin.Str.reprChar
  have e1 : (c == 39 || c == 92) = false := by simp [h3, h4]
  have e2 : (c == 10) = false := by simp; omega
  have e3 : (c == 13) = false := by simp; omega
  have e4 : (c == 9) = false := by simp; omega
  simp only [e1, e2, e3, e4, prn_all c h2 h1, Bool.false_eq_true, ↓reduceIte]
theorem foldR_pl : ∀ (l : List Nat) (acc : Array Nat), (∀ c ∈ l, plC c = true) → (l.foldl (fun out c => out ++ (Builtin.Str.reprChar 39 c).toArray) acc).toList = acc.toList ++ l
  | [], acc, _ => by simp
  | c :: l, acc, h => by
    rw [List.foldl_cons, foldR_pl l _ fun x hx => h x (List.mem_cons_of_mem _ hx), reprC_pl (h c List.mem_cons_self)]
    simp
theorem repr_pl {x : Str} (h : (tl x).all plC = true) : tl (reprText x) = 39 :: (tl x ++ [39]) := by
  rw [List.all_eq_true] at h
  have hq : reprQuote x = 39 := by
    unfold reprQuote
    have hc : x.cps.contains 39 = false := by
      cases hc : x.cps.contains 39 with
      | false => rfl
      | true =>
        have : (39 : Nat) ∈ tl x := by
          have := Array.contains_iff_mem.mp hc
          exact Array.mem_toList_iff.mpr this
        have := h 39 this
        exact absurd this (by decide)
    rw [hc]
    rfl
  show ((x.cps.foldl (fun out c => out ++ (Builtin.Str.reprChar (reprQuote x) c).toArray) #[reprQuote x]).push (reprQuote x)).toList = _
  rw [hq, Array.toList_push, ← Array.foldl_toList, foldR_pl _ _ h]
  simp [tl]
def sh (d : PyData) : List Nat := tl d.shown
def tlj : List PyData → List Nat
  | [] => []
  | d :: ds => 44 :: 32 :: (sh d ++ tlj ds)
def jl : List PyData → List Nat
  | [] => []
  | d :: ds => sh d ++ tlj ds
theorem tl_sep : tl ", " = [44, 32] := by decide +kernel
theorem join_jl : ∀ ds : List PyData, tl (Str.join ", " (PyData.shownAll ds)) = jl ds
  | [] => by rw [PyData.shownAll]; rfl
  | [d] => by
    rw [PyData.shownAll, PyData.shownAll]
    show tl d.shown = sh d ++ tlj []
    rw [tlj, List.append_nil]
    rfl
  | d :: e :: ds => by
    have ih := join_jl (e :: ds)
    rw [PyData.shownAll] at ih
    rw [PyData.shownAll, PyData.shownAll, PyProof.Rows.join_cons_cons, TL.tl_append, TL.tl_append, ih, tl_sep]
    show (sh d ++ [44, 32]) ++ (sh e ++ tlj ds) = sh d ++ 44 :: 32 :: (sh e ++ tlj ds)
    rw [List.append_assoc]
    rfl
theorem sh_list (ds : List PyData) : sh (.list ds) = 91 :: (jl ds ++ [93]) := by
  unfold sh
  rw [PyData.shown, listText_eq_join, TL.tl_append, TL.tl_append, join_jl]
  have e1 : tl "[" = [91] := by decide +kernel
  have e2 : tl "]" = [93] := by decide +kernel
  rw [e1, e2]
  simp
def endT (ds : List PyData) : List Nat := if ds.length = 1 then [44, 41] else [41]
theorem sAll_len : ∀ ds : List PyData, (PyData.shownAll ds).length = ds.length
  | [] => by rw [PyData.shownAll]; rfl
  | d :: ds => by rw [PyData.shownAll, List.length_cons, List.length_cons, sAll_len ds]
theorem sh_tuple (ds : List PyData) : sh (.tuple ds) = 40 :: (jl ds ++ endT ds) := by
  unfold sh
  rw [PyData.shown]
  unfold tupleText
  rw [TL.tl_append, TL.tl_append, join_jl, sAll_len]
  have e1 : tl "(" = [40] := by decide +kernel
  have e2 : tl ",)" = [44, 41] := by decide +kernel
  have e3 : tl ")" = [41] := by decide +kernel
  unfold endT
  by_cases h : ds.length = 1
  · rw [if_pos h, if_pos (by simp [h]), e1, e2]
    simp
  · rw [if_neg h, if_neg (by simp [h]), e1, e3]
    simp
theorem sh_str {s : Str} (h : (tl s).all plC = true) : sh (.str s) = 39 :: (tl s ++ [39]) := by
  unfold sh
  rw [PyData.shown, repr_pl h]
def dgC (c : Nat) : Bool := decide (c = 45 ∨ 48 ≤ c ∧ c ≤ 57)
theorem sh_int_all (i : Int) : (sh (.int i)).all dgC = true := by
  unfold sh
  rw [PyData.shown, List.all_eq_true]
  intro c hc
  rw [TL.tl_ofString] at hc
  obtain ⟨ch, h1, rfl⟩ := List.mem_map.mp hc
  unfold dgC
  rw [decide_eq_true_eq]
  rcases PyProof.Rows.int_sign i ch h1 with h | h
  · exact .inr (PyProof.Rows.digit_range h)
  · rw [h]; exact .inl (by decide)
theorem toNat_inj {a b : Char} (h : a.toNat = b.toNat) : a = b := by
  apply Char.ext
  apply UInt32.toNat_inj.mp
  exact h
theorem map_toNat_inj : ∀ {a b : List Char}, a.map Char.toNat = b.map Char.toNat → a = b
  | [], [], _ => rfl
  | [], _ :: _, h => by cases h
  | _ :: _, [], h => by cases h
  | x :: a, y :: b, h => by
    rw [List.map_cons, List.map_cons] at h
    injection h with h1 h2
    rw [toNat_inj h1, map_toNat_inj h2]
theorem sh_int_inj {i j : Int} (h : sh (.int i) = sh (.int j)) : i = j := by
  unfold sh at h
  rw [PyData.shown, PyData.shown, TL.tl_ofString, TL.tl_ofString] at h
  have h2 := map_toNat_inj h
  have h3 : toString i = toString j := by
    apply String.toList_inj.mp
    exact h2
  exact Int.repr_injective h3
theorem sh_int_ne (i : Int) : ∃ c t, sh (.int i) = c :: t ∧ dgC c = true := by
  have ha := sh_int_all i
  cases h : sh (.int i) with
  | nil =>
    exfalso
    unfold sh at h
    rw [PyData.shown, TL.tl_ofString] at h
    have h2 : (toString i).toList = [] := List.map_eq_nil_iff.mp h
    rw [Int.toString_eq_repr, Int.repr_eq_if] at h2
    split at h2
    · rw [Nat.toList_repr] at h2
      exact Nat.toDigits_ne_nil h2
    · rw [String.toList_append] at h2
      exact absurd (List.append_eq_nil_iff.mp h2).1 (by decide)
  | cons c t =>
    rw [h, List.all_cons, Bool.and_eq_true] at ha
    exact ⟨c, t, rfl, ha.1⟩
/-- the kind of a thing, by the first sign that is shown of it -/
def kdD : PyData → Nat
  | .none => 0
  | .bool true => 1
  | .bool false => 2
  | .int _ => 3
  | .str _ => 4
  | .list _ => 5
  | .tuple _ => 6
  | .dict _ => 7
def kc (c : Nat) : Nat := if c = 78 then 0 else if c = 84 then 1 else if c = 70 then 2 else if c = 39 then 4 else if c = 91 then 5 else if c = 40 then 6 else 3
theorem kc_dg {c : Nat} (h : dgC c = true) : kc c = 3 := by
  unfold dgC at h
  rw [decide_eq_true_eq] at h
  unfold kc
  rw [if_neg (by omega), if_neg (by omega), if_neg (by omega), if_neg (by omega), if_neg (by omega), if_neg (by omega)]
theorem sh_none : sh .none = [78, 111, 110, 101] := by unfold sh; rw [PyData.shown]; decide +kernel
theorem sh_true : sh (.bool true) = [84, 114, 117, 101] := by unfold sh; rw [PyData.shown]; decide +kernel
theorem sh_false : sh (.bool false) = [70, 97, 108, 115, 101] := by unfold sh; rw [PyData.shown]; decide +kernel
theorem sh_hd : ∀ {d : PyData}, plD d = true → ∃ c t, sh d = c :: t ∧ kc c = kdD d ∧ c ≠ 41 ∧ c ≠ 93 ∧ c ≠ 44
  | .none, _ => ⟨_, _, sh_none, rfl, by decide, by decide, by decide⟩
  | .bool true, _ => ⟨_, _, sh_true, rfl, by decide, by decide, by decide⟩
  | .bool false, _ => ⟨_, _, sh_false, rfl, by decide, by decide, by decide⟩
  | .int i, _ => by
    obtain ⟨c, t, h1, h2⟩ := sh_int_ne i
    refine ⟨c, t, h1, kc_dg h2, ?_⟩
    unfold dgC at h2
    rw [decide_eq_true_eq] at h2
    omega
  | .str s, h => ⟨_, _, sh_str (by rw [plD] at h; exact h), rfl, by decide, by decide, by decide⟩
  | .list ds, _ => ⟨_, _, sh_list ds, rfl, by decide, by decide, by decide⟩
  | .tuple ds, _ => ⟨_, _, sh_tuple ds, rfl, by decide, by decide, by decide⟩
  | .dict kvs, h => by rw [plD] at h; cases h
def Stop (r : List Nat) : Prop := r = [] ∨ ∃ c t, r = c :: t ∧ (c = 44 ∨ c = 41 ∨ c = 93)
theorem cut_all {p : Nat → Bool} : ∀ {a b r s : List Nat}, a.all p = true → b.all p = true → (∀ c t, r = c :: t → p c = false) → (∀ c t, s = c :: t → p c = false) → a ++ r = b ++ s → a = b ∧ r = s
  | [], [], r, s, _, _, _, _, h => ⟨rfl, h⟩
  | [], y :: b, r, s, _, hb, hr, _, h => by
    rw [List.all_cons, Bool.and_eq_true] at hb
    have := hr y (b ++ s) h
    rw [hb.1] at this
    cases this
  | x :: a, [], r, s, ha, _, _, hs, h => by
    rw [List.all_cons, Bool.and_eq_true] at ha
    have := hs x (a ++ r) h.symm
    rw [ha.1] at this
    cases this
  | x :: a, y :: b, r, s, ha, hb, hr, hs, h => by
    rw [List.all_cons, Bool.and_eq_true] at ha hb
    rw [List.cons_append, List.cons_append] at h
    injection h with h1 h2
    obtain ⟨e1, e2⟩ := cut_all ha.2 hb.2 hr hs h2
    exact ⟨by rw [h1, e1], e2⟩
theorem Stop.dg {r : List Nat} (h : Stop r) : ∀ c t, r = c :: t → dgC c = false := by
  intro c t e
  rcases h with h | ⟨c', t', h, hc⟩
  · rw [h] at e; cases e
  · rw [h] at e
    injection e with e1 e2
    subst e1
    rcases hc with rfl | rfl | rfl <;> decide
def Ender (E : List Nat) : Prop := (∃ r, E = 44 :: 41 :: r) ∨ ∃ c r, E = c :: r ∧ (c = 41 ∨ c = 93)
theorem Ender.stop {E : List Nat} (h : Ender E) (ds : List PyData) : Stop (tlj ds ++ E) := by
  cases ds with
  | nil =>
    rcases h with ⟨r, rfl⟩ | ⟨c, r, rfl, hc⟩
    · exact .inr ⟨_, _, rfl, .inl rfl⟩
    · exact .inr ⟨_, _, rfl, .inr hc⟩
  | cons d ds => exact .inr ⟨_, _, rfl, .inl rfl⟩
theorem Ender.no32 {E : List Nat} (h : Ender E) (t : List Nat) : E ≠ 44 :: 32 :: t := by
  rcases h with ⟨r, rfl⟩ | ⟨c, r, rfl, hc⟩
  · intro e; injection e with _ e; injection e with e _; cases e
  · intro e; injection e with e _; omega
theorem endT_ender (ds : List PyData) (r : List Nat) : Ender (endT ds ++ r) := by
  unfold endT
  split
  · exact .inl ⟨r, rfl⟩
  · exact .inr ⟨41, r, rfl, .inl rfl⟩
theorem sh_kd {d e : PyData} (hd : plD d = true) (he : plD e = true) {r s : List Nat} (h : sh d ++ r = sh e ++ s) : kdD d = kdD e := by
  obtain ⟨c, t, h1, h2, _⟩ := sh_hd hd
  obtain ⟨c', t', h3, h4, _⟩ := sh_hd he
  rw [h1, h3, List.cons_append, List.cons_append] at h
  injection h with h _
  rw [← h2, ← h4, h]
theorem sh_inj0 {d e : PyData} (hd : plD d = true) (he : plD e = true) {r s : List Nat} (h : sh d ++ r = sh e ++ s) (hk : kdD d = kdD e → d = e) : d = e ∧ r = s := by
  have e1 := hk (sh_kd hd he h)
  subst e1
  exact ⟨rfl, List.append_cancel_left h⟩
mutual
theorem sh_inj : ∀ (d e : PyData), plD d = true → plD e = true → ∀ r s, Stop r → Stop s → sh d ++ r = sh e ++ s → d = e ∧ r = s
  | .none, e, hd, he, r, s, hr, hs, h => sh_inj0 hd he h (by intro hk; cases e with | none => rfl | bool b => cases b <;> cases hk | _ => cases hk)
  | .bool b, e, hd, he, r, s, hr, hs, h => sh_inj0 hd he h (by intro hk; cases e with | bool c => (cases b <;> cases c <;> first | rfl | cases hk) | _ => (cases b <;> cases hk))
  | .int i, e, hd, he, r, s, hr, hs, h => by
    have hk := sh_kd hd he h
    cases e with
    | int j =>
      obtain ⟨e1, e2⟩ := cut_all (sh_int_all i) (sh_int_all j) hr.dg hs.dg h
      exact ⟨by rw [sh_int_inj e1], e2⟩
    | bool c => cases c <;> cases hk
    | _ => cases hk
  | .str x, e, hd, he, r, s, hr, hs, h => by
    have hk := sh_kd hd he h
    cases e with
    | str y =>
      rw [plD] at hd he
      rw [sh_str hd, sh_str he, List.cons_append, List.cons_append, List.append_assoc, List.append_assoc] at h
      injection h with _ h
      have h39 : ∀ {z : Str}, (tl z).all plC = true → (tl z).all (fun c => decide (c ≠ 39)) = true := by
        intro z hz
        rw [List.all_eq_true] at hz ⊢
        intro c hc
        have := hz c hc
        unfold plC at this
        rw [decide_eq_true_eq] at this ⊢
        exact this.2.2.1
      obtain ⟨e1, e2⟩ := cut_all (h39 hd) (h39 he) (fun c t e => by injection e with e _; subst e; rfl) (fun c t e => by injection e with e _; subst e; rfl) h
      injection e2 with _ e2
      exact ⟨by rw [TL.ext_tl e1], e2⟩
    | bool c => cases c <;> cases hk
    | _ => cases hk
  | .list ds, e, hd, he, r, s, hr, hs, h => by
    have hk := sh_kd hd he h
    cases e with
    | list es =>
      rw [plD] at hd he
      rw [sh_list, sh_list, List.cons_append, List.cons_append, List.append_assoc, List.append_assoc] at h
      injection h with _ h
      obtain ⟨e1, e2⟩ := jl_inj ds es hd he _ _ (.inr ⟨93, r, rfl, .inr rfl⟩) (.inr ⟨93, s, rfl, .inr rfl⟩) h
      injection e2 with _ e2
      exact ⟨by rw [e1], e2⟩
    | bool c => cases c <;> cases hk
    | _ => cases hk
  | .tuple ds, e, hd, he, r, s, hr, hs, h => by
    have hk := sh_kd hd he h
    cases e with
    | tuple es =>
      rw [plD] at hd he
      rw [sh_tuple, sh_tuple, List.cons_append, List.cons_append, List.append_assoc, List.append_assoc] at h
      injection h with _ h
      obtain ⟨e1, e2⟩ := jl_inj ds es hd he _ _ (endT_ender ds r) (endT_ender es s) h
      subst e1
      exact ⟨rfl, List.append_cancel_left e2⟩
    | bool c => cases c <;> cases hk
    | _ => cases hk
  | .dict kvs, e, hd, he, r, s, hr, hs, h => by rw [plD] at hd; cases hd
theorem jl_inj : ∀ (ds es : List PyData), plAll ds = true → plAll es = true → ∀ E F, Ender E → Ender F → jl ds ++ E = jl es ++ F → ds = es ∧ E = F
  | [], [], _, _, E, F, _, _, h => ⟨rfl, h⟩
  | [], e :: es, _, he, E, F, hE, _, h => by
    rw [plAll, Bool.and_eq_true] at he
    obtain ⟨c, t, h1, _, h2, h3, h4⟩ := sh_hd he.1
    exfalso
    have h5 : E = c :: (t ++ tlj es ++ F) := by
      have : E = (sh e ++ tlj es) ++ F := h
      rw [h1] at this
      simpa using this
    rcases hE with ⟨r, e2⟩ | ⟨c', r, e2, hc⟩
    · rw [e2] at h5; injection h5 with h5 _; exact h4 h5.symm
    · rw [e2] at h5; injection h5 with h5 _; omega
  | d :: ds, [], hd, _, E, F, _, hF, h => by
    rw [plAll, Bool.and_eq_true] at hd
    obtain ⟨c, t, h1, _, h2, h3, h4⟩ := sh_hd hd.1
    exfalso
    have h5 : F = c :: (t ++ tlj ds ++ E) := by
      have : F = (sh d ++ tlj ds) ++ E := h.symm
      rw [h1] at this
      simpa using this
    rcases hF with ⟨r, e2⟩ | ⟨c', r, e2, hc⟩
    · rw [e2] at h5; injection h5 with h5 _; exact h4 h5.symm
    · rw [e2] at h5; injection h5 with h5 _; omega
  | d :: ds, e :: es, hd, he, E, F, hE, hF, h => by
    rw [plAll, Bool.and_eq_true] at hd he
    rw [jl, jl, List.append_assoc, List.append_assoc] at h
    obtain ⟨e1, e2⟩ := sh_inj d e hd.1 he.1 _ _ (hE.stop ds) (hF.stop es) h
    obtain ⟨e3, e4⟩ := tlj_inj ds es hd.2 he.2 E F hE hF e2
    exact ⟨by rw [e1, e3], e4⟩
theorem tlj_inj : ∀ (ds es : List PyData), plAll ds = true → plAll es = true → ∀ E F, Ender E → Ender F → tlj ds ++ E = tlj es ++ F → ds = es ∧ E = F
  | [], [], _, _, E, F, _, _, h => ⟨rfl, h⟩
  | [], e :: es, _, he, E, F, hE, _, h => absurd h (hE.no32 _)
  | d :: ds, [], hd, _, E, F, _, hF, h => absurd h.symm (hF.no32 _)
  | d :: ds, e :: es, hd, he, E, F, hE, hF, h => by
    rw [plAll, Bool.and_eq_true] at hd he
    rw [tlj, tlj, List.cons_append, List.cons_append, List.cons_append, List.cons_append, List.append_assoc, List.append_assoc] at h
    injection h with _ h
    injection h with _ h
    obtain ⟨e1, e2⟩ := sh_inj d e hd.1 he.1 _ _ (hE.stop ds) (hF.stop es) h
    obtain ⟨e3, e4⟩ := tlj_inj ds es hd.2 he.2 E F hE hF e2
    exact ⟨by rw [e1, e3], e4⟩
end
theorem shown_inj {d e : PyData} (hd : plD d = true) (he : plD e = true) (h : d.shown = e.shown) : d = e := (sh_inj d e hd he [] [] (.inl rfl) (.inl rfl) (by rw [List.append_nil, List.append_nil]; unfold sh; rw [h])).1

/-! ### the law's own names, values, terms, rows -/
def W14 : List Str := ["a", "inx", "outs", "nodea", "beats", "b", "ab", "holdx", "whenq", "z", "cfgjpv", "truex", "likely", "modest"]
theorem goodN_of {s : Str} (h : (isPointed s && (decide (s.length ≤ 80) && (TL.tl s).all fun c => decide (c < 1114112))) = true) : goodN s := by
  rw [Bool.and_eq_true, Bool.and_eq_true, decide_eq_true_eq] at h
  exact ⟨h.1, h.2.1, OkT.lit h.2.2⟩
def okNb (s : Str) : Bool := isPointed s && (decide (s.length ≤ 80) && (TL.tl s).all fun c => decide (c < 1114112))
theorem w14_good : ∀ w ∈ W14, goodN w ∧ goodN ("p." ++ w) ∧ goodN (w ++ ".holdx" ++ Str.empty) ∧ goodN (w ++ ".holdx" ++ ".y") := by
  have h : W14.all (fun w => okNb w && (okNb ("p." ++ w) && (okNb (w ++ ".holdx" ++ Str.empty) && okNb (w ++ ".holdx" ++ ".y")))) = true := by decide +kernel
  intro w hw
  have := List.all_eq_true.mp h w hw
  rw [Bool.and_eq_true, Bool.and_eq_true, Bool.and_eq_true] at this
  exact ⟨goodN_of this.1, goodN_of this.2.1, goodN_of this.2.2.1, goodN_of this.2.2.2⟩
theorem at4i {x0 x1 x2 x3 : Int} {d : Int} (h0 : 0 ≤ d) (h1 : d < 4) : ∃ m, atI [V.int x0, .int x1, .int x2, .int x3] d = some (.int m) ∧ (m = x0 ∨ m = x1 ∨ m = x2 ∨ m = x3) := by
  have : d = 0 ∨ d = 1 ∨ d = 2 ∨ d = 3 := by omega
  rcases this with rfl | rfl | rfl | rfl
  · exact ⟨_, rfl, .inl rfl⟩
  · exact ⟨_, rfl, .inr (.inl rfl)⟩
  · exact ⟨_, rfl, .inr (.inr (.inl rfl))⟩
  · exact ⟨_, rfl, .inr (.inr (.inr rfl))⟩
def sp_value_l : Sp := fun vs H Q _ => ∃ b, vs = [.ref b] ∧ BoxAt H b ∧ ∀ v H2, isVal v = true → ExB b H H2 → BoxAt H2 b → Q v H2
theorem val_of {i : Int} (h1 : -1000000000 ≤ i) (h2 : i ≤ 1000000000) : isVal (.int i) = true := by
  show (decide (-1000000000 ≤ i) && decide (i ≤ 1000000000)) = true
  rw [decide_eq_true h1, decide_eq_true h2] <;> rfl
theorem ok_value_l (T : Txt K mg Z) : FnOk P w K mg base CX0 2 Z.f_value_l Z.fd_value_l ["_law_box_here"] sp_value_l := by
  have G_take_l := ok_take_l (P := P) (w := w) (base := base) T
  refine T.F_value_l.ok sc_value_l (fun vs H Q E h => ?_) (fun cdv AA outer s H vs Q E hr h => ?_)
  · obtain ⟨b, rfl, _⟩ := h
    rfl
  · obtain ⟨b, rfl, hB, k⟩ := h
    refine ⟨_, (pss_cons (ps_set (i := 1) sc_value_l.nd rfl (Or.inl rfl) (pe_lst (pa_cons pe_bl (pa_cons pe_bl (pa_cons pe_int (pa_cons pe_int (pa_cons (pe_un un_neg pe_int) (pa_cons (pe_op op_pow pe_int pe_int) (pa_cons (pe_un un_neg (pe_op op_pow pe_int pe_int)) (pa_cons (pe_op op_sub (pe_call G_take_l (hr.mono (by omega)) rfl T.g_take_l T.F_take_l.kp T.b_take_l .nil pass0 (pa_cons (pv 0) (pa_cons pe_int pa_nil))) (pe_op op_pow pe_int pe_int)) (pa_cons (pe_op op_sub (pe_call G_take_l (hr.mono (by omega)) rfl T.g_take_l T.F_take_l.kp T.b_take_l .nil pass0 (pa_cons (pv 0) (pa_cons pe_int pa_nil))) pe_int) pa_nil)))))))))))
      (pss_one (ps_ret (pe_ix ix_list (pv 1) (pe_call G_take_l (hr.mono (by omega)) rfl T.g_take_l T.F_take_l.kp T.b_take_l .nil pass0 (pa_cons (pv 0) (pa_cons pe_int pa_nil))) (fun _ _ => rfl))))), ?_⟩
    walk_at "ss"
    refine c_I ⟨by decide, by decide, by decide⟩ ?_
    walk_at "ss"
    refine c_I ⟨by decide, by decide, by decide⟩ ?_
    walk_at "ss"
    refine ⟨b, 2000000001, rfl, hB, by decide, by decide, fun d1 H1 h10 h11 e1 b1 => ?_⟩
    walk_at "ss"
    refine c_I ⟨by decide, by decide, by decide⟩ ?_
    walk_at "ss"
    refine ⟨b, 40, rfl, b1, by decide, by decide, fun d2 H2 h20 h21 e2 b2 => ?_⟩
    walk_at "ss"
    refine newL fun p H3 hp e3 g3 => ?_
    walk_at "ss"
    refine ⟨b, 9, rfl, b2.ex e3, by decide, by decide, fun d H4 h0 h1 e4 b4 => ?_⟩
    have e9 : (10 : Int) ^ Int.toNat 9 = 1000000000 := by decide
    rw [e9] at g3
    have npb : p ≠ b := by
      obtain ⟨ob, hob⟩ := b2.some
      exact (ne_of_none hob hp).symm
    obtain ⟨v, hv, hvm⟩ := at_in (xs := [V.bl true, .bl false, .int 0, .int 1, .int (-1), .int 1000000000, .int (-1000000000), .int (d1 - 1000000000), .int (d2 - 20)]) h0 h1
    refine c_ixL (SqL.of (e4 _ _ npb g3)) hv ?_
    refine k _ _ ?_ (e1.trans (e2.trans ((ExB.of e3).trans e4))) b4
    simp only [List.mem_cons, List.not_mem_nil, or_false] at hvm
    rcases hvm with rfl | rfl | rfl | rfl | rfl | rfl | rfl | rfl | rfl
    · rfl
    · rfl
    · exact val_of (by omega) (by omega)
    · exact val_of (by omega) (by omega)
    · exact val_of (by omega) (by omega)
    · exact val_of (by omega) (by omega)
    · exact val_of (by omega) (by omega)
    · exact val_of (by omega) (by omega)
    · exact val_of (by omega) (by omega)
/-- a good term of these names -/
def TG (ns : List Str) (t : Tm) : Prop := t.good ∧ ∀ s ∈ t.flat, s ∈ ns
theorem tg_nm {ns : List Str} {s : Str} (hs : s ∈ ns) (h : goodN s) : TG ns (.nm s) := ⟨h, fun z hz => by have e : z = s := (by simpa [Tm.flat] using hz); rw [e]; exact hs⟩
theorem tg_vl {ns : List Str} {v : V} (h : isVal v = true) : TG ns (.vl v) := ⟨h, fun z hz => by cases hz⟩
theorem tg_two {ns : List Str} {op : Str} {a b : Tm} (ho : op ∈ opsW) (ha : TG ns a) (hb : TG ns b) : TG ns (.two op a b) := ⟨⟨ho, ha.1, hb.1⟩, fun z hz => (List.mem_append.mp hz).elim (ha.2 z) (hb.2 z)⟩
theorem tg_pk {ns : List Str} {c a b : Tm} (hc : TG ns c) (ha : TG ns a) (hb : TG ns b) : TG ns (.pk c a b) := ⟨⟨hc.1, ha.1, hb.1⟩, fun z hz => (List.mem_append.mp hz).elim (fun h => (List.mem_append.mp h).elim (hc.2 z) (ha.2 z)) (hb.2 z)⟩
def sp_trm (n : Nat) : Sp := fun vs H Q _ => ∃ (b : Addr) (l : Nat) (nl : Addr) (ns : List Str), vs = [.ref b, .ref nl, .int (l : Nat)] ∧ BoxAt H b ∧ H nl = some (.lst (ns.map V.str)) ∧ (∀ s ∈ ns, goodN s) ∧ 0 < ns.length ∧ ns.length ≤ 300 ∧ 1 ≤ l ∧ l ≤ n ∧
  ∀ t u H2, Tm.dep t ≤ l → TG ns t → ToldAt H2 t u → ExB b H H2 → BoxAt H2 b → Q u H2
theorem nl_ne {G : Hp} {b nl : Addr} {ns : List Str} (hn0 : 0 < ns.length) (hb : BoxAt G b) (h : G nl = some (.lst (ns.map V.str))) : nl ≠ b := box_ne hb h fun x y z e => by
  cases ns with
  | nil => simp at hn0
  | cons s ns => cases e
theorem nl_up {G G2 : Hp} {b nl : Addr} {ns : List Str} (hn0 : 0 < ns.length) (hb : BoxAt G b) (h : G nl = some (.lst (ns.map V.str))) (e : ExB b G G2) : G2 nl = some (.lst (ns.map V.str)) := e _ _ (nl_ne hn0 hb h) h
theorem at26 {d : Int} {l : Nat} : ∃ m : Int, atI [V.int 2, .int 6] (if decide ((1 : Int) < (l : Int)) = true then 1 else 0) = some (.int m) ∧ (m = 2 ∨ m = 6 ∧ 2 ≤ l) := by
  by_cases h : (1 : Int) < (l : Int)
  · rw [decide_eq_true h]; exact ⟨6, rfl, .inr ⟨rfl, by omega⟩⟩
  · rw [decide_eq_false h]; exact ⟨2, rfl, .inl rfl⟩
theorem at2 {x y : V} {d : Int} (h0 : 0 ≤ d) (h1 : d < 2) : atI [x, y] d = some x ∨ atI [x, y] d = some y := by
  have : d = 0 ∨ d = 1 := by omega
  rcases this with rfl | rfl
  · exact .inl rfl
  · exact .inr rfl
theorem ok_term_l (T : Txt K mg Z) {n : Nat} (G_term_l : FnOk P w K mg base CX0 (n + 3) Z.f_term_l Z.fd_term_l ["_law_box_here", "_law_names_here", "_law_levels"] (sp_trm n)) : FnOk P w K mg base CX0 (n + 4) Z.f_term_l Z.fd_term_l ["_law_box_here", "_law_names_here", "_law_levels"] (sp_trm (n + 1)) := by
  have G_take_l := ok_take_l (P := P) (w := w) (base := base) T
  have G_value_l := ok_value_l (P := P) (w := w) (base := base) T
  refine T.F_term_l.ok sc_term_l (fun vs H Q E h => ?_) (fun cdv AA outer s H vs Q E hr h => ?_)
  · obtain ⟨b, l, nl, ns, rfl, _⟩ := h
    rfl
  · obtain ⟨b, l, nl, ns, rfl, hB, hnl, hg, hn0, hn1, hl1, hln, k⟩ := h
    refine ⟨_, (pss_cons (ps_set (i := 3) sc_term_l.nd rfl (Or.inl rfl) (pe_call G_take_l (hr.mono (by omega)) rfl T.g_take_l T.F_take_l.kp T.b_take_l .nil pass0 (pa_cons (pv 0) (pa_cons (pe_ix ix_list (pe_lst (pa_cons pe_int (pa_cons pe_int pa_nil))) (pe_callTy call_int1 (by rfl) T.n_int (by decide +kernel) (pa_cons (pe_cmpR op_gt (pv 2) pe_int (nomark _)) pa_nil)) (fun _ _ => rfl)) pa_nil))))
      (pss_cons (ps_if (pt_cmpR op_eq (pv 3) pe_int (nomark _)) (pss_one (ps_ret (pe_tup (pa_cons pe_str (pa_cons (pe_ix ix_list (pv 1) (pe_call G_take_l (hr.mono (by omega)) rfl T.g_take_l T.F_take_l.kp T.b_take_l .nil pass0 (pa_cons (pv 0) (pa_cons (pe_callB call_len_seq (by rfl) T.n_len (by decide +kernel) (pa_cons (pv 1) pa_nil)) pa_nil))) (fun _ _ => rfl)) pa_nil))))) pss_nil)
      (pss_cons (ps_if (pt_cmpR op_eq (pv 3) pe_int (nomark _)) (pss_one (ps_ret (pe_tup (pa_cons pe_str (pa_cons (pe_call G_value_l (hr.mono (by omega)) rfl T.g_value_l T.F_value_l.kp T.b_value_l .nil pass0 (pa_cons (pv 0) pa_nil)) pa_nil))))) pss_nil)
      (pss_cons (ps_set (i := 4) sc_term_l.nd rfl (Or.inl rfl) (pe_call G_term_l (hr.mono (by omega)) rfl T.g_term_l T.F_term_l.kp T.b_term_l .nil pass0 (pa_cons (pv 0) (pa_cons (pv 1) (pa_cons (pe_op op_sub (pv 2) pe_int) pa_nil)))))
      (pss_cons (ps_if (pt_cmpR op_eq (pv 3) pe_int (nomark _)) (pss_one (ps_ret (pe_tup (pa_cons pe_str (pa_cons (pv 4) pa_nil))))) pss_nil)
      (pss_cons (ps_set (i := 5) sc_term_l.nd rfl (Or.inl rfl) (pe_call G_term_l (hr.mono (by omega)) rfl T.g_term_l T.F_term_l.kp T.b_term_l .nil pass0 (pa_cons (pv 0) (pa_cons (pv 1) (pa_cons (pe_callB (call_min2 rfl) (by rfl) T.n_min (by decide +kernel) (pa_cons pe_int (pa_cons (pe_op op_sub (pv 2) pe_int) pa_nil))) pa_nil)))))
      (pss_cons (ps_if (pt_cmpR op_eq (pv 3) pe_int (nomark _)) (pss_one (ps_ret (pe_tup (pa_cons pe_str (pa_cons (pv 5) (pa_cons (pe_call G_term_l (hr.mono (by omega)) rfl T.g_term_l T.F_term_l.kp T.b_term_l .nil pass0 (pa_cons (pv 0) (pa_cons (pv 1) (pa_cons (pe_callB (call_min2 rfl) (by rfl) T.n_min (by decide +kernel) (pa_cons pe_int (pa_cons (pe_op op_sub (pv 2) pe_int) pa_nil))) pa_nil)))) (pa_cons (pv 4) pa_nil))))))) pss_nil)
      (pss_cons (ps_set (i := 6) sc_term_l.nd rfl (Or.inl rfl) (pe_ix ix_list (pe_lst (pa_cons pe_str (pa_cons pe_str (pa_cons pe_str (pa_cons pe_str (pa_cons pe_str (pa_cons pe_str (pa_cons pe_str (pa_cons pe_str (pa_cons pe_str pa_nil)))))))))) (pe_call G_take_l (hr.mono (by omega)) rfl T.g_take_l T.F_take_l.kp T.b_take_l .nil pass0 (pa_cons (pv 0) (pa_cons pe_int pa_nil))) (fun _ _ => rfl)))
      (pss_one (ps_ret (pe_ix ix_list (pe_lst (pa_cons (pe_tup (pa_cons pe_str (pa_cons (pv 6) (pa_cons (pv 4) (pa_cons (pv 5) pa_nil))))) (pa_cons (pe_tup (pa_cons pe_str (pa_cons (pv 6) (pa_cons (pv 5) (pa_cons (pv 4) pa_nil))))) pa_nil))) (pe_call G_take_l (hr.mono (by omega)) rfl T.g_take_l T.F_take_l.kp T.b_take_l .nil pass0 (pa_cons (pv 0) (pa_cons pe_int pa_nil))) (fun _ _ => rfl)))))))))))), ?_⟩
    walk_at "ss"
    refine newL fun p1 H1 hp1 e1 g1 => ?_
    walk_at "ss"
    refine .inr ⟨_, rfl, ?_⟩
    obtain ⟨m, hm, hmm⟩ := at26 (d := 0) (l := l)
    refine c_ixL (SqL.of g1) hm ?_
    walk_at "ss"
    refine ⟨b, m, rfl, hB.ex e1, by omega, by omega, fun d H2 h0 h1 e2 b2 => ?_⟩
    have E2 : ExB b H H2 := (ExB.of e1).trans e2
    have n2 := nl_up hn0 hB hnl E2
    walk_at "ss"
    refine if_cs (fun c1 => ?_) (fun c1 => ?_)
    · walk_at "ss"
      refine ⟨nl, _, rfl, .inl (SqL.of n2), ?_⟩
      walk_at "ss"
      refine ⟨b, _, rfl, b2, by rw [List.length_map]; omega, by rw [List.length_map]; omega, fun d3 H3 h30 h31 e3 b3 => ?_⟩
      obtain ⟨v, hv, hvm⟩ := at_in (xs := ns.map V.str) h30 h31
      obtain ⟨s, hs, rfl⟩ := List.mem_map.mp hvm
      refine c_ixL (SqL.of (nl_up hn0 b2 n2 e3)) hv ?_
      walk_at "ss"
      exact newT fun p H4 hp e4 g4 => k (.nm s) _ H4 (by show 1 ≤ l; omega) (tg_nm hs (hg s hs)) ⟨p, rfl, g4⟩ (E2.trans (e3.trans (ExB.of e4))) (b3.ex e4)
    have c1' : d ≠ 0 := fun e => by rw [e] at c1; exact absurd c1 (by decide)
    walk_at "ss"
    refine if_cs (fun c2 => ?_) (fun c2 => ?_)
    · walk_at "ss"
      refine ⟨b, rfl, b2, fun v H3 hv e3 b3 => ?_⟩
      walk_at "ss"
      exact newT fun p H4 hp e4 g4 => k (.vl v) _ H4 (by show 1 ≤ l; omega) (tg_vl hv) ⟨p, rfl, g4⟩ (E2.trans (e3.trans (ExB.of e4))) (b3.ex e4)
    have c2' : d ≠ 1 := fun e => by rw [e] at c2; exact absurd c2 (by decide)
    have hl2 : 2 ≤ l := by omega
    have el : ((l : Nat) : Int) - 1 = ((l - 1 : Nat) : Int) := by omega
    walk_at "ss"
    rw [el]
    refine ⟨b, l - 1, nl, ns, rfl, b2, n2, hg, hn0, hn1, by omega, by omega, fun t1 u1 H3 hd1 gt1 tt1 e3 b3 => ?_⟩
    have n3 := nl_up hn0 b2 n2 e3
    walk_at "ss"
    refine if_cs (fun c3 => ?_) (fun c3 => ?_)
    · walk_at "ss"
      exact newT fun p H4 hp e4 g4 => k (.nt t1) _ H4 (by show 1 + t1.dep ≤ l; omega) gt1 ⟨p, _, rfl, g4, tt1.up e4⟩ (E2.trans (e3.trans (ExB.of e4))) (b3.ex e4)
    walk_at "ss"
    have em : ∀ z : Int, z = (l : Int) - 1 → (if z < 2 then z else 2 : Int) = ((min 2 (l - 1) : Nat) : Int) := by
      intro z hz
      split <;> omega
    refine ⟨_, _, rfl, ?_⟩
    walk_at "ss"
    rw [em _ rfl]
    refine ⟨b, min 2 (l - 1), nl, ns, rfl, b3, n3, hg, hn0, hn1, by omega, by omega, fun t2 u2 H4 hd2 gt2 tt2 e4 b4 => ?_⟩
    have n4 := nl_up hn0 b3 n3 e4
    walk_at "ss"
    refine if_cs (fun c4 => ?_) (fun c4 => ?_)
    · walk_at "ss"
      refine ⟨_, _, rfl, ?_⟩
      walk_at "ss"
      rw [em _ rfl]
      refine ⟨b, min 2 (l - 1), nl, ns, rfl, b4, n4, hg, hn0, hn1, by omega, by omega, fun t3 u3 H5 hd3 gt3 tt3 e5 b5 => ?_⟩
      walk_at "ss"
      exact newT fun p H6 hp e6 g6 => k (.pk t2 t3 t1) _ H6 (by show 1 + max (max t2.dep t3.dep) t1.dep ≤ l; omega) (tg_pk gt2 gt3 gt1) ⟨p, _, _, _, rfl, g6, (tt2.upB e5 b4).up e6, tt3.up e6, ((tt1.upB e4 b3).upB e5 b4).up e6⟩ (E2.trans (e3.trans (e4.trans (e5.trans (ExB.of e6))))) (b5.ex e6)
    walk_at "ss"
    refine newL fun p5 H5 hp5 e5 g5 => ?_
    walk_at "ss"
    refine ⟨b, 9, rfl, b4.ex e5, by decide, by decide, fun d6 H6 h60 h61 e6 b6 => ?_⟩
    obtain ⟨v, hv, hvm⟩ := at_in (xs := opsW.map V.str) h60 h61
    obtain ⟨op, hop, rfl⟩ := List.mem_map.mp hvm
    have npb : p5 ≠ b := by
      obtain ⟨ob, hob⟩ := b4.some
      exact (ne_of_none hob hp5).symm
    refine c_ixL (SqL.of (e6 _ _ npb g5)) hv ?_
    walk_at "ss"
    refine newT fun p7 H7 hp7 e7 g7 => ?_
    walk_at "ss"
    refine newT fun p8 H8 hp8 e8 g8 => ?_
    walk_at "ss"
    refine newL fun p9 H9 hp9 e9 g9 => ?_
    walk_at "ss"
    have b9 := ((b6.ex e7).ex e8).ex e9
    refine ⟨b, 2, rfl, b9, by decide, by decide, fun d10 H10 h100 h101 e10 b10 => ?_⟩
    have np9 : p9 ≠ b := by
      obtain ⟨ob, hob⟩ := ((b6.ex e7).ex e8).some
      exact (ne_of_none hob hp9).symm
    have E610 : ExB b H6 H10 := (ExB.of (e7.trans (e8.trans e9))).trans e10
    have k1 : ToldAt H10 t1 u1 := (((tt1.upB e4 b3).up e5).upB e6 (b4.ex e5)).upB E610 b6
    have k2 : ToldAt H10 t2 u2 := ((tt2.up e5).upB e6 (b4.ex e5)).upB E610 b6
    have EA : ExB b H H10 := E2.trans (e3.trans (e4.trans ((ExB.of e5).trans (e6.trans E610))))
    have dd : ∀ t t' : Tm, t.dep ≤ l - 1 → t'.dep ≤ l - 1 → (Tm.two op t t').dep ≤ l := fun t t' h h' => by show 1 + max t.dep t'.dep ≤ l; omega
    have g7' : H10 p7 = some (.tup [.str "two", .str op, u1, u2]) := NL.tup (NL.box e10 b9) (e9 _ _ (e8 _ _ g7))
    have g8' : H10 p8 = some (.tup [.str "two", .str op, u2, u1]) := NL.tup (NL.box e10 b9) (e9 _ _ g8)
    rcases at2 (x := .ref p7) (y := .ref p8) h100 h101 with ha | ha
    · refine c_ixL (SqL.of (e10 _ _ np9 g9)) ha ?_
      exact k (.two op t1 t2) _ H10 (dd _ _ (by omega) (by omega)) (tg_two hop gt1 gt2) ⟨p7, _, _, rfl, g7', k1, k2⟩ EA b10
    · refine c_ixL (SqL.of (e10 _ _ np9 g9)) ha ?_
      exact k (.two op t2 t1) _ H10 (dd _ _ (by omega) (by omega)) (tg_two hop gt2 gt1) ⟨p8, _, _, rfl, g8', k2, k1⟩ EA b10
theorem okn_trm (T : Txt K mg Z) : ∀ n, FnOk P w K mg base CX0 (n + 3) Z.f_term_l Z.fd_term_l ["_law_box_here", "_law_names_here", "_law_levels"] (sp_trm n)
  | 0 => ⟨fun vs H Q E ⟨b, l, nl, ns, e, _⟩ => by rw [e]; rfl, fun _ _ _ _ _ _ _ _ _ _ _ _ _ ⟨b, l, nl, ns, _, _, _, _, _, _, h1, h2, _⟩ => by omega⟩
  | n + 1 => ok_term_l T (okn_trm T n)

/-! ### the law's rows -/
theorem pick_name {b nl : Addr} {ns : List Str} {H : Hp} {Q : VK} (hn0 : 0 < ns.length) (hB : BoxAt H b) (hnl : H nl = some (.lst (ns.map V.str))) (hg : ∀ s ∈ ns, goodN s) {d : Int} {H2 : Hp} (e2 : ExB b H H2) (h0 : 0 ≤ d) (h1 : d < ((ns.map V.str).length : Int)) (k : ∀ s, s ∈ ns → goodN s → Q (.str s) H2) : rIxL K (.ref nl) (.int d) H2 Q := by
  obtain ⟨v, hv, hvm⟩ := at_in (xs := ns.map V.str) h0 h1
  obtain ⟨s, hs, rfl⟩ := List.mem_map.mp hvm
  exact c_ixL (SqL.of (nl_up hn0 hB hnl e2)) hv (k s hs (hg s hs))
/-! ### the names of a term, by going through -/
/-- a good row that tells these and mentions those -/
def RG (ts ns : List Str) (r : Rw) : Prop := r.good ∧ (∀ s ∈ r.all, s ∈ ts ∨ s ∈ ns) ∧ r.tells = ts.take r.tells.length ∧ ∀ s ∈ r.names, s ∈ ns
theorem RG.mk' {ts ns : List Str} {r : Rw} (g : r.good) (ht : r.tells = ts.take r.tells.length) (hn : ∀ s ∈ r.names, s ∈ ns) : RG ts ns r :=
  ⟨g, fun s hs => (List.mem_append.mp hs).elim (fun h => .inl (List.mem_of_mem_take (by rw [← ht]; exact h))) fun h => .inr (hn s h), ht, hn⟩
def sp_row_l : Sp := fun vs H Q _ => ∃ (b tl nl : Addr) (ts ns : List Str), vs = [.ref b, .ref tl, .ref nl] ∧ BoxAt H b ∧ H tl = some (.lst (ts.map V.str)) ∧ H nl = some (.lst (ns.map V.str)) ∧ (∀ s ∈ ts, goodN s) ∧ (∀ s ∈ ns, goodN s) ∧ 0 < ts.length ∧ ts.length ≤ 100 ∧ 0 < ns.length ∧ ns.length ≤ 300 ∧
  ∀ r u H2, RG ts ns r → RowAt H2 r u → ExB b H H2 → BoxAt H2 b → Q u H2
theorem ts_at {ts : List Str} (h : 0 < ts.length) : ∃ t0, t0 ∈ ts ∧ atI (ts.map V.str) 0 = some (.str t0) ∧ ts.take 1 = [t0] := by
  cases ts with
  | nil => simp at h
  | cons a l => exact ⟨a, List.mem_cons_self, at_hd, rfl⟩
theorem vw_at {d : Int} (h0 : 0 ≤ d) (h1 : d < 3) : ∃ k : Nat, k < 3 ∧ atI [V.str "before", .str "hold", .str "like"] d = some (.str (vword k)) := by
  have : d = 0 ∨ d = 1 ∨ d = 2 := by omega
  rcases this with rfl | rfl | rfl
  · exact ⟨0, by decide, rfl⟩
  · exact ⟨1, by decide, rfl⟩
  · exact ⟨2, by decide, rfl⟩
theorem nd_good : ∀ s ∈ (["n", "nodex", "sub"] : List Str), isName s = true ∧ s.length ≤ 8 ∧ OkT s := by
  have h : (["n", "nodex", "sub"] : List Str).all (fun s => isName s && (decide (s.length ≤ 8) && (TL.tl s).all fun c => decide (c < 1114112))) = true := by decide +kernel
  intro s hs
  have := List.all_eq_true.mp h s hs
  rw [Bool.and_eq_true, Bool.and_eq_true, decide_eq_true_eq] at this
  exact ⟨this.1, this.2.1, OkT.lit this.2.2⟩
theorem ok_row_l (T : Txt K mg Z)  : FnOk P w K mg base CX0 (9) Z.f_row_l Z.fd_row_l ["_law_box_here", "_law_told_here", "_law_names_here"] sp_row_l := by
  have G_take_l := ok_take_l (P := P) (w := w) (base := base) T
  have G_value_l := ok_value_l (P := P) (w := w) (base := base) T
  refine T.F_row_l.ok sc_row_l (fun vs H Q E h => ?_) (fun cdv AA outer s H vs Q E hr h => ?_)
  · obtain ⟨b, tl, nl, ts, ns, rfl, _⟩ := h
    rfl
  · obtain ⟨b, tl, nl, ts, ns, rfl, hB, htl, hnl, hgt, hgn, ht0, ht1, hn0, hn1, k⟩ := h
    have G_term_l := okn_trm (P := P) (w := w) (base := base) T 5
    refine ⟨_, (pss_cons (ps_set (i := 3) sc_row_l.nd rfl (Or.inl rfl) (pe_call G_take_l (hr.mono (by omega)) rfl T.g_take_l T.F_take_l.kp T.b_take_l .nil pass0 (pa_cons (pv 0) (pa_cons pe_int pa_nil))))
      (pss_cons (ps_setLc (i := 4) (own := [("_law_k", 5)]) (g := (gName 5)) (tt := tYes) (te := (tOp (rIxL K) (tVar 2) (tCall sp_take_l [] E0 (tCons (tVar 0) (tCons (tCB (fun xs H Q => ∃ p ys, xs = [.ref p] ∧ (SqL K H p ys ∨ SqT K H p ys) ∧ Q (.int ys.length) H) (tCons (tVar 2) tNil)) tNil))))) rfl sc_row_l.nd rfl rfl (sw_true rfl rfl rfl (by decide +kernel)) (pi_range1 (by rfl) T.n_range (pa_cons (pe_op op_add pe_int (pe_call G_take_l (hr.mono (by omega)) rfl T.g_take_l T.F_take_l.kp T.b_take_l .nil pass0 (pa_cons (pv 0) (pa_cons pe_int pa_nil)))) pa_nil)) (blkOk_by (own := [("_law_k", 5)]) (N := N_row_l) (sc := defScope s_row_l) (by decide +kernel)) (fun _ _ _ _ _ => (pg_name (i := 5) sc_row_l.nd rfl (Or.inl rfl))) (fun _ _ _ _ _ => pts_nil) (fun _ _ _ _ _ => (pe_ix ix_list (pv 2) (pe_call G_take_l (hr.mono (by omega)) rfl T.g_take_l T.F_take_l.kp T.b_take_l .nil pass0 (pa_cons (pv 0) (pa_cons (pe_callB call_len_seq (by rfl) T.n_len (by decide +kernel) (pa_cons (pv 2) pa_nil)) pa_nil))) (fun _ _ => rfl))))
      (pss_cons (ps_set (i := 6) sc_row_l.nd rfl (Or.inl rfl) (pe_ix ix_list (pv 2) (pe_call G_take_l (hr.mono (by omega)) rfl T.g_take_l T.F_take_l.kp T.b_take_l .nil pass0 (pa_cons (pv 0) (pa_cons (pe_callB call_len_seq (by rfl) T.n_len (by decide +kernel) (pa_cons (pv 2) pa_nil)) pa_nil))) (fun _ _ => rfl)))
      (pss_cons (ps_if (pt_cmpR op_eq (pv 3) pe_int (nomark _)) (pss_one (ps_ret (pe_tup (pa_cons pe_str (pa_cons (pe_ix ix_list (pv 1) pe_int (fun _ _ => rfl)) (pa_cons (pe_call G_term_l (hr.mono (by omega)) rfl T.g_term_l T.F_term_l.kp T.b_term_l .nil pass0 (pa_cons (pv 0) (pa_cons (pv 2) (pa_cons (pe_op op_add pe_int (pe_call G_take_l (hr.mono (by omega)) rfl T.g_take_l T.F_take_l.kp T.b_take_l .nil pass0 (pa_cons (pv 0) (pa_cons pe_int pa_nil)))) pa_nil)))) pa_nil)))))) pss_nil)
      (pss_cons (ps_if (pt_cmpR op_eq (pv 3) pe_int (nomark _)) (pss_one (ps_ret (pe_tup (pa_cons pe_str (pa_cons (pe_ix ix_list (pv 1) pe_int (fun _ _ => rfl)) (pa_cons (pv 6) (pa_cons (pe_ix ix_list (pv 4) pe_int (fun _ _ => rfl)) pa_nil))))))) pss_nil)
      (pss_cons (ps_if (pt_cmpR op_eq (pv 3) pe_int (nomark _)) (pss_one (ps_ret (pe_tup (pa_cons pe_str (pa_cons (pe_callTy call_tuple_of (by rfl) T.n_tuple (by decide +kernel) (pa_cons (pe_op op_cat (pe_lst (pa_cons (pv 6) pa_nil)) (pv 4)) pa_nil)) pa_nil))))) pss_nil)
      (pss_cons (ps_if (pt_cmpR op_eq (pv 3) pe_int (nomark _)) (pss_one (ps_ret (pe_tup (pa_cons pe_str (pa_cons (pe_callTy call_tuple_of (by rfl) T.n_tuple (by decide +kernel) (pa_cons (pv 1) pa_nil)) (pa_cons (pe_ix ix_list (pe_lst (pa_cons pe_str (pa_cons pe_str (pa_cons pe_str pa_nil)))) (pe_call G_take_l (hr.mono (by omega)) rfl T.g_take_l T.F_take_l.kp T.b_take_l .nil pass0 (pa_cons (pv 0) (pa_cons pe_int pa_nil))) (fun _ _ => rfl)) (pa_cons (pe_callTy call_tuple_of (by rfl) T.n_tuple (by decide +kernel) (pa_cons (pv 4) pa_nil)) pa_nil))))))) pss_nil)
      (pss_one (ps_ret (pe_tup (pa_cons (pe_ix ix_list (pe_lst (pa_cons pe_str (pa_cons pe_str (pa_cons pe_str pa_nil)))) (pe_op op_sub (pv 3) pe_int) (fun _ _ => rfl)) (pa_cons (pe_ix ix_list (pv 1) pe_int (fun _ _ => rfl)) (pa_cons (pe_call G_value_l (hr.mono (by omega)) rfl T.g_value_l T.F_value_l.kp T.b_value_l .nil pass0 (pa_cons (pv 0) pa_nil)) (pa_cons (pv 6) pa_nil)))))))))))))), ?_⟩
    walk_at "ss"
    refine ⟨b, 7, rfl, hB, by decide, by decide, fun kd H1 h10 h11 e1 b1 => ?_⟩
    have n1 := nl_up hn0 hB hnl e1
    have t1 := nl_up ht0 hB htl e1
    walk_at "ss"
    refine ⟨b, 6, rfl, b1, by decide, by decide, fun d2 H2 h20 h21 e2 b2 => ?_⟩
    walk_at "ss"
    refine ⟨by omega, by omega, ?_⟩
    have n2 := nl_up hn0 b1 n1 e2
    have t2 := nl_up ht0 b1 t1 e2
    refine lcRB (b := b) (fun v => ∃ s, v = .str s ∧ (goodN s ∧ s ∈ ns)) (by omega) b2 (fun i hi G bG eG R N hR => ?_) ?_
    · have nG := nl_up hn0 b2 n2 eG
      walk_at "ss"
      refine ⟨nl, _, rfl, .inl (SqL.of nG), ?_⟩
      walk_at "ss"
      refine ⟨b, _, rfl, bG, by rw [List.length_map]; omega, by rw [List.length_map]; omega, fun d3 G3 h30 h31 e3 b3 => ?_⟩
      exact pick_name hn0 bG nG hgn e3 h30 h31 fun s ms gs => hR _ _ ⟨s, rfl, gs, ms⟩ b3 e3
    intro ys sp H3 hyl hyg hsp e3 b3 g3
    obtain ⟨ss, rfl, hss'⟩ := strs_of hyg
    have hss : ∀ s ∈ ss, goodN s := fun s hs => (hss' s hs).1
    have hsn : ∀ s ∈ ss, s ∈ ns := fun s hs => (hss' s hs).2
    rw [List.length_map] at hyl
    have hs0 : 0 < ss.length := by omega
    have hs1 : ss.length ≤ 7 := by omega
    have n3 := nl_up hn0 b2 n2 e3
    have t3 := nl_up ht0 b2 t2 e3
    walk_at "ss"
    refine ⟨nl, _, rfl, .inl (SqL.of n3), ?_⟩
    walk_at "ss"
    refine ⟨b, _, rfl, b3, by rw [List.length_map]; omega, by rw [List.length_map]; omega, fun d4 H4 h40 h41 e4 b4 => ?_⟩
    refine pick_name hn0 b3 n3 hgn e4 h40 h41 fun one mone gone => ?_
    have n4 := nl_up hn0 b3 n3 e4
    have t4 := nl_up ht0 b3 t3 e4
    have g4 := nl_up hs0 b3 g3 e4
    have E4 : ExB b H H4 := e1.trans (e2.trans (e3.trans e4))
    obtain ⟨x0, hx0, hat0, htk⟩ := ts_at ht0
    obtain ⟨s0, hs0m, hsat0, _⟩ := ts_at hs0
    walk_at "ss"
    refine if_cs (fun c0 => ?_) (fun c0 => ?_)
    · walk_at "ss"
      refine c_ixL (SqL.of t4) hat0 ?_
      walk_at "ss"
      refine ⟨b, 5, rfl, b4, by decide, by decide, fun d5 H5 h50 h51 e5 b5 => ?_⟩
      walk_at "ss"
      obtain ⟨dn, rfl⟩ := Int.eq_ofNat_of_zero_le h50
      have el : (1 : Int) + (dn : Int) = ((1 + dn : Nat) : Int) := by omega
      rw [el]
      refine ⟨b, 1 + dn, nl, ns, rfl, b5, nl_up hn0 b4 n4 e5, hgn, hn0, hn1, by omega, by omega, fun t u H6 hd gt tt e6 b6 => ?_⟩
      walk_at "ss"
      exact newT fun p H7 hp e7 g7 => k (.pl x0 t) _ H7 (RG.mk' ⟨hgt x0 hx0, gt.1, by omega⟩ htk.symm fun s h => gt.2 s (names_flat h)) ⟨p, _, rfl, g7, tt.up e7⟩ (E4.trans (e5.trans (e6.trans (ExB.of e7)))) (b6.ex e7)
    have c0' : kd ≠ 0 := fun e => by rw [e] at c0; exact absurd c0 (by decide)
    walk_at "ss"
    refine if_cs (fun c1 => ?_) (fun c1 => ?_)
    · walk_at "ss"
      refine c_ixL (SqL.of t4) hat0 ?_
      walk_at "ss"
      refine c_ixL (SqL.of g4) hsat0 ?_
      walk_at "ss"
      exact newT fun p H7 hp e7 g7 => k (.wh x0 one s0) _ H7 (RG.mk' ⟨hgt x0 hx0, gone, hss s0 hs0m⟩ htk.symm fun s h => (by have h2 := once_mem h; simp only [List.mem_cons, List.not_mem_nil, or_false] at h2; rcases h2 with e | e; (rw [e]; exact mone); (rw [e]; exact hsn s0 hs0m))) ⟨p, rfl, g7⟩ (E4.trans (ExB.of e7)) (b4.ex e7)
    have c1' : kd ≠ 1 := fun e => by rw [e] at c1; exact absurd c1 (by decide)
    walk_at "ss"
    refine if_cs (fun c2 => ?_) (fun c2 => ?_)
    · walk_at "ss"
      refine newL fun p5 H5 hp5 e5 g5 => ?_
      walk_at "ss"
      refine c_cat g5 (e5 _ _ g4) (fun p6 H6 hp6 e6 g6 => ?_) (by rw [List.length_map]; simp; omega)
      walk_at "ss"
      refine ⟨p6, _, rfl, .inl ⟨SqL.of g6, fun p7 hp7 => ?_⟩⟩
      have e7 := Ex.new (H := H6) (p := p7) (o := .tup ((one :: ss).map V.str)) hp7
      have g7 : upd H6 p7 (.tup ((one :: ss).map V.str)) p7 = some (.tup ((one :: ss).map V.str)) := upd_same
      show NewT _ (upd H6 p7 (.tup ((one :: ss).map V.str))) _
      generalize upd H6 p7 (.tup ((one :: ss).map V.str)) = H7 at e7 g7
      refine newT fun p H8 hp e8 g8 => k (.sm (one :: ss)) _ H8 (RG.mk' ⟨by simp; omega, by simp; omega, fun s hs => ?_⟩ (by simp [Rw.tells]) fun s hs => (List.mem_cons.mp (once_mem (show s ∈ once (one :: ss) from hs))).elim (fun e => by rw [e]; exact mone) (hsn s)) ⟨p, p7, rfl, g8, e8 _ _ g7⟩ (E4.trans (ExB.of (e5.trans (e6.trans (e7.trans e8))))) (((b4.ex e5).ex e6).ex e7 |>.ex e8)
      rcases List.mem_cons.mp hs with rfl | h
      · exact gone
      · exact hss s h
    have c2' : kd ≠ 2 := fun e => by rw [e] at c2; exact absurd c2 (by decide)
    walk_at "ss"
    refine if_cs (fun c3 => ?_) (fun c3 => ?_)
    · walk_at "ss"
      refine ⟨tl, _, rfl, .inl ⟨SqL.of t4, fun p5 hp5 => ?_⟩⟩
      have e5 := Ex.new (H := H4) (p := p5) (o := .tup (ts.map V.str)) hp5
      have g5 : upd H4 p5 (.tup (ts.map V.str)) p5 = some (.tup (ts.map V.str)) := upd_same
      generalize upd H4 p5 (.tup (ts.map V.str)) = H5 at e5 g5
      walk_at "ss"
      refine newL fun p6 H6 hp6 e6 g6 => ?_
      walk_at "ss"
      have b6 := (b4.ex e5).ex e6
      refine ⟨b, 3, rfl, b6, by decide, by decide, fun d7 H7 h70 h71 e7 b7 => ?_⟩
      obtain ⟨v, hv, hvm⟩ := at_in (xs := (["n", "nodex", "sub"] : List Str).map V.str) h70 h71
      obtain ⟨nd, hnd, rfl⟩ := List.mem_map.mp hvm
      have npb : p6 ≠ b := by
        obtain ⟨ob, hob⟩ := (b4.ex e5).some
        exact (ne_of_none hob hp6).symm
      refine c_ixL (SqL.of (e7 _ _ npb g6)) hv ?_
      walk_at "ss"
      have g47 : H7 sp = some (.lst (ss.map V.str)) := nl_up hs0 b6 (e6 _ _ (e5 _ _ g4)) e7
      refine ⟨sp, _, rfl, .inl ⟨SqL.of g47, fun p8 hp8 => ?_⟩⟩
      have e8 := Ex.new (H := H7) (p := p8) (o := .tup (ss.map V.str)) hp8
      have g8 : upd H7 p8 (.tup (ss.map V.str)) p8 = some (.tup (ss.map V.str)) := upd_same
      generalize upd H7 p8 (.tup (ss.map V.str)) = H8 at e8 g8
      walk_at "ss"
      have g57 : H7 p5 = some (.tup (ts.map V.str)) := NL.tup (NL.box e7 b6) (e6 _ _ g5)
      exact newT fun p H9 hp e9 g9 => k (.cl ts nd ss) _ H9 (RG.mk' ⟨by omega, ht1, hgt, nd_good nd hnd, by omega, by omega, hss⟩ (show ts = ts.take ts.length from List.take_length.symm) fun s h => hsn s (once_mem h)) ⟨p, p5, p8, rfl, g9, e9 _ _ (e8 _ _ g57), e9 _ _ g8⟩ (E4.trans ((ExB.of (e5.trans e6)).trans (e7.trans (ExB.of (e8.trans e9))))) ((b7.ex e8).ex e9)
    have c3' : kd ≠ 3 := fun e => by rw [e] at c3; exact absurd c3 (by decide)
    walk_at "ss"
    refine newL fun p5 H5 hp5 e5 g5 => ?_
    walk_at "ss"
    obtain ⟨kk, hkk, hkat⟩ := vw_at (d := kd - 4) (by omega) (by omega)
    refine c_ixL (SqL.of g5) hkat ?_
    walk_at "ss"
    refine c_ixL (SqL.of (e5 _ _ t4)) hat0 ?_
    walk_at "ss"
    refine ⟨b, rfl, b4.ex e5, fun v H6 hv e6 b6 => ?_⟩
    walk_at "ss"
    exact newT fun p H7 hp e7 g7 => k (.vd kk x0 v one) _ H7 (RG.mk' ⟨hkk, hgt x0 hx0, hv, gone⟩ htk.symm fun s h => (by have e : s = one := (by simpa [Rw.names] using h); rw [e]; exact mone)) ⟨p, rfl, g7⟩ (E4.trans ((ExB.of e5).trans (e6.trans (ExB.of e7)))) (b6.ex e7)
/-- what stands behind the first word: parts, and things that are no tuples -/
def sp_tnl (n : Nat) : Sp := fun vs H Q _ => ∃ (t : Tm) (u : V), vs = [u] ∧ ToldAt H t u ∧ t.good ∧ t.dep ≤ n ∧ t.dep ≤ 6 ∧ RetL (t.flat.map V.str) H Q
theorem ok_term_names_l (T : Txt K mg Z) {n : Nat} (G_term_names_l : FnOk P w K mg base CX0 (n + 1) Z.f_term_names_l Z.fd_term_names_l ["_law_term_here"] (sp_tnl n)) : FnOk P w K mg base CX0 (n + 2) Z.f_term_names_l Z.fd_term_names_l ["_law_term_here"] (sp_tnl (n + 1)) := by
  refine T.F_term_names_l.ok sc_term_names_l (fun vs H Q E h => ?_) (fun cdv AA outer s H vs Q E hr h => ?_)
  · obtain ⟨t, u, rfl, _⟩ := h
    rfl
  · obtain ⟨t, u, rfl, ht, hg, hd, h6, k⟩ := h
    refine ⟨_, (pss_cons (ps_if (pt_cmpR op_eq (pe_ix ix_tup (pv 0) pe_int (fun _ _ => rfl)) pe_str (nomark _)) (pss_one (ps_ret (pe_lst (pa_cons (pe_ix ix_tup (pv 0) pe_int (fun _ _ => rfl)) pa_nil)))) pss_nil)
      (pss_cons (ps_set (i := 1) sc_term_names_l.nd rfl (Or.inl rfl) (pe_lst pa_nil))
      (pss_cons (ps_for PassesOwn.never rfl (pi_tup (pe_slice sl_tup (pv 0) (po_some pe_int) po_none)) (pg_name (i := 2) sc_term_names_l.nd rfl (Or.inl rfl)) (pss_one (ps_if (pt_val (pe_callB call_isi (by rfl) T.n_isinstance (by decide +kernel) (pa_cons (pv 2) (pa_cons (pe_bltn (v := .ty "tuple") (by rfl) T.n_tuple (by decide +kernel) rfl) pa_nil)))) (pss_one (ps_set (i := 1) sc_term_names_l.nd rfl (Or.inl rfl) (pe_op op_cat (pv 1) (pe_call G_term_names_l (hr.mono (by omega)) rfl T.g_term_names_l T.F_term_names_l.kp T.b_term_names_l .nil pass0 (pa_cons (pv 2) pa_nil))))) pss_nil)))
      (pss_one (ps_ret (pv 1)))))), ?_⟩
    by_cases hn : ∃ s, t = .nm s
    · obtain ⟨s, rfl⟩ := hn
      obtain ⟨a, rfl, ha⟩ := ht
      walk_at "ss"
      refine c_ixT (SqT.of ha) rfl ?_
      walk_at "ss"
      rw [str_eq rfl]
      walk_at "ss"
      refine c_ixT (SqT.of ha) rfl ?_
      walk_at "ss"
      exact newL k
    · have hn' : ∀ s, t ≠ .nm s := fun s e => hn ⟨s, e⟩
      obtain ⟨a, w0, xs, rfl, ha, hw, hxl, hcut, hxs, hbeh, hq⟩ := told_beh (K := K) ht hg hn'
      walk_at "ss"
      refine c_ixT (SqT.of ha) at_hd ?_
      walk_at "ss"
      rw [str_ne hw]
      walk_at "ss"
      refine newL fun f H1 hf e1 g1 => ?_
      have ha1 := e1 _ _ ha
      walk_at "ss"
      refine ⟨a, _, rfl, SqT.of ha1, (by
        intro z
        have h1 := z.1
        rw [show (1 : Int) = ((1 : Nat) : Int) from rfl, HT.sIx_nat, List.length_cons] at h1
        omega), fun p2 hp2 => ?_⟩
      rw [hcut]
      have e2 : Ex H1 (upd H1 p2 (.tup xs)) := Ex.new hp2
      have g2 : upd H1 p2 (.tup xs) p2 = some (.tup xs) := upd_same
      generalize upd H1 p2 (.tup xs) = H2 at e2 g2
      have hb3 := beh_len t
      refine ⟨p2, rfl, ⟨_, SqT.of g2⟩, forT (xs := xs) (fun i σ' G => (∃ v2 f', σ' = [some (.ref a), some (.ref f'), v2] ∧ G f' = some (.lst ((flatO (t.beh.take i)).map V.str)) ∧ H f' = none) ∧ Ex H G ∧ G p2 = some (.tup xs)) ⟨⟨_, f, rfl, e2 _ _ g1, hf⟩, e1.trans e2, g2⟩ (fun i σ' G _ q => SqT.of q.2.2) ?_ ?_⟩
      · rintro i x σ' G hx ⟨⟨v2, f', rfl, gf, hf'⟩, eG, gp⟩
        obtain ⟨o, ho, hox⟩ := hbeh i x hx
        have ef : t.beh.take (i + 1) = t.beh.take i ++ [o] := by rw [List.take_add_one, ho]; rfl
        have hlen : (flatO (t.beh.take i)).length ≤ 3 * 729 := by
          have := nat_pow6 (t := t) (t.beh.take i) (fun q hq' => by have := (hq q (List.mem_of_mem_take hq')).2; omega) (by rw [List.length_take]; omega)
          have h3 : (t.beh.take i).length ≤ 3 := by rw [List.length_take]; omega
          have := Nat.mul_le_mul_right 729 h3
          omega
        walk_at "ss"
        cases o with
        | none =>
          obtain ⟨nm, ty, kb⟩ := beh_none hox
          have hty : ∃ n : String, TyX K G x (.type n) ∧ kitB n "tuple" = some false := by
            rcases hox with ⟨s, rfl⟩ | h
            · exact ⟨_, ty_str s, kb_st⟩
            · cases x with
              | bl b => exact ⟨_, ty_bl b, kb_bt⟩
              | int i => exact ⟨_, ty_int i, kb_it⟩
              | _ => exact absurd h Bool.false_ne_true
          obtain ⟨nm, ty, kb⟩ := hty
          refine isi ty kb ?_
          walk_at "ss"
          refine ⟨⟨_, f', rfl, ?_, hf'⟩, eG, gp⟩
          rw [ef, flatO_app]
          show G f' = some (.lst ((flatO (t.beh.take i) ++ []).map V.str))
          rw [List.append_nil]
          exact gf
        | some q =>
          have hqx : ToldAt G q x := ToldAt.up hox eG
          obtain ⟨a3, xs3, rfl, ha3⟩ := Told_tup hqx
          have hq2 := hq q (List.mem_of_getElem? ho)
          refine isi (ty_tup ha3) kb_tt ?_
          walk_at "ss"
          have hq7 := flat_729 (t := q) (by omega)
          refine ⟨q, _, rfl, hqx, hq2.1, by omega, by omega, fun p5 H5 hp5 e5 g5 => ?_⟩
          refine c_cat (e5 _ _ gf) g5 (fun p7 H7 hp7 e7 g7 => ?_) (by rw [List.length_map, List.length_map]; omega)
          walk_at "ss"
          refine ⟨⟨_, p7, rfl, ?_, fresh_back (eG.trans e5) hp7⟩, eG.trans (e5.trans e7), e7 _ _ (e5 _ _ gp)⟩
          rw [ef, flatO_app, List.map_append]
          exact g7
      · rintro σ' G ⟨⟨v2, f', rfl, gf, hf'⟩, eG, gp⟩
        walk_at "ss"
        rw [hxl, List.take_length, Tm.flat_beh t hn'] at gf
        exact k f' G hf' eG gf
theorem okn_tnl (T : Txt K mg Z) : ∀ n, FnOk P w K mg base CX0 (n + 1) Z.f_term_names_l Z.fd_term_names_l ["_law_term_here"] (sp_tnl n)
  | 0 => ⟨fun vs H Q E ⟨t, u, e, _⟩ => by rw [e]; rfl, fun _ _ _ _ _ _ _ _ _ _ _ _ _ ⟨t, u, _, _, _, h1, _⟩ => by have := t.dep_pos; omega⟩
  | n + 1 => ok_term_names_l T (okn_tnl T n)

/-! ### each once; mentions; tells; sorts -/
theorem FnOk_or {CX : CXT} {k : Nat} {f : Addr} {fd : FuncData} {ps : List Str} {sp sp' : Sp} (F : FnOk P w K mg base CX k f fd ps sp) (F' : FnOk P w K mg base CX k f fd ps sp') : FnOk P w K mg base CX k f fd ps (fun vs H Q E => sp vs H Q E ∨ sp' vs H Q E) :=
  ⟨fun vs H Q E h => h.elim (F.len vs H Q E) (F'.len vs H Q E), fun A outer s H args us vs Q E hr en b r h => h.elim (F.run A outer s H args us vs Q E hr en b r) (F'.run A outer s H args us vs Q E hr en b r)⟩
def sp_once_l : Sp := fun vs H Q _ => ∃ (a : Addr) (ns : List Str), vs = [.ref a] ∧ H a = some (.lst (ns.map V.str)) ∧ ns.length ≤ 5000 ∧ RetL ((once ns).map V.str) H Q
def sp_once_lT : Sp := fun vs H Q _ => ∃ (a : Addr) (ns : List Str), vs = [.ref a] ∧ H a = some (.tup (ns.map V.str)) ∧ ns.length ≤ 5000 ∧ RetL ((once ns).map V.str) H Q
theorem ok_once_l (T : Txt K mg Z) : FnOk P w K mg base CX0 1 Z.f_once_l Z.fd_once_l ["_law_names_here"] sp_once_l := by
  refine T.F_once_l.ok sc_once_l (fun vs H Q E h => ?_) (fun cdv AA outer s H vs Q E hr h => ?_)
  · obtain ⟨a, ns, rfl, _⟩ := h
    rfl
  · obtain ⟨a, ns, rfl, ha, hl, k⟩ := h
    refine ⟨_, (pss_cons (ps_set (i := 1) sc_once_l.nd rfl (Or.inl rfl) (pe_lst pa_nil))
      (pss_cons (ps_for PassesOwn.never rfl (pi_list (pv 0)) (pg_name (i := 2) sc_once_l.nd rfl (Or.inl rfl)) (pss_one (ps_if (pt_cmpR op_notIn_seq (pv 2) (pv 1) (by rfl)) (pss_one (ps_expr (pe_bm PySem.F.plainAttrs_list PySem.F.slot_list_append PySem.F.type_list_append mt_append (pv 1) (pa_cons (pv 2) pa_nil)))) pss_nil)))
      (pss_one (ps_ret (pv 1))))), ?_⟩
    walk_at "ss"
    refine newL fun f H1 hf e1 g1 => ?_
    have naf : a ≠ f := ne_of_none ha hf
    walk_at "ss"
    refine ⟨⟨_, SqL.of (e1 _ _ ha)⟩, forL (xs := ns.map V.str) (fun i σ' G => (∃ v2, σ' = [some (.ref a), some (.ref f), v2]) ∧ Ex H G ∧ G a = some (.lst (ns.map V.str)) ∧ G f = some (.lst ((once (ns.take i)).map V.str))) ⟨⟨_, rfl⟩, e1, e1 _ _ ha, g1⟩ (fun i σ' G _ q => SqL.of q.2.2.1) ?_ ?_⟩
    · rintro i x σ' G hx ⟨⟨v2, rfl⟩, eG, ga, gf⟩
      rw [List.getElem?_map] at hx
      obtain ⟨n, hn, rfl⟩ := Option.map_eq_some_iff.mp hx
      have hlen := once_len (ns.take i)
      have htl : (ns.take i).length ≤ 5000 := by rw [List.length_take]; omega
      have et : once (ns.take (i + 1)) = addN (once (ns.take i)) [n] := by
        rw [List.take_add_one, hn]
        exact once_app _ n
      walk_at "ss"
      refine c_notin (.inl (SqL.of gf)) rfl flat_strs ?_
      rw [inV_str]
      rw [addN_one] at et
      cases hc : (once (ns.take i)).contains n with
      | true =>
        rw [hc, if_pos rfl] at et
        walk_at "ss"
        exact ⟨⟨_, rfl⟩, eG, ga, by rw [et]; exact gf⟩
      | false =>
        rw [hc, if_neg (by decide)] at et
        walk_at "ss"
        refine ⟨.inl ⟨rfl, _, SqL.of gf⟩, ?_⟩
        walk_at "ss"
        refine ⟨f, _, _, rfl, rfl, gf, Evl.sz_lt (by rw [List.length_map]; omega), ?_⟩
        walk_at "ss"
        exact ⟨⟨_, rfl⟩, Ex.mut eG hf, by rw [upd_ne naf]; exact ga, by rw [upd_same, et, List.map_append] <;> rfl⟩
    · rintro σ' G ⟨⟨v2, rfl⟩, eG, ga, gf⟩
      rw [List.length_map, List.take_length] at gf
      walk_at "ss"
      exact k f G hf eG gf
theorem ok_once_lT (T : Txt K mg Z) : FnOk P w K mg base CX0 1 Z.f_once_l Z.fd_once_l ["_law_names_here"] sp_once_lT := by
  refine T.F_once_l.ok sc_once_l (fun vs H Q E h => ?_) (fun cdv AA outer s H vs Q E hr h => ?_)
  · obtain ⟨a, ns, rfl, _⟩ := h
    rfl
  · obtain ⟨a, ns, rfl, ha, hl, k⟩ := h
    refine ⟨_, (pss_cons (ps_set (i := 1) sc_once_l.nd rfl (Or.inl rfl) (pe_lst pa_nil))
      (pss_cons (ps_for PassesOwn.never rfl (pi_tup (pv 0)) (pg_name (i := 2) sc_once_l.nd rfl (Or.inl rfl)) (pss_one (ps_if (pt_cmpR op_notIn_seq (pv 2) (pv 1) (by rfl)) (pss_one (ps_expr (pe_bm PySem.F.plainAttrs_list PySem.F.slot_list_append PySem.F.type_list_append mt_append (pv 1) (pa_cons (pv 2) pa_nil)))) pss_nil)))
      (pss_one (ps_ret (pv 1))))), ?_⟩
    walk_at "ss"
    refine newL fun f H1 hf e1 g1 => ?_
    have naf : a ≠ f := ne_of_none ha hf
    walk_at "ss"
    refine ⟨⟨_, SqT.of (e1 _ _ ha)⟩, forT (xs := ns.map V.str) (fun i σ' G => (∃ v2, σ' = [some (.ref a), some (.ref f), v2]) ∧ Ex H G ∧ G a = some (.tup (ns.map V.str)) ∧ G f = some (.lst ((once (ns.take i)).map V.str))) ⟨⟨_, rfl⟩, e1, e1 _ _ ha, g1⟩ (fun i σ' G _ q => SqT.of q.2.2.1) ?_ ?_⟩
    · rintro i x σ' G hx ⟨⟨v2, rfl⟩, eG, ga, gf⟩
      rw [List.getElem?_map] at hx
      obtain ⟨n, hn, rfl⟩ := Option.map_eq_some_iff.mp hx
      have hlen := once_len (ns.take i)
      have htl : (ns.take i).length ≤ 5000 := by rw [List.length_take]; omega
      have et : once (ns.take (i + 1)) = addN (once (ns.take i)) [n] := by
        rw [List.take_add_one, hn]
        exact once_app _ n
      walk_at "ss"
      refine c_notin (.inl (SqL.of gf)) rfl flat_strs ?_
      rw [inV_str]
      rw [addN_one] at et
      cases hc : (once (ns.take i)).contains n with
      | true =>
        rw [hc, if_pos rfl] at et
        walk_at "ss"
        exact ⟨⟨_, rfl⟩, eG, ga, by rw [et]; exact gf⟩
      | false =>
        rw [hc, if_neg (by decide)] at et
        walk_at "ss"
        refine ⟨.inl ⟨rfl, _, SqL.of gf⟩, ?_⟩
        walk_at "ss"
        refine ⟨f, _, _, rfl, rfl, gf, Evl.sz_lt (by rw [List.length_map]; omega), ?_⟩
        walk_at "ss"
        exact ⟨⟨_, rfl⟩, Ex.mut eG hf, by rw [upd_ne naf]; exact ga, by rw [upd_same, et, List.map_append] <;> rfl⟩
    · rintro σ' G ⟨⟨v2, rfl⟩, eG, ga, gf⟩
      rw [List.length_map, List.take_length] at gf
      walk_at "ss"
      exact k f G hf eG gf
theorem vw_neS {k : Nat} : vword k ≠ "same" := by
  rcases vword_in k with e | e | e <;> (rw [e]; decide +kernel)
theorem vw_neC {k : Nat} : vword k ≠ "call" := by
  rcases vword_in k with e | e | e <;> (rw [e]; decide +kernel)
theorem vw_neW {k : Nat} : vword k ≠ "when" := by
  rcases vword_in k with e | e | e <;> (rw [e]; decide +kernel)
def sp_mentions_l : Sp := fun vs H Q _ => ∃ (r : Rw) (u : V), vs = [u] ∧ RowAt H r u ∧ r.good ∧ RetL (r.names.map V.str) H Q
theorem ok_mentions_l (T : Txt K mg Z)  : FnOk P w K mg base CX0 (10) Z.f_mentions_l Z.fd_mentions_l ["_law_row_here"] sp_mentions_l := by
  refine T.F_mentions_l.ok sc_mentions_l (fun vs H Q E h => ?_) (fun cdv AA outer s H vs Q E hr h => ?_)
  · obtain ⟨r, u, rfl, _⟩ := h
    rfl
  · obtain ⟨r, u, rfl, hr2, hg, k⟩ := h
    have G_term_names_l := okn_tnl (P := P) (w := w) (base := base) T 5
    have G_once_l := FnOk_or (ok_once_l (P := P) (w := w) (base := base) T) (ok_once_lT T)
    refine ⟨_, (pss_cons (ps_if (pt_cmpR op_eq (pe_ix ix_tup (pv 0) pe_int (fun _ _ => rfl)) pe_str (nomark _)) (pss_one (ps_ret (pe_call G_once_l (hr.mono (by omega)) rfl T.g_once_l T.F_once_l.kp T.b_once_l .nil pass0 (pa_cons (pe_call G_term_names_l (hr.mono (by omega)) rfl T.g_term_names_l T.F_term_names_l.kp T.b_term_names_l .nil pass0 (pa_cons (pe_ix ix_tup (pv 0) pe_int (fun _ _ => rfl)) pa_nil)) pa_nil)))) pss_nil)
      (pss_cons (ps_if (pt_cmpR op_eq (pe_ix ix_tup (pv 0) pe_int (fun _ _ => rfl)) pe_str (nomark _)) (pss_one (ps_ret (pe_call G_once_l (hr.mono (by omega)) rfl T.g_once_l T.F_once_l.kp T.b_once_l .nil pass0 (pa_cons (pe_ix ix_tup (pv 0) pe_int (fun _ _ => rfl)) pa_nil)))) pss_nil)
      (pss_cons (ps_if (pt_cmpR op_eq (pe_ix ix_tup (pv 0) pe_int (fun _ _ => rfl)) pe_str (nomark _)) (pss_one (ps_ret (pe_call G_once_l (hr.mono (by omega)) rfl T.g_once_l T.F_once_l.kp T.b_once_l .nil pass0 (pa_cons (pe_ix ix_tup (pv 0) pe_int (fun _ _ => rfl)) pa_nil)))) pss_nil)
      (pss_cons (ps_if (pt_cmpR op_eq (pe_ix ix_tup (pv 0) pe_int (fun _ _ => rfl)) pe_str (nomark _)) (pss_one (ps_ret (pe_call G_once_l (hr.mono (by omega)) rfl T.g_once_l T.F_once_l.kp T.b_once_l .nil pass0 (pa_cons (pe_slice sl_tup (pv 0) (po_some pe_int) po_none) pa_nil)))) pss_nil)
      (pss_one (ps_ret (pe_lst (pa_cons (pe_ix ix_tup (pv 0) pe_int (fun _ _ => rfl)) pa_nil)))))))), ?_⟩
    cases r with
    | pl n t =>
      obtain ⟨a, tw, rfl, ha, hw⟩ := hr2
      have h5 := hg.2.2
      walk_at "ss"
      refine c_ixT (SqT.of ha) rfl ?_
      walk_at "ss"
      refine if_tt (str_eq rfl) ?_
      walk_at "ss"
      refine c_ixT (SqT.of ha) rfl ?_
      walk_at "ss"
      refine ⟨t, tw, rfl, hw, hg.2.1, h5, by omega, fun p1 H1 hp1 e1 g1 => ?_⟩
      walk_at "ss"
      have := flat_729 (t := t) (by omega)
      refine .inl ⟨p1, t.flat, rfl, g1, by omega, ?_⟩
      rw [Tm.names_once]
      exact RetL.up k e1
    | vd kk n v x =>
      obtain ⟨a, rfl, ha⟩ := hr2
      walk_at "ss"
      refine c_ixT (SqT.of ha) rfl ?_
      walk_at "ss"
      refine if_ff (str_ne vw_ne) ?_
      walk_at "ss"
      refine c_ixT (SqT.of ha) rfl ?_
      walk_at "ss"
      refine if_ff (str_ne vw_neS) ?_
      walk_at "ss"
      refine c_ixT (SqT.of ha) rfl ?_
      walk_at "ss"
      refine if_ff (str_ne vw_neC) ?_
      walk_at "ss"
      refine c_ixT (SqT.of ha) rfl ?_
      walk_at "ss"
      refine if_ff (str_ne vw_neW) ?_
      walk_at "ss"
      refine c_ixT (SqT.of ha) rfl ?_
      walk_at "ss"
      exact newL k
    | wh n x y =>
      obtain ⟨a, rfl, ha⟩ := hr2
      walk_at "ss"
      refine c_ixT (SqT.of ha) rfl ?_
      walk_at "ss"
      refine if_ff (str_ne (by decide +kernel)) ?_
      walk_at "ss"
      refine c_ixT (SqT.of ha) rfl ?_
      walk_at "ss"
      refine if_ff (str_ne (by decide +kernel)) ?_
      walk_at "ss"
      refine c_ixT (SqT.of ha) rfl ?_
      walk_at "ss"
      refine if_ff (str_ne (by decide +kernel)) ?_
      walk_at "ss"
      refine c_ixT (SqT.of ha) rfl ?_
      walk_at "ss"
      refine if_tt (str_eq rfl) ?_
      walk_at "ss"
      refine ⟨a, _, rfl, SqT.of ha, fun z => absurd (show (2 : Nat) = 0 from z.1) (by decide), fun p2 hp2 => ?_⟩
      walk_at "ss"
      exact .inr ⟨p2, [x, y], rfl, upd_same, by simp, RetL.up k (Ex.new hp2)⟩
    | sm ns =>
      obtain ⟨a, p, rfl, ha, hp⟩ := hr2
      walk_at "ss"
      refine c_ixT (SqT.of ha) rfl ?_
      walk_at "ss"
      refine if_ff (str_ne (by decide +kernel)) ?_
      walk_at "ss"
      refine c_ixT (SqT.of ha) rfl ?_
      walk_at "ss"
      refine if_tt (str_eq rfl) ?_
      walk_at "ss"
      refine c_ixT (SqT.of ha) rfl ?_
      walk_at "ss"
      have := hg.2.1
      exact .inr ⟨p, ns, rfl, hp, by omega, k⟩
    | cl os nd xs =>
      obtain ⟨a, q, p, rfl, ha, hq, hp⟩ := hr2
      walk_at "ss"
      refine c_ixT (SqT.of ha) rfl ?_
      walk_at "ss"
      refine if_ff (str_ne (by decide +kernel)) ?_
      walk_at "ss"
      refine c_ixT (SqT.of ha) rfl ?_
      walk_at "ss"
      refine if_ff (str_ne (by decide +kernel)) ?_
      walk_at "ss"
      refine c_ixT (SqT.of ha) rfl ?_
      walk_at "ss"
      refine if_tt (str_eq rfl) ?_
      walk_at "ss"
      refine c_ixT (SqT.of ha) rfl ?_
      walk_at "ss"
      have := hg.2.2.2.2.2.1
      exact .inr ⟨p, xs, rfl, hp, by omega, k⟩
def sp_tells_l : Sp := fun vs H Q _ => ∃ (r : Rw) (u : V), vs = [u] ∧ RowAt H r u ∧ r.good ∧ RetL (r.tells.map V.str) H Q
theorem ok_tells_l (T : Txt K mg Z) : FnOk P w K mg base CX0 1 Z.f_tells_l Z.fd_tells_l ["_law_row_here"] sp_tells_l := by
  refine T.F_tells_l.ok sc_tells_l (fun vs H Q E h => ?_) (fun cdv AA outer s H vs Q E hr h => ?_)
  · obtain ⟨r, u, rfl, _⟩ := h
    rfl
  · obtain ⟨r, u, rfl, hr2, hg, k⟩ := h
    refine ⟨_, (pss_cons (ps_if (pt_cmpR op_eq (pe_ix ix_tup (pv 0) pe_int (fun _ _ => rfl)) pe_str (nomark _)) (pss_one (ps_ret (pe_lst pa_nil))) pss_nil)
      (pss_cons (ps_if (pt_cmpR op_eq (pe_ix ix_tup (pv 0) pe_int (fun _ _ => rfl)) pe_str (nomark _)) (pss_one (ps_ret (pe_callTy call_list_of (by rfl) T.n_list (by decide +kernel) (pa_cons (pe_ix ix_tup (pv 0) pe_int (fun _ _ => rfl)) pa_nil)))) pss_nil)
      (pss_one (ps_ret (pe_lst (pa_cons (pe_ix ix_tup (pv 0) pe_int (fun _ _ => rfl)) pa_nil)))))), ?_⟩
    cases r with
    | pl n t =>
      obtain ⟨a, tw, rfl, ha, hw⟩ := hr2
      walk_at "ss"
      refine c_ixT (SqT.of ha) rfl ?_
      walk_at "ss"
      refine if_ff (str_ne (by decide +kernel)) ?_
      walk_at "ss"
      refine c_ixT (SqT.of ha) rfl ?_
      walk_at "ss"
      refine if_ff (str_ne (by decide +kernel)) ?_
      walk_at "ss"
      refine c_ixT (SqT.of ha) rfl ?_
      walk_at "ss"
      exact newL k
    | vd kk n v x =>
      obtain ⟨a, rfl, ha⟩ := hr2
      walk_at "ss"
      refine c_ixT (SqT.of ha) rfl ?_
      walk_at "ss"
      refine if_ff (str_ne vw_neS) ?_
      walk_at "ss"
      refine c_ixT (SqT.of ha) rfl ?_
      walk_at "ss"
      refine if_ff (str_ne vw_neC) ?_
      walk_at "ss"
      refine c_ixT (SqT.of ha) rfl ?_
      walk_at "ss"
      exact newL k
    | wh n x y =>
      obtain ⟨a, rfl, ha⟩ := hr2
      walk_at "ss"
      refine c_ixT (SqT.of ha) rfl ?_
      walk_at "ss"
      refine if_ff (str_ne (by decide +kernel)) ?_
      walk_at "ss"
      refine c_ixT (SqT.of ha) rfl ?_
      walk_at "ss"
      refine if_ff (str_ne (by decide +kernel)) ?_
      walk_at "ss"
      refine c_ixT (SqT.of ha) rfl ?_
      walk_at "ss"
      exact newL k
    | sm ns =>
      obtain ⟨a, p, rfl, ha, hp⟩ := hr2
      walk_at "ss"
      refine c_ixT (SqT.of ha) rfl ?_
      walk_at "ss"
      refine if_tt (str_eq rfl) ?_
      walk_at "ss"
      exact newL k
    | cl os nd xs =>
      obtain ⟨a, q, p, rfl, ha, hq, hp⟩ := hr2
      walk_at "ss"
      refine c_ixT (SqT.of ha) rfl ?_
      walk_at "ss"
      refine if_ff (str_ne (by decide +kernel)) ?_
      walk_at "ss"
      refine c_ixT (SqT.of ha) rfl ?_
      walk_at "ss"
      refine if_tt (str_eq rfl) ?_
      walk_at "ss"
      refine c_ixT (SqT.of ha) rfl ?_
      walk_at "ss"
      refine ⟨q, _, rfl, .inr (SqT.of hq), fun l hl => ?_⟩
      exact k l _ hl (Ex.new hl) upd_same

/-! ### the names that are drawn: unlike ones -/
open TL (tl)
def W14N : List (List Nat) := [[97], [105, 110, 120], [111, 117, 116, 115], [110, 111, 100, 101, 97], [98, 101, 97, 116, 115], [98], [97, 98], [104, 111, 108, 100, 120], [119, 104, 101, 110, 113], [122], [99, 102, 103, 106, 112, 118], [116, 114, 117, 101, 120], [108, 105, 107, 101, 108, 121], [109, 111, 100, 101, 115, 116]]
theorem w14_tl : W14.map tl = W14N := by decide +kernel
def c14 : List Nat := [98, 99, 100, 102, 103, 104, 106, 107, 108, 109, 110, 112, 115, 116]
theorem c14_tl : tl "bcdfghjklmnpst" = c14 := by decide +kernel
def qN (k : Nat) : List Nat := [113, 97 + k / 14, c14.getD (k % 14) 0]
def frN : Nat → List Nat → List Nat
  | 0, w => w
  | 1, w => 112 :: 46 :: w
  | 2, w => w ++ [46, 104, 111, 108, 100, 120]
  | _, w => w ++ [46, 104, 111, 108, 100, 120, 46, 121]
def fmN (tn k : Nat) : Nat := if tn = 1 then (if k % 3 = 0 then 1 else 0) else if tn = 2 then (if k % 2 = 0 then (if k % 4 = 0 then 3 else 2) else 0) else 0
theorem fm_lt (tn k : Nat) : fmN tn k < 4 := by
  unfold fmN
  split
  · split <;> decide
  · split
    · split
      · split <;> decide
      · decide
    · decide
def bwN (st sp k : Nat) : List Nat := if k < 14 then W14N.getD ((st + sp * k) % 14) [] else qN k
def nmN (st sp tn k : Nat) : List Nat := frN (fmN tn k) (bwN st sp k)
def okN (l : List Nat) : Bool := isPointed ⟨l.toArray⟩ && (decide (l.length ≤ 80) && l.all fun c => decide (c < 1114112))
theorem okN_good {s : Str} (h : okN (tl s) = true) : goodN s := by
  unfold okN at h
  have e : (⟨(tl s).toArray⟩ : Str) = s := TL.ext_tl rfl
  rw [e, Bool.and_eq_true, Bool.and_eq_true, decide_eq_true_eq] at h
  exact ⟨h.1, by rw [← tl_len]; exact h.2.1, OkT.lit h.2.2⟩
theorem ok_early : ∀ i < 14, ∀ f < 4, okN (frN f (W14N.getD i [])) = true := by decide +kernel
theorem ok_late : ∀ k < 200, ∀ f < 4, okN (frN f (qN k)) = true := by decide +kernel
def strN : List (List Nat) := [[], [113], [110], [97, 46, 98, 46, 99], [102, 114, 101, 115, 104]]
def lateP (l : List Nat) : Bool := decide (l.headD 0 = 113) || decide (l.take 3 = [112, 46, 113])
theorem early_ne : ∀ i < 14, ∀ j < 14, i ≠ j → ∀ f < 4, ∀ g < 4, frN f (W14N.getD i []) ≠ frN g (W14N.getD j []) := by
  have h : ∀ i < 14, ∀ j < 14, ∀ f < 4, ∀ g < 4, i = j ∨ frN f (W14N.getD i []) ≠ frN g (W14N.getD j []) := by decide +kernel
  exact fun i hi j hj e f hf g hg => (h i hi j hj f hf g hg).resolve_left e
theorem early_no : ∀ i < 14, ∀ f < 4, lateP (frN f (W14N.getD i [])) = false ∧ frN f (W14N.getD i []) ∉ strN := by decide +kernel
theorem late_is : ∀ k < 200, ∀ f < 4, lateP (frN f (qN k)) = true ∧ frN f (qN k) ∉ strN := by decide +kernel
theorem c14_inj : ∀ i < 14, ∀ j < 14, c14.getD i 0 = c14.getD j 0 → i = j := by decide +kernel
theorem qN_inj {j k : Nat} (h : qN j = qN k) : j = k := by
  unfold qN at h
  injection h with _ h
  injection h with h1 h
  injection h with h2 _
  have h3 := c14_inj _ (Nat.mod_lt j (by decide)) _ (Nat.mod_lt k (by decide)) h2
  omega
theorem late_inj {f g j k : Nat} (hf : f < 4) (hg : g < 4) (h : frN f (qN j) = frN g (qN k)) : j = k := by
  have hq : ∀ n, (qN n).length = 3 := fun n => rfl
  have t3 : ∀ (f n : Nat), f ≠ 1 → (frN f (qN n)).take 3 = qN n := by
    intro f n hf
    match f with
    | 0 => rfl
    | 1 => exact absurd rfl hf
    | 2 => rfl
    | n + 3 => rfl
  have h1 : ∀ (f n : Nat), f ≠ 1 → (frN f (qN n)).headD 0 = 113 := by
    intro f n hf
    match f with
    | 0 => rfl
    | 1 => exact absurd rfl hf
    | 2 => rfl
    | n + 3 => rfl
  by_cases e1 : f = 1
  · by_cases e2 : g = 1
    · subst e1; subst e2
      injection h with _ h
      injection h with _ h
      exact qN_inj h
    · subst e1
      have := h1 g k e2
      rw [← h] at this
      cases this
  · by_cases e2 : g = 1
    · subst e2
      have := h1 f j e1
      rw [h] at this
      cases this
    · have a := t3 f j e1
      rw [h, t3 g k e2] at a
      exact (qN_inj a).symm
theorem nm_inj {st sp tn j k : Nat} (hsp : sp = 1 ∨ sp = 3 ∨ sp = 5 ∨ sp = 9) (hj : j < 200) (hk : k < 200) (h : nmN st sp tn j = nmN st sp tn k) : j = k := by
  unfold nmN bwN at h
  have m : ∀ n, (st + sp * n) % 14 < 14 := fun n => Nat.mod_lt _ (by decide)
  by_cases c1 : j < 14
  · by_cases c2 : k < 14
    · rw [if_pos c1, if_pos c2] at h
      by_cases e : (st + sp * j) % 14 = (st + sp * k) % 14
      · rcases hsp with rfl | rfl | rfl | rfl <;> omega
      · exact absurd h (early_ne _ (m j) _ (m k) e _ (fm_lt _ _) _ (fm_lt _ _))
    · rw [if_pos c1, if_neg c2] at h
      have h1 := (early_no _ (m j) _ (fm_lt tn j)).1
      rw [h, (late_is _ hk _ (fm_lt tn k)).1] at h1
      cases h1
  · by_cases c2 : k < 14
    · rw [if_neg c1, if_pos c2] at h
      have h1 := (early_no _ (m k) _ (fm_lt tn k)).1
      rw [← h, (late_is _ hj _ (fm_lt tn j)).1] at h1
      cases h1
    · rw [if_neg c1, if_neg c2] at h
      exact late_inj (fm_lt _ _) (fm_lt _ _) h
theorem nm_ok {st sp tn k : Nat} (hk : k < 200) : okN (nmN st sp tn k) = true ∧ nmN st sp tn k ∉ strN := by
  unfold nmN bwN
  by_cases c : k < 14
  · rw [if_pos c]
    exact ⟨ok_early _ (Nat.mod_lt _ (by decide)) _ (fm_lt _ _), (early_no _ (Nat.mod_lt _ (by decide)) _ (fm_lt _ _)).2⟩
  · rw [if_neg c]
    exact ⟨ok_late _ hk _ (fm_lt _ _), (late_is _ hk _ (fm_lt _ _)).2⟩
/-- names that are drawn: unlike, good, none of the strange ones -/
def NsOk (ns : List Str) : Prop := ns.Nodup ∧ (∀ s ∈ ns, goodN s) ∧ ∀ s ∈ ns, tl s ∉ strN
theorem ns_ok {ns : List Str} {st sp tn m : Nat} (hm : m ≤ 200) (hsp : sp = 1 ∨ sp = 3 ∨ sp = 5 ∨ sp = 9) (h : ns.map tl = (List.range m).map (nmN st sp tn)) : NsOk ns := by
  have hmem : ∀ s ∈ ns, ∃ k < 200, tl s = nmN st sp tn k := by
    intro s hs
    have h1 : tl s ∈ ns.map tl := List.mem_map.mpr ⟨s, hs, rfl⟩
    rw [h] at h1
    obtain ⟨k, hk, e⟩ := List.mem_map.mp h1
    exact ⟨k, by have := List.mem_range.mp hk; omega, e.symm⟩
  refine ⟨?_, fun s hs => ?_, fun s hs => ?_⟩
  · have hnd : (ns.map tl).Nodup := by
      rw [h]
      refine List.pairwise_map.mpr ?_
      refine (List.nodup_range (n := m)).imp_of_mem ?_
      intro a b ha hb hab e
      exact hab (nm_inj hsp (by have := List.mem_range.mp ha; omega) (by have := List.mem_range.mp hb; omega) e)
    exact (List.pairwise_map.mp hnd).imp fun hab e => hab (by rw [e])
  · obtain ⟨k, hk, e⟩ := hmem s hs
    exact okN_good (by rw [e]; exact (nm_ok hk).1)
  · obtain ⟨k, hk, e⟩ := hmem s hs
    rw [e]
    exact (nm_ok hk).2
def sp_names_l : Sp := fun vs H Q _ => ∃ (b : Addr) (m : Nat), vs = [.ref b, .int (m : Nat)] ∧ BoxAt H b ∧ m ≤ 200 ∧ ∀ (ns : List Str) (p : Addr) (H2 : Hp), ns.length = m → NsOk ns → H p = none → ExB b H H2 → BoxAt H2 b → H2 p = some (.lst (ns.map V.str)) → Q (.ref p) H2
theorem at4j {x0 x1 x2 x3 : Nat} {d : Int} (h0 : 0 ≤ d) (h1 : d < 4) : ∃ m : Nat, atI [V.int x0, .int x1, .int x2, .int x3] d = some (.int m) ∧ (m = x0 ∨ m = x1 ∨ m = x2 ∨ m = x3) := by
  have : d = 0 ∨ d = 1 ∨ d = 2 ∨ d = 3 := by omega
  rcases this with rfl | rfl | rfl | rfl
  · exact ⟨_, rfl, .inl rfl⟩
  · exact ⟨_, rfl, .inr (.inl rfl)⟩
  · exact ⟨_, rfl, .inr (.inr (.inl rfl))⟩
  · exact ⟨_, rfl, .inr (.inr (.inr rfl))⟩
theorem w14_at (j : Nat) : ∃ w : Str, atI (W14.map V.str) ((j % 14 : Nat) : Int) = some (.str w) ∧ tl w = W14N.getD (j % 14) [] ∧ w.length ≤ 6 := by
  have h : j % 14 < 14 := Nat.mod_lt _ (by decide)
  have hl : W14.length = 14 := rfl
  have hw : W14[j % 14]? = some (W14[j % 14]'(by omega)) := List.getElem?_eq_getElem (by omega)
  have hN : W14N[j % 14]? = some (tl (W14[j % 14]'(by omega))) := by rw [← w14_tl, List.getElem?_map, hw]; rfl
  refine ⟨W14[j % 14]'(by omega), atI_nat (by rw [List.getElem?_map, hw]; rfl), ?_, ?_⟩
  · rw [List.getD_eq_getElem?_getD, hN]; rfl
  · rw [← tl_len]
    have hall : ∀ l ∈ W14N, l.length ≤ 6 := by decide +kernel
    exact hall _ (List.mem_of_getElem? hN)
theorem l16_at (j : Nat) (h : j < 16) : atI (tl "abcdefghijklmnop") ((j : Nat) : Int) = some (97 + j) := by
  refine atI_nat ?_
  have e : tl "abcdefghijklmnop" = (List.range 16).map (97 + ·) := by decide +kernel
  rw [e, List.getElem?_map, List.getElem?_range h]
  rfl
theorem c14_at (j : Nat) : atI (tl "bcdfghjklmnpst") ((j % 14 : Nat) : Int) = some (c14.getD (j % 14) 0) := by
  refine atI_nat ?_
  have h : j % 14 < c14.length := Nat.mod_lt _ (by decide)
  rw [c14_tl, List.getElem?_eq_getElem h, List.getD_eq_getElem?_getD, List.getElem?_eq_getElem h]
  rfl
theorem ok_names_l (T : Txt K mg Z) : FnOk P w K mg base CX0 2 Z.f_names_l Z.fd_names_l ["_law_box_here", "_law_many"] sp_names_l := by
  have G_take_l := ok_take_l (P := P) (w := w) (base := base) T
  refine T.F_names_l.ok sc_names_l (fun vs H Q E h => ?_) (fun cdv AA outer s H vs Q E hr h => ?_)
  · obtain ⟨b, m, rfl, _⟩ := h
    rfl
  · obtain ⟨b, m, rfl, hB, hm, k⟩ := h
    refine ⟨_, (pss_cons (ps_set (i := 2) sc_names_l.nd rfl (Or.inl rfl) (pe_lst (pa_cons pe_str (pa_cons pe_str (pa_cons pe_str (pa_cons pe_str (pa_cons pe_str (pa_cons pe_str (pa_cons pe_str (pa_cons pe_str (pa_cons pe_str pa_nil)))))))))))
      (pss_cons (ps_set (i := 2) sc_names_l.nd rfl (Or.inl rfl) (pe_op op_cat (pv 2) (pe_lst (pa_cons pe_str (pa_cons pe_str (pa_cons pe_str (pa_cons pe_str (pa_cons pe_str pa_nil))))))))
      (pss_cons (ps_set (i := 3) sc_names_l.nd rfl (Or.inl rfl) (pe_call G_take_l (hr.mono (by omega)) rfl T.g_take_l T.F_take_l.kp T.b_take_l .nil pass0 (pa_cons (pv 0) (pa_cons pe_int pa_nil))))
      (pss_cons (ps_set (i := 4) sc_names_l.nd rfl (Or.inl rfl) (pe_ix ix_list (pe_lst (pa_cons pe_int (pa_cons pe_int (pa_cons pe_int (pa_cons pe_int pa_nil))))) (pe_call G_take_l (hr.mono (by omega)) rfl T.g_take_l T.F_take_l.kp T.b_take_l .nil pass0 (pa_cons (pv 0) (pa_cons pe_int pa_nil))) (fun _ _ => rfl)))
      (pss_cons (ps_set (i := 5) sc_names_l.nd rfl (Or.inl rfl) (pe_call G_take_l (hr.mono (by omega)) rfl T.g_take_l T.F_take_l.kp T.b_take_l .nil pass0 (pa_cons (pv 0) (pa_cons pe_int pa_nil))))
      (pss_cons (ps_set (i := 6) sc_names_l.nd rfl (Or.inl rfl) (pe_lst pa_nil))
      (pss_cons (ps_for PassesOwn.never rfl (pi_range1 (by rfl) T.n_range (pa_cons (pv 1) pa_nil)) (pg_name (i := 7) sc_names_l.nd rfl (Or.inl rfl)) (pss_cons (ps_set (i := 8) sc_names_l.nd rfl (Or.inl rfl) (pe_ix ix_list (pv 2) (pe_op op_mod (pe_op op_add (pv 3) (pe_op op_mul (pv 4) (pv 7))) pe_int) (fun _ _ => rfl)))
      (Evl.pss_cut (ps_if (pt_cmpR op_ge (pv 7) pe_int (nomark _)) (pss_one (ps_set (i := 8) sc_names_l.nd rfl (Or.inl rfl) (pe_op op_add_str (pe_op op_add_str pe_str (pe_ix ix_str pe_str (pe_op op_fdiv (pv 7) pe_int) (fun _ _ => rfl))) (pe_ix ix_str pe_str (pe_op op_mod (pv 7) pe_int) (fun _ _ => rfl))))) pss_nil)
      (Evl.pss_cut (ps_if (PW.pt (pw_and (pt_cmpR op_eq (pv 5) pe_int (nomark _)) (pw_and1 (pt_cmpR op_eq (pe_op op_mod (pv 7) pe_int) pe_int (nomark _))))) (pss_one (ps_set (i := 8) sc_names_l.nd rfl (Or.inl rfl) (pe_op op_add_str pe_str (pv 8)))) pss_nil)
      (Evl.pss_cut (ps_if (PW.pt (pw_and (pt_cmpR op_eq (pv 5) pe_int (nomark _)) (pw_and1 (pt_cmpR op_eq (pe_op op_mod (pv 7) pe_int) pe_int (nomark _))))) (pss_one (ps_set (i := 8) sc_names_l.nd rfl (Or.inl rfl) (pe_op op_add_str (pe_op op_add_str (pv 8) pe_str) (pe_op op_rep_str01 pe_str (pe_callTy call_int1 (by rfl) T.n_int (by decide +kernel) (pa_cons (pe_cmpR op_eq (pe_op op_mod (pv 7) pe_int) pe_int (nomark _)) pa_nil)))))) pss_nil)
      (pss_one (ps_expr (pe_bm PySem.F.plainAttrs_list PySem.F.slot_list_append PySem.F.type_list_append mt_append (pv 6) (pa_cons (pv 8) pa_nil)))))))))
      (pss_one (ps_ret (pv 6)))))))))), ?_⟩
    walk_at "ss"
    refine newL fun p1 H1 hp1 e1 g1 => ?_
    walk_at "ss"
    refine newL fun p2 H2 hp2 e2 g2 => ?_
    refine c_cat (e2 _ _ g1) g2 (fun sm H3 hsm e3 g3 => ?_)
    have gs : H3 sm = some (.lst (W14.map V.str)) := g3
    walk_at "ss"
    have E3 := e1.trans (e2.trans e3)
    refine ⟨b, 14, rfl, hB.ex E3, by decide, by decide, fun st0 H4 h40 h41 e4 b4 => ?_⟩
    obtain ⟨st, rfl⟩ := Int.eq_ofNat_of_zero_le h40
    walk_at "ss"
    refine newL fun p5 H5 hp5 e5 g5 => ?_
    walk_at "ss"
    refine ⟨b, 4, rfl, b4.ex e5, by decide, by decide, fun d6 H6 h60 h61 e6 b6 => ?_⟩
    obtain ⟨stp, hstp, hst⟩ := at4j (x0 := 1) (x1 := 3) (x2 := 5) (x3 := 9) h60 h61
    have np5 : p5 ≠ b := by
      obtain ⟨ob, hob⟩ := b4.some
      exact (ne_of_none hob hp5).symm
    refine c_ixL (SqL.of (e6 _ _ np5 g5)) hstp ?_
    walk_at "ss"
    refine ⟨b, 3, rfl, b6, by decide, by decide, fun tn0 H7 h70 h71 e7 b7 => ?_⟩
    obtain ⟨tn, rfl⟩ := Int.eq_ofNat_of_zero_le h70
    walk_at "ss"
    refine newL fun f H8 hf e8 g8 => ?_
    have nsb : sm ≠ b := by
      obtain ⟨ob, hob⟩ := (hB.ex (e1.trans e2)).some
      exact (ne_of_none hob hsm).symm
    have gs7 : H7 sm = some (.lst (W14.map V.str)) := e7 _ _ nsb (e6 _ _ nsb (e5 _ _ (e4 _ _ nsb gs)))
    have EB7 : ExB b H H7 := (ExB.of E3).trans (e4.trans ((ExB.of e5).trans (e6.trans e7)))
    have hfH : H f = none := by
      cases hq : H f with
      | none => rfl
      | some o =>
        by_cases hfb : f = b
        · subst hfb
          obtain ⟨ob, hob⟩ := b7.some
          exact absurd rfl (ne_of_none hob hf)
        · have := EB7 f o hfb hq
          rw [hf] at this
          cases this
    have tn3 : tn < 3 := by omega
    walk_at "ss"
    refine ⟨by omega, by omega, ?_⟩
    refine forR (fun i σ' G => (∃ v7 v8, σ' = [some (.ref b), some (.int (m : Nat)), some (.ref sm), some (.int (st : Nat)), some (.int (stp : Nat)), some (.int (tn : Nat)), some (.ref f), v7, v8]) ∧ Ex H7 G ∧ ∃ ns : List Str, ns.map tl = (List.range i).map (nmN st stp tn) ∧ G f = some (.lst (ns.map V.str))) ⟨⟨_, _, rfl⟩, e8, [], rfl, g8⟩ ?_ ?_
    · rintro i σ' G hi ⟨⟨v7, v8, rfl⟩, eG, ns, hns, gf⟩
      have him : i < m := by omega
      have hnl : ns.length = i := by have := congrArg List.length hns; rw [List.length_map, List.length_map, List.length_range] at this; exact this
      walk_at "ss"
      refine c_I (.inr ⟨by omega, by omega⟩) ?_
      walk_at "ss"
      refine c_I (by decide) ?_
      obtain ⟨w0, hw0, hw0N, hw0l⟩ := w14_at (st + stp * i)
      have eix : ((st : Nat) : Int) + ((stp : Nat) : Int) * ((i : Nat) : Int) = ((st + stp * i : Nat) : Int) := by push_cast; rfl
      refine c_ixL (SqL.of (eG _ _ gs7)) (v := .str w0) (by rw [eix]; exact hw0) ?_
      walk_at "ss"
      refine c_cut (M := fun σ' G' => G' = G ∧ ∃ w1 : Str, σ' = [some (.ref b), some (.int (m : Nat)), some (.ref sm), some (.int (st : Nat)), some (.int (stp : Nat)), some (.int (tn : Nat)), some (.ref f), some (.int (i : Nat)), some (.str w1)] ∧ tl w1 = bwN st stp i ∧ w1.length ≤ 6) ?_ ?_
      · walk_at "ss"
        refine if_cs (fun c0 => ?_) (fun c0 => ?_)
        · have h14 : 14 ≤ i := by have := of_decide_eq_true c0; omega
          have hk14 : (((i : Nat) : Int) / 14) = ((i / 14 : Nat) : Int) := by omega
          walk_at "ss"
          refine c_I (by unfold CDiv; omega) ?_
          refine c_ixS (by decide +kernel) (c := 97 + i / 14) (by rw [hk14]; exact l16_at _ (by omega)) ?_
          walk_at "ss"
          refine ⟨Evl.sz_of (by rw [show (Str.ofString "q").length = 1 from by decide +kernel]; show 1 + 1 ≤ _; decide), ?_⟩
          walk_at "ss"
          refine c_I (by decide) ?_
          have em14 : ((i : Nat) : Int) % 14 = ((i % 14 : Nat) : Int) := by omega
          refine c_ixS (by decide +kernel) (c := c14.getD (i % 14) 0) (by rw [em14]; exact c14_at i) ?_
          walk_at "ss"
          refine ⟨Evl.sz_of (by rw [add_len, show (Str.ofString "q").length = 1 from by decide +kernel]; show 1 + 1 + 1 ≤ _; decide), ?_⟩
          walk_at "ss"
          refine ⟨?_, by rw [add_len, add_len, show (Str.ofString "q").length = 1 from by decide +kernel]; show 1 + 1 + 1 ≤ 6; decide⟩
          rw [TL.tl_append, TL.tl_append, show tl (Str.ofString "q") = [113] by decide +kernel, tl_one, tl_one]
          unfold bwN qN
          rw [if_neg (by omega)]
          rfl
        · have h14 : i < 14 := by have := of_decide_eq_false c0; omega
          walk_at "ss"
          refine ⟨?_, hw0l⟩
          unfold bwN
          rw [if_pos h14]
          exact hw0N
      rintro σ' G' ⟨rfl, w1, rfl, hw1, hw1l⟩
      have t1 : tl "p." = [112, 46] := by decide +kernel
      have t2 : tl ".holdx" = [46, 104, 111, 108, 100, 120] := by decide +kernel
      have t3 : tl ".y" = [46, 121] := by decide +kernel
      have t4 : tl Str.empty = [] := rfl
      refine c_cut (M := fun σ' G2 => G2 = G' ∧ ∃ w2, σ' = [some (.ref b), some (.int (m : Nat)), some (.ref sm), some (.int (st : Nat)), some (.int (stp : Nat)), some (.int (tn : Nat)), some (.ref f), some (.int (i : Nat)), some (.str w2)] ∧ tl w2 = (if tn = 1 ∧ i % 3 = 0 then 112 :: 46 :: bwN st stp i else bwN st stp i) ∧ w2.length ≤ 8) ?_ ?_
      · walk_at "ss"
        refine if_cs (fun c1 => ?_) (fun c1 => ?_)
        · have ht1 : tn = 1 := by
            have := of_decide_eq_true c1
            injection this with this
            omega
          walk_at "ss"
          refine c_I (by decide) ?_
          walk_at "ss"
          refine if_cs (fun c2 => ?_) (fun c2 => ?_)
          · have hi3 : i % 3 = 0 := by
              have := of_decide_eq_true c2
              injection this with this
              omega
            walk_at "ss"
            refine ⟨Evl.sz_of (by rw [show (Str.ofString "p.").length = 2 from by decide +kernel]; omega), ?_⟩
            walk_at "ss"
            refine ⟨by rw [if_pos ⟨ht1, hi3⟩, TL.tl_append, t1, hw1]; rfl, by rw [add_len, show (Str.ofString "p.").length = 2 from by decide +kernel]; omega⟩
          · have hi3 : i % 3 ≠ 0 := fun z => absurd (decide_eq_true (show V.int ((i : Int) % 3) = V.int 0 by congr 1; omega)) (by rw [c2]; decide)
            walk_at "ss"
            exact ⟨by rw [if_neg fun z => hi3 z.2]; exact hw1, by omega⟩
        · have ht1 : tn ≠ 1 := fun z => absurd (decide_eq_true (show V.int ((tn : Nat) : Int) = V.int 1 by rw [z]; rfl)) (by rw [c1]; decide)
          walk_at "ss"
          exact ⟨by rw [if_neg fun z => ht1 z.1]; exact hw1, by omega⟩
      rintro σ' G2 ⟨rfl, w2, rfl, hw2, hw2l⟩
      refine c_cut (M := fun σ' G3 => G3 = G2 ∧ ∃ w3, σ' = [some (.ref b), some (.int (m : Nat)), some (.ref sm), some (.int (st : Nat)), some (.int (stp : Nat)), some (.int (tn : Nat)), some (.ref f), some (.int (i : Nat)), some (.str w3)] ∧ tl w3 = nmN st stp tn i) ?_ ?_
      · have hno2 : tn ≠ 2 ∨ i % 2 ≠ 0 → tl w2 = nmN st stp tn i := by
          intro h
          rw [hw2]
          unfold nmN fmN
          by_cases e1 : tn = 1
          · rw [if_pos e1]
            by_cases e3 : i % 3 = 0
            · rw [if_pos ⟨e1, e3⟩, if_pos e3]; rfl
            · rw [if_neg fun z => e3 z.2, if_neg e3]; rfl
          · rw [if_neg fun z => e1 z.1, if_neg e1]
            by_cases e2 : tn = 2
            · rw [if_pos e2, if_neg (h.resolve_left fun z => z e2)]; rfl
            · rw [if_neg e2]; rfl
        walk_at "ss"
        refine if_cs (fun c1 => ?_) (fun c1 => ?_)
        · have ht2 : tn = 2 := by
            have := of_decide_eq_true c1
            injection this with this
            omega
          walk_at "ss"
          refine c_I (by decide) ?_
          walk_at "ss"
          refine if_cs (fun c2 => ?_) (fun c2 => ?_)
          · have hi2 : i % 2 = 0 := by
              have := of_decide_eq_true c2
              injection this with this
              omega
            have hw2' : tl w2 = bwN st stp i := by rw [hw2, if_neg fun z => by omega]
            walk_at "ss"
            refine ⟨Evl.sz_of (by rw [show (Str.ofString ".holdx").length = 6 from by decide +kernel]; omega), ?_⟩
            walk_at "ss"
            refine c_I (by decide) ?_
            walk_at "ss"
            refine .inr ⟨_, rfl, ?_⟩
            cases hc4 : decide (V.int ((i : Int) % 4) = V.int 0) with
            | true =>
              have hi4 : i % 4 = 0 := by
                have := of_decide_eq_true hc4
                injection this with this
                omega
              refine ⟨_, _, rfl, rfl, .inr ⟨rfl, ?_⟩⟩
              walk_at "ss"
              refine ⟨Evl.sz_of (by rw [add_len, show (Str.ofString ".holdx").length = 6 from by decide +kernel, show (Str.ofString ".y").length = 2 from by decide +kernel]; omega), ?_⟩
              walk_at "ss"
              rw [TL.tl_append, TL.tl_append, t2, t3, hw2']
              unfold nmN fmN
              rw [if_neg (by omega), if_pos ht2, if_pos hi2, if_pos hi4, List.append_assoc]
              rfl
            | false =>
              have hi4 : i % 4 ≠ 0 := fun z => absurd (decide_eq_true (show V.int ((i : Int) % 4) = V.int 0 by congr 1; omega)) (by rw [hc4]; decide)
              refine ⟨_, _, rfl, rfl, .inl ⟨rfl, ?_⟩⟩
              walk_at "ss"
              refine ⟨Evl.sz_of (by rw [add_len, show (Str.ofString ".holdx").length = 6 from by decide +kernel, show Str.empty.length = 0 from rfl]; omega), ?_⟩
              walk_at "ss"
              rw [TL.tl_append, TL.tl_append, t2, t4, hw2', List.append_nil]
              unfold nmN fmN
              rw [if_neg (by omega), if_pos ht2, if_pos hi2, if_neg hi4]
              rfl
          · have hi2 : i % 2 ≠ 0 := fun z => absurd (decide_eq_true (show V.int ((i : Int) % 2) = V.int 0 by congr 1; omega)) (by rw [c2]; decide)
            walk_at "ss"
            exact hno2 (.inr hi2)
        · have ht2 : tn ≠ 2 := fun z => absurd (decide_eq_true (show V.int ((tn : Nat) : Int) = V.int 2 by rw [z]; rfl)) (by rw [c1]; decide)
          walk_at "ss"
          exact hno2 (.inl ht2)
      rintro σ' G3 ⟨rfl, w3, rfl, hw3⟩
      walk_at "ss"
      refine ⟨.inl ⟨rfl, _, SqL.of gf⟩, ?_⟩
      walk_at "ss"
      refine ⟨f, _, _, rfl, rfl, gf, Evl.sz_lt (by rw [List.length_map]; omega), ?_⟩
      walk_at "ss"
      refine ⟨⟨_, _, rfl⟩, Ex.mut eG hf, ns ++ [w3], ?_, ?_⟩
      · rw [List.map_append, List.range_succ, List.map_append, hns]
        show _ ++ [tl w3] = _ ++ [nmN st stp tn i]
        rw [hw3]
      · rw [upd_same, List.map_append] <;> rfl
    · rintro σ' G ⟨⟨v7, v8, rfl⟩, eG, ns, hns, gf⟩
      walk_at "ss"
      rw [show (((m : Nat) : Int)).toNat = m by omega] at hns
      exact k ns f G (by have := congrArg List.length hns; rw [List.length_map, List.length_map, List.length_range] at this; exact this) (ns_ok hm (by simpa using hst) hns) hfH (EB7.trans (ExB.of eG)) (b7.ex eG) gf

/-! slices of lists of names -/
theorem cut_take {l : List Str} {i : Nat} : cutV (l.map V.str) none (some (i : Int)) = (l.take i).map V.str := by
  unfold cutV
  rw [HT.sIx_none, HT.sIx_nat, List.drop_zero, Nat.sub_zero, List.length_map, List.map_take]
  rcases Nat.le_total i l.length with h | h
  · rw [Nat.min_eq_left h]
  · rw [Nat.min_eq_right h, List.take_of_length_le (by rw [List.length_map]; omega), List.take_of_length_le (by rw [List.length_map]; omega)]
theorem cut_drop {l : List Str} {i : Nat} : cutV (l.map V.str) (some (i : Int)) none = (l.drop i).map V.str := by
  unfold cutV
  rw [HT.sIx_none, HT.sIx_nat, List.length_map, List.map_drop]
  rcases Nat.le_total i l.length with h | h
  · rw [Nat.min_eq_left h, List.take_of_length_le (by rw [List.length_drop, List.length_map]; omega)]
  · rw [Nat.min_eq_right h, List.drop_of_length_le (by rw [List.length_map]; omega), List.drop_of_length_le (by rw [List.length_map]; omega)]
    simp
theorem c_slTake {H : Hp} {Q : VK} {a : Addr} {l : List Str} {i : Nat} (h : H a = some (.lst (l.map V.str))) (k : RetL ((l.take i).map V.str) H Q) : rSlL K (.ref a) none (some (i : Int)) H Q := by
  refine ⟨a, _, rfl, SqL.of h, fun p hp => ?_⟩
  rw [cut_take]
  exact k p _ hp (Ex.new hp) upd_same
theorem c_slDrop {H : Hp} {Q : VK} {a : Addr} {l : List Str} {i : Nat} (h : H a = some (.lst (l.map V.str))) (k : RetL ((l.drop i).map V.str) H Q) : rSlL K (.ref a) (some (i : Int)) none H Q := by
  refine ⟨a, _, rfl, SqL.of h, fun p hp => ?_⟩
  rw [cut_drop]
  exact k p _ hp (Ex.new hp) upd_same
theorem strs_nobox {ns : List Str} (x y z : Int) : HO.lst (ns.map V.str) ≠ .lst [.int x, .int y, .int z] := by
  intro h
  injection h with h
  cases ns with
  | nil => cases h
  | cons a l =>
    rw [List.map_cons] at h
    injection h with h _
    cases h
theorem nb_strs {b a : Addr} {H G : Hp} {ns : List Str} (hB : BoxAt H b) (h : H a = some (.lst (ns.map V.str))) (x : ExB b H G) : G a = some (.lst (ns.map V.str)) := x _ _ (box_ne hB h (fun x y z => strs_nobox x y z)) h

/-! ### rows that may stand in a node -/
open TL (tl)
theorem eqL_dec : ∀ (a b : List Str), eqL (a.map V.str) (b.map V.str) = decide (a = b)
  | [], [] => rfl
  | [], _ :: _ => rfl
  | _ :: _, [] => rfl
  | x :: a, y :: b => by
    rw [List.map_cons, List.map_cons, eqL, eqL_dec a b]
    show (decide (x = y) && decide (a = b)) = _
    by_cases h : x = y
    · by_cases h2 : a = b
      · rw [decide_eq_true h, decide_eq_true h2, decide_eq_true (by rw [h, h2])]; rfl
      · rw [decide_eq_false h2, Bool.and_false, decide_eq_false fun z => h2 (List.cons.inj z).2]
    · rw [decide_eq_false h, Bool.false_and, decide_eq_false fun z => h (List.cons.inj z).1]
theorem word_call (r : Rw) : decide (V.str r.word = V.str "call") = decide (r.kind = 6) := by
  cases r with
  | vd k n v x =>
    rw [show (Rw.vd k n v x).word = vword k from rfl, str_ne vw_neC]
    rcases k with _ | _ | k <;> rfl
  | pl n t => exact str_ne (x := "plain") (y := "call") (by decide +kernel)
  | wh n x y => exact str_ne (x := "when") (y := "call") (by decide +kernel)
  | sm ns => exact str_ne (x := "same") (y := "call") (by decide +kernel)
  | cl os nd xs => exact str_eq rfl
theorem word_plain (r : Rw) : decide (V.str r.word = V.str "plain") = decide (r.kind = 0) := by
  cases r with
  | vd k n v x =>
    rw [show (Rw.vd k n v x).word = vword k from rfl, str_ne vw_ne]
    rcases k with _ | _ | k <;> rfl
  | pl n t => exact str_eq rfl
  | wh n x y => exact str_ne (x := "when") (y := "plain") (by decide +kernel)
  | sm ns => exact str_ne (x := "same") (y := "plain") (by decide +kernel)
  | cl os nd xs => exact str_ne (x := "call") (y := "plain") (by decide +kernel)
def sp_read_row_l : Sp := fun vs H Q _ => ∃ (b tl nl : Addr) (ts ns : List Str), vs = [.ref b, .ref tl, .ref nl] ∧ BoxAt H b ∧ H tl = some (.lst (ts.map V.str)) ∧ H nl = some (.lst (ns.map V.str)) ∧ (∀ s ∈ ts, goodN s) ∧ (∀ s ∈ ns, goodN s) ∧ 0 < ts.length ∧ ts.length ≤ 100 ∧ 0 < ns.length ∧ ns.length ≤ 300 ∧
  ∀ r u H2, RG ts ns r → (r.kind = 0 → r.names ≠ []) → RowAt H2 r u → ExB b H H2 → BoxAt H2 b → Q u H2
theorem ok_read_row_l (T : Txt K mg Z)  : FnOk P w K mg base CX0 (12) Z.f_read_row_l Z.fd_read_row_l ["_law_box_here", "_law_told_here", "_law_names_here"] sp_read_row_l := by
  have G_take_l := ok_take_l (P := P) (w := w) (base := base) T
  have G_value_l := ok_value_l (P := P) (w := w) (base := base) T
  have G_row_l := ok_row_l (P := P) (w := w) (base := base) T
  have G_mentions_l := ok_mentions_l (P := P) (w := w) (base := base) T
  refine T.F_read_row_l.ok sc_read_row_l (fun vs H Q E h => ?_) (fun cdv AA outer s H vs Q E hr h => ?_)
  · obtain ⟨b, tl, nl, ts, ns, rfl, _⟩ := h
    rfl
  · obtain ⟨b, tl, nl, ts, ns, rfl, hB, htl, hnl, hgt, hgn, ht0, ht1, hn0, hn1, k⟩ := h
    refine ⟨_, (pss_cons (ps_set (i := 3) sc_read_row_l.nd rfl (Or.inl rfl) (pe_call G_row_l (hr.mono (by omega)) rfl T.g_row_l T.F_row_l.kp T.b_row_l .nil pass0 (pa_cons (pv 0) (pa_cons (pv 1) (pa_cons (pv 2) pa_nil)))))
      (pss_cons (ps_if (PW.pt (pw_and (pt_cmpR op_eq (pe_ix ix_tup (pv 3) pe_int (fun _ _ => rfl)) pe_str (nomark _)) (pw_and1 (pt_cmpR (op_eqD hr.units) (pe_call G_mentions_l (hr.mono (by omega)) rfl T.g_mentions_l T.F_mentions_l.kp T.b_mentions_l .nil pass0 (pa_cons (pv 3) pa_nil)) (pe_lst pa_nil) (nomark _))))) (pss_one (ps_ret (pe_tup (pa_cons pe_str (pa_cons (pe_ix ix_tup (pv 3) pe_int (fun _ _ => rfl)) (pa_cons (pe_call G_value_l (hr.mono (by omega)) rfl T.g_value_l T.F_value_l.kp T.b_value_l .nil pass0 (pa_cons (pv 0) pa_nil)) (pa_cons (pe_ix ix_list (pv 2) (pe_call G_take_l (hr.mono (by omega)) rfl T.g_take_l T.F_take_l.kp T.b_take_l .nil pass0 (pa_cons (pv 0) (pa_cons (pe_callB call_len_seq (by rfl) T.n_len (by decide +kernel) (pa_cons (pv 2) pa_nil)) pa_nil))) (fun _ _ => rfl)) pa_nil))))))) pss_nil)
      (pss_one (ps_ret (pv 3))))), ?_⟩
    walk_at "ss"
    refine ⟨b, tl, nl, ts, ns, rfl, hB, htl, hnl, hgt, hgn, ht0, ht1, hn0, hn1, fun r u H1 hG hR x1 b1 => ?_⟩
    obtain ⟨p, xs, rfl, hp⟩ := hR.hd
    walk_at "ss"
    refine c_ixT (SqT.of hp) at_hd ?_
    walk_at "ss"
    rw [word_plain]
    cases hk0 : decide (r.kind = 0) with
    | false =>
      walk_at "ss"
      exact k r _ H1 hG (fun z => absurd z (of_decide_eq_false hk0)) hR x1 b1
    | true =>
      obtain ⟨n, t, rfl⟩ := kind_pl (of_decide_eq_true hk0)
      obtain ⟨p0, tw, hpe, hp0, hw⟩ := id hR
      cases hpe
      walk_at "ss"
      refine ⟨_, _, rfl, hR, hG.1, fun l2 H2 hl2 e2 g2 => ?_⟩
      walk_at "ss"
      refine newL fun l3 H3 hl3 e3 g3 => ?_
      have okn : ((Rw.pl n t).names.map V.str).all okV = true := by
        rw [List.all_eq_true]
        intro y hy
        obtain ⟨s, hs, rfl⟩ := List.mem_map.mp hy
        exact okT_V (hgn s (hG.2.2.2 s hs)).2.2
      refine c_eqLs (SqL.of (e3 _ _ g2)) (SqL.of g3) okn rfl ?_
      rw [show eqL ((Rw.pl n t).names.map V.str) ([] : List V) = decide ((Rw.pl n t).names = []) from eqL_dec _ []]
      have e23 := e2.trans e3
      refine ⟨_, rfl, ?_⟩
      refine if_cs (fun c1 => ?_) (fun c1 => ?_)
      · walk_at "ss"
        refine c_ixT (SqT.of (e23 _ _ hp0)) rfl ?_
        walk_at "ss"
        refine ⟨b, rfl, b1.ex e23, fun v H4 hv x4 b4 => ?_⟩
        walk_at "ss"
        have n4 : H4 nl = some (.lst (ns.map V.str)) := nl_up hn0 (b1.ex e23) (e23 _ _ (nl_up hn0 hB hnl x1)) x4
        refine ⟨nl, _, rfl, .inl (SqL.of n4), ?_⟩
        walk_at "ss"
        refine ⟨b, _, rfl, b4, by rw [List.length_map]; omega, by rw [List.length_map]; omega, fun d H5 h50 h51 x5 b5 => ?_⟩
        refine pick_name hn0 b4 n4 hgn x5 h50 h51 fun one mone gone => ?_
        walk_at "ss"
        have hgn1 : goodN n := hG.1.1
        exact newT fun p H7 hp e7 g7 => k (.vd 2 n v one) _ H7 (RG.mk' ⟨by decide, hgn1, hv, gone⟩ hG.2.2.1 fun s h => (by have e : s = one := (by simpa [Rw.names] using h); rw [e]; exact mone)) (fun z => by cases z) ⟨p, rfl, g7⟩ (x1.trans ((ExB.of e23).trans (x4.trans (x5.trans (ExB.of e7))))) (b5.ex e7)
      · walk_at "ss"
        exact k _ _ H3 hG (fun _ => of_decide_eq_false c1) (hR.up e23) (x1.trans (ExB.of e23)) (b1.ex e23)
/-! the names that rows tell -/
def sp_told_names_l : Sp := fun vs H Q _ => ∃ (l : Addr) (rs : List Rw) (us : List V), vs = [.ref l] ∧ H l = some (.lst us) ∧ Paired (RowAt H) rs us ∧ rs.length ≤ 300 ∧ (∀ r ∈ rs, r.good) ∧ (rs.flatMap Rw.tells).length ≤ 2000 ∧ RetL ((rs.flatMap Rw.tells).map V.str) H Q
theorem ok_told_names_l (T : Txt K mg Z) : FnOk P w K mg base CX0 2 Z.f_told_names_l Z.fd_told_names_l ["_law_rows"] sp_told_names_l := by
  have G_tells_l := ok_tells_l (P := P) (w := w) (base := base) T
  refine T.F_told_names_l.ok sc_told_names_l (fun vs H Q E h => ?_) (fun cdv AA outer s H vs Q E hr h => ?_)
  · obtain ⟨l, rs, us, rfl, _⟩ := h
    rfl
  · obtain ⟨l, rs, us, rfl, gl, hP, hl, hg, hl2, k⟩ := h
    refine ⟨_, (pss_cons (ps_set (i := 1) sc_told_names_l.nd rfl (Or.inl rfl) (pe_lst pa_nil))
      (pss_cons (ps_for PassesOwn.never rfl (pi_list (pv 0)) (pg_name (i := 2) sc_told_names_l.nd rfl (Or.inl rfl)) (pss_one (ps_set (i := 1) sc_told_names_l.nd rfl (Or.inl rfl) (pe_op op_cat (pv 1) (pe_call G_tells_l (hr.mono (by omega)) rfl T.g_tells_l T.F_tells_l.kp T.b_tells_l .nil pass0 (pa_cons (pv 2) pa_nil))))))
      (pss_one (ps_ret (pv 1))))), ?_⟩
    walk_at "ss"
    refine newL fun f0 H1 hf0 e1 g1 => ?_
    walk_at "ss"
    refine ⟨⟨_, SqL.of (e1 _ _ gl)⟩, forL (xs := us) (fun i σ' G => (∃ v2 f, σ' = [some (.ref l), some (.ref f), v2] ∧ G f = some (.lst (((rs.take i).flatMap Rw.tells).map V.str)) ∧ H f = none) ∧ Ex H G) ⟨⟨_, f0, rfl, g1, hf0⟩, e1⟩ (fun i σ' G _ q => SqL.of (q.2 _ _ gl)) ?_ ?_⟩
    · rintro i x σ' G hx ⟨⟨v2, f, rfl, gf, hf⟩, eG⟩
      obtain ⟨r, hr2, hR⟩ := paired_ix hP hx
      walk_at "ss"
      refine ⟨r, x, rfl, hR.up eG, hg r (List.mem_of_getElem? hr2), fun q H2 hq e2 g2 => ?_⟩
      have es : (rs.take (i + 1)).flatMap Rw.tells = (rs.take i).flatMap Rw.tells ++ r.tells := by rw [List.take_add_one, hr2, List.flatMap_append]; simp
      have hle : ((rs.take (i + 1)).flatMap Rw.tells).length ≤ 2000 := by
        refine Nat.le_trans ?_ hl2
        conv => rhs; rw [← List.take_append_drop (i + 1) rs]
        rw [List.flatMap_append, List.length_append]
        omega
      rw [es, List.length_append] at hle
      refine c_cat (e2 _ _ gf) g2 (fun f3 H3 hf3 e3 g3 => ?_) (by rw [List.length_map, List.length_map]; omega)
      walk_at "ss"
      refine ⟨⟨_, f3, rfl, ?_, fresh_back (eG.trans e2) hf3⟩, eG.trans (e2.trans e3)⟩
      rw [es, List.map_append]
      exact g3
    · rintro σ' G ⟨⟨v2, f, rfl, gf, hf⟩, eG⟩
      walk_at "ss"
      rw [← paired_len hP, List.take_length] at gf
      exact k f G hf eG gf

/-! ### a node that is drawn -/
open TL (tl)
/-- the list of four things that is drawn -/
def NdL (H : Hp) (n : Nd) (p : Addr) : Prop := ∃ li lo lr us, H p = some (.lst [.str n.nm, .ref li, .ref lo, .ref lr]) ∧ H li = some (.lst (n.ins.map V.str)) ∧ H lo = some (.lst (n.outs.map V.str)) ∧ H lr = some (.lst us) ∧ Paired (RowAt H) n.rows us
theorem NdL.up {H G : Hp} {n : Nd} {p : Addr} (h : NdL H n p) (e : Ex H G) : NdL G n p := by
  obtain ⟨li, lo, lr, us, h1, h2, h3, h4, h5⟩ := h
  exact ⟨li, lo, lr, us, e _ _ h1, e _ _ h2, e _ _ h3, e _ _ h4, paired_up (fun r u h => h.up e) h5⟩
theorem rows_nobox {H : Hp} {rs : List Rw} {us : List V} (h : Paired (RowAt H) rs us) (x y z : Int) : HO.lst us ≠ .lst [.int x, .int y, .int z] := by
  intro e
  injection e with e
  subst e
  cases h with
  | cons h1 _ =>
    obtain ⟨p, xs, e, _⟩ := h1.hd
    cases e
theorem NdL.upB {b : Addr} {H G : Hp} {n : Nd} {p : Addr} (h : NdL H n p) (x : ExB b H G) (hB : BoxAt H b) : NdL G n p := by
  obtain ⟨li, lo, lr, us, h1, h2, h3, h4, h5⟩ := h
  exact ⟨li, lo, lr, us, x _ _ (box_ne hB h1 (fun _ _ _ z => by injection z with z; cases z)) h1, nb_strs hB h2 x, nb_strs hB h3 x, x _ _ (box_ne hB h4 (fun x y z => rows_nobox h5 x y z)) h4, paired_up (fun r u h => h.nl (NL.box x hB)) h5⟩
/-- what is drawn: a good node of these names -/
structure DrN (ns : List Str) (n : Nd) : Prop where
  good : n.good
  nm : n.nm = "n"
  names : n.names = ns
  r224 : n.rows.length ≤ 224
  few : ∃ A B, n.rows = A ++ B ∧ A.length ≤ 24 ∧ B.length ≤ 200 ∧ ∀ r ∈ B, ∃ s v x, r = Rw.vd 0 s v x
  o6 : n.outs.length ≤ 6
  i6 : n.ins.length ≤ 6
  ins : n.ins = ns.take n.ins.length
def sp_node_l : Sp := fun vs H Q _ => ∃ (b nl : Addr) (ns : List Str), vs = [.ref b, .ref nl] ∧ BoxAt H b ∧ H nl = some (.lst (ns.map V.str)) ∧ NsOk ns ∧ 2 ≤ ns.length ∧ ns.length ≤ 200 ∧
  ∀ n p H2, DrN ns n → NdL H2 n p → ExB b H H2 → BoxAt H2 b → Q (.ref p) H2
theorem mem_dropS {ns : List Str} {i : Nat} {s : Str} (h : s ∈ ns.drop i) : s ∈ ns := List.mem_of_mem_drop h
theorem flat_snoc {rs : List Rw} {r : Rw} : (rs ++ [r]).flatMap Rw.tells = rs.flatMap Rw.tells ++ r.tells := by rw [List.flatMap_append]; simp
theorem ExB.mutF {b a : Addr} {H G : Hp} {o : HO} (x : ExB b H G) (h : H a = none) : ExB b H (upd G a o) := fun c u hc ha => by
  rw [upd_ne (ne_of_none ha h)]
  exact x c u hc ha
theorem fresh_backB {b a : Addr} {H G : Hp} (x : ExB b H G) (n : a ≠ b) (h : G a = none) : H a = none := by
  cases hq : H a with
  | none => rfl
  | some o =>
    have := x a o n hq
    rw [h] at this
    cases this
/-- rows drawn so far: they tell the first j of these names -/
structure NIn (Z : Adr) (H : Hp) (b nl rl lf : Addr) (ns fr : List Str) (jf j : Nat) (rs : List Rw) (us : List V) (G : Hp) : Prop where
  x : ExB b H G
  bx : BoxAt G b
  gn : G nl = some (.lst (ns.map V.str))
  gl : G lf = some (.lst ((fr.drop jf).map V.str))
  gr : G rl = some (.lst us)
  pr : Paired (RowAt G) rs us
  hr : H rl = none
  rb : rl ≠ b
  ok : ∀ r ∈ rs, r.good ∧ (r.kind = 0 → r.names ≠ []) ∧ ∀ s ∈ r.names, s ∈ ns
  tl : rs.flatMap Rw.tells = fr.take j
  jl : j ≤ fr.length
  lr : lf ≠ rl
theorem ok_node_l (T : Txt K mg Z)  : FnOk P w K mg base CX0 (14) Z.f_node_l Z.fd_node_l ["_law_box_here", "_law_names_here"] sp_node_l := by
  have G_take_l := ok_take_l (P := P) (w := w) (base := base) T
  have G_value_l := ok_value_l (P := P) (w := w) (base := base) T
  have G_read_row_l := ok_read_row_l (P := P) (w := w) (base := base) T
  have G_tells_l := ok_tells_l (P := P) (w := w) (base := base) T
  have G_told_names_l := ok_told_names_l (P := P) (w := w) (base := base) T
  refine T.F_node_l.ok sc_node_l (fun vs H Q E h => ?_) (fun cdv AA outer s H vs Q E hr h => ?_)
  · obtain ⟨b, nl, ns, rfl, _⟩ := h
    rfl
  · obtain ⟨b, nl, ns, rfl, hB, hnl, hNs, h2, h200, k⟩ := h
    have hgn := hNs.2.1
    refine ⟨_, (pss_cons (ps_set (i := 2) sc_node_l.nd rfl (Or.inl rfl) (pe_op op_add pe_int (pe_call G_take_l (hr.mono (by omega)) rfl T.g_take_l T.F_take_l.kp T.b_take_l .nil pass0 (pa_cons (pv 0) (pa_cons (pe_callB (call_min2 rfl) (by rfl) T.n_min (by decide +kernel) (pa_cons pe_int (pa_cons (pe_op op_sub (pe_callB call_len_seq (by rfl) T.n_len (by decide +kernel) (pa_cons (pv 1) pa_nil)) pe_int) pa_nil))) pa_nil)))))
      (pss_cons (ps_set (i := 3) sc_node_l.nd rfl (Or.inl rfl) (pe_slice sl_list (pv 1) (po_some (pv 2)) po_none))
      (pss_cons (ps_set (i := 4) sc_node_l.nd rfl (Or.inl rfl) (pe_lst pa_nil))
      (Evl.pss_cut (ps_for PassesOwn.never rfl (pi_range1 (by rfl) T.n_range (pa_cons pe_int pa_nil)) (pg_name (i := 5) sc_node_l.nd rfl (Or.inl rfl)) (pss_one (ps_if (PW.pt (pw_and (pt_cmpR (op_neD hr.units) (pv 3) (pe_lst pa_nil) (nomark _)) (pw_and1 (pt_cmpR op_lt (pe_op op_add (pv 5) (pe_callB call_len_seq (by rfl) T.n_len (by decide +kernel) (pa_cons (pv 3) pa_nil))) pe_int (nomark _))))) (pss_cons (ps_set (i := 6) sc_node_l.nd rfl (Or.inl rfl) (pe_call G_read_row_l (hr.mono (by omega)) rfl T.g_read_row_l T.F_read_row_l.kp T.b_read_row_l .nil pass0 (pa_cons (pv 0) (pa_cons (pe_slice sl_list (pv 3) po_none (po_some (pe_op op_add pe_int (pe_call G_take_l (hr.mono (by omega)) rfl T.g_take_l T.F_take_l.kp T.b_take_l .nil pass0 (pa_cons (pv 0) (pa_cons pe_int pa_nil)))))) (pa_cons (pv 1) pa_nil)))))
      (pss_cons (ps_set (i := 3) sc_node_l.nd rfl (Or.inl rfl) (pe_slice sl_list (pv 3) (po_some (pe_callB call_len_seq (by rfl) T.n_len (by decide +kernel) (pa_cons (pe_call G_tells_l (hr.mono (by omega)) rfl T.g_tells_l T.F_tells_l.kp T.b_tells_l .nil pass0 (pa_cons (pv 6) pa_nil)) pa_nil))) po_none))
      (pss_one (ps_expr (pe_bm PySem.F.plainAttrs_list PySem.F.slot_list_append PySem.F.type_list_append mt_append (pv 4) (pa_cons (pv 6) pa_nil)))))) pss_nil)))
      (Evl.pss_cut (ps_for PassesOwn.never rfl (pi_list (pv 3)) (pg_name (i := 7) sc_node_l.nd rfl (Or.inl rfl)) (pss_one (ps_expr (pe_bm PySem.F.plainAttrs_list PySem.F.slot_list_append PySem.F.type_list_append mt_append (pv 4) (pa_cons (pe_tup (pa_cons pe_str (pa_cons (pv 7) (pa_cons (pe_call G_value_l (hr.mono (by omega)) rfl T.g_value_l T.F_value_l.kp T.b_value_l .nil pass0 (pa_cons (pv 0) pa_nil)) (pa_cons (pe_ix ix_list (pv 1) (pe_call G_take_l (hr.mono (by omega)) rfl T.g_take_l T.F_take_l.kp T.b_take_l .nil pass0 (pa_cons (pv 0) (pa_cons (pe_callB call_len_seq (by rfl) T.n_len (by decide +kernel) (pa_cons (pv 1) pa_nil)) pa_nil))) (fun _ _ => rfl)) pa_nil))))) pa_nil)))))
      (pss_cons (ps_set (i := 8) sc_node_l.nd rfl (Or.inl rfl) (pe_call G_told_names_l (hr.mono (by omega)) rfl T.g_told_names_l T.F_told_names_l.kp T.b_told_names_l .nil pass0 (pa_cons (pv 4) pa_nil)))
      (pss_cons (ps_set (i := 9) sc_node_l.nd rfl (Or.inl rfl) (pe_call G_take_l (hr.mono (by omega)) rfl T.g_take_l T.F_take_l.kp T.b_take_l .nil pass0 (pa_cons (pv 0) (pa_cons (pe_callB call_len_seq (by rfl) T.n_len (by decide +kernel) (pa_cons (pv 8) pa_nil)) pa_nil))))
      (pss_cons (ps_set (i := 10) sc_node_l.nd rfl (Or.inl rfl) (pe_slice sl_list (pe_op op_cat (pe_slice sl_list (pv 8) (po_some (pv 9)) po_none) (pe_slice sl_list (pv 8) po_none (po_some (pv 9)))) po_none (po_some (pe_op op_add pe_int (pe_call G_take_l (hr.mono (by omega)) rfl T.g_take_l T.F_take_l.kp T.b_take_l .nil pass0 (pa_cons (pv 0) (pa_cons pe_int pa_nil)))))))
      (pss_one (ps_ret (pe_lst (pa_cons pe_str (pa_cons (pe_slice sl_list (pv 1) po_none (po_some (pv 2))) (pa_cons (pv 10) (pa_cons (pv 4) pa_nil))))))))))))))), ?_⟩
    walk_at "ss"
    refine ⟨nl, _, rfl, .inl (SqL.of hnl), ?_⟩
    walk_at "ss"
    refine ⟨_, _, rfl, ?_⟩
    walk_at "ss"
    have hmm : (if ((ns.length : Nat) : Int) - 1 < 6 then ((ns.length : Nat) : Int) - 1 else 6) = ((min 6 (ns.length - 1) : Nat) : Int) := by split <;> omega
    rw [List.length_map, hmm]
    refine ⟨b, _, rfl, hB, by omega, by omega, fun d1 H1 h10 h11 x1 b1 => ?_⟩
    obtain ⟨dm, rfl⟩ := Int.eq_ofNat_of_zero_le h10
    have el : (1 : Int) + ((dm : Nat) : Int) = ((1 + dm : Nat) : Int) := by omega
    walk_at "ss"
    rw [el]
    have n1 := nb_strs hB hnl x1
    refine c_slDrop n1 fun lf H2 hlf e2 g2 => ?_
    walk_at "ss"
    refine newL fun rl H3 hrl e3 g3 => ?_
    walk_at "ss"
    have hmle : 1 + dm ≤ ns.length - 1 := by omega
    have hm6 : 1 + dm ≤ 6 := by omega
    have hm1 : 1 ≤ 1 + dm := by omega
    generalize 1 + dm = m at hmle hm6 hm1 g2
    have x3 : ExB b H H3 := x1.trans (ExB.of (e2.trans e3))
    have rlb : rl ≠ b := by
      obtain ⟨ob, hob⟩ := (b1.ex e2).some
      exact (ne_of_none hob hrl).symm
    have hrlH : H rl = none := fresh_backB (x1.trans (ExB.of e2)) rlb hrl
    have hfl : (ns.drop m).length = ns.length - m := List.length_drop
    have hfg : ∀ s ∈ ns.drop m, goodN s := fun s hs => hgn s (mem_dropS hs)
    have h0 : NIn Z H b nl rl lf ns (ns.drop m) 0 0 [] [] H3 := ⟨x3, (b1.ex e2).ex e3, e3 _ _ (e2 _ _ n1), e3 _ _ g2, g3, .nil, hrlH, rlb, (fun r hr => by cases hr), rfl, Nat.zero_le _, ne_of_none g2 hrl⟩
    refine c_cut (M := fun σ' G => ∃ v5 v6 v7 v8 v9 v10 lf' j rs us, σ' = [some (.ref b), some (.ref nl), some (.int (m : Nat)), some (.ref lf'), some (.ref rl), v5, v6, v7, v8, v9, v10] ∧ NIn Z H b nl rl lf' ns (ns.drop m) j j rs us G ∧ rs.length ≤ 24) ?_ ?_
    · walk_at "ss"
      refine ⟨by decide, by decide, ?_⟩
      refine forR (fun i σ' G => ∃ v5 v6 v7 v8 v9 v10 lf' j rs us, σ' = [some (.ref b), some (.ref nl), some (.int (m : Nat)), some (.ref lf'), some (.ref rl), v5, v6, v7, v8, v9, v10] ∧ NIn Z H b nl rl lf' ns (ns.drop m) j j rs us G ∧ rs.length ≤ i) ⟨_, _, _, _, _, _, lf, 0, [], [], rfl, h0, Nat.zero_le _⟩ ?_ ?_
      · rintro i σ' G hi ⟨v5, v6, v7, v8, v9, v10, lf', j, rs, us, rfl, hI, hrsl⟩
        have hi24 : i < 24 := by omega
        walk_at "ss"
        refine newL fun q4 H4 hq4 e4 g4 => ?_
        have okf : (((ns.drop m).drop j).map V.str).all okV = true := by
          rw [List.all_eq_true]
          intro y hy
          obtain ⟨s, hs, rfl⟩ := List.mem_map.mp hy
          exact okT_V (hfg s (List.mem_of_mem_drop hs)).2.2
        refine c_neLs (SqL.of (e4 _ _ hI.gl)) (SqL.of g4) okf rfl ?_
        rw [show eqL (((ns.drop m).drop j).map V.str) ([] : List V) = decide ((ns.drop m).drop j = []) from eqL_dec _ []]
        have I4 : NIn Z H b nl rl lf' ns (ns.drop m) j j rs us H4 := ⟨hI.x.trans (ExB.of e4), hI.bx.ex e4, e4 _ _ hI.gn, e4 _ _ hI.gl, e4 _ _ hI.gr, paired_up (fun r u h => h.up e4) hI.pr, hI.hr, hI.rb, hI.ok, hI.tl, hI.jl, hI.lr⟩
        cases hne : decide ((ns.drop m).drop j = []) with
        | true =>
          walk_at "ss"
          exact ⟨_, _, _, _, _, _, lf', j, rs, us, rfl, I4, by omega⟩
        | false =>
          have hne' := of_decide_eq_false hne
          walk_at "ss"
          refine ⟨lf', _, rfl, .inl (SqL.of I4.gl), ?_⟩
          walk_at "ss"
          refine if_cs (fun c1 => ?_) (fun c1 => ?_)
          · walk_at "ss"
            refine ⟨b, 6, rfl, I4.bx, by decide, by decide, fun d5 H5 h50 h51 x5 b5 => ?_⟩
            obtain ⟨dn, rfl⟩ := Int.eq_ofNat_of_zero_le h50
            have el2 : (1 : Int) + ((dn : Nat) : Int) = ((1 + dn : Nat) : Int) := by omega
            walk_at "ss"
            rw [el2]
            refine c_slTake (nb_strs I4.bx I4.gl x5) fun tp H6 htp e6 g6 => ?_
            walk_at "ss"
            have n6 : H6 nl = some (.lst (ns.map V.str)) := e6 _ _ (nb_strs I4.bx I4.gn x5)
            have hpos : 0 < ((ns.drop m).drop j).length := List.length_pos_iff.mpr hne'
            refine ⟨b, tp, nl, ((ns.drop m).drop j).take (1 + dn), ns, rfl, b5.ex e6, g6, n6, fun s hs => hfg s (List.mem_of_mem_drop (List.mem_of_mem_take hs)), hgn, by rw [List.length_take]; omega, by rw [List.length_take]; omega, by omega, by omega, fun r u H7 hG hpl hR x7 b7 => ?_⟩
            have X47 : ExB b H4 H7 := x5.trans ((ExB.of e6).trans x7)
            have N47 : NL H4 H7 := NL.box X47 I4.bx
            walk_at "ss"
            refine ⟨r, u, rfl, hR, hG.1, fun tq H8 htq e8 g8 => ?_⟩
            walk_at "ss"
            refine ⟨tq, _, rfl, .inl (SqL.of g8), ?_⟩
            walk_at "ss"
            rw [List.length_map]
            have gl8 : H8 lf' = some (.lst (((ns.drop m).drop j).map V.str)) := e8 _ _ (nb_strs I4.bx I4.gl X47)
            refine c_slDrop gl8 fun lf2 H9 hlf2 e9 g9 => ?_
            walk_at "ss"
            have gr9 : H9 rl = some (.lst us) := e9 _ _ (e8 _ _ (X47 _ _ I4.rb I4.gr))
            refine ⟨.inl ⟨rfl, _, SqL.of gr9⟩, ?_⟩
            walk_at "ss"
            have hul := paired_len I4.pr
            refine ⟨rl, _, _, rfl, rfl, gr9, Evl.sz_lt (by omega), ?_⟩
            walk_at "ss"
            have e89 := e8.trans e9
            have NU : NL H9 (upd H9 rl (.lst (us ++ [u]))) := NL.upd gr9
            have nlr : nl ≠ rl := by
              intro z
              have := hnl
              rw [z, I4.hr] at this
              cases this
            have l2r : lf2 ≠ rl := (ne_of_none (e8 _ _ (X47 _ _ I4.rb I4.gr)) hlf2).symm
            have ht1 : r.tells = ((ns.drop m).drop j).take r.tells.length := by
              have h1 := hG.2.2.1
              rw [List.take_take] at h1
              have h2 : r.tells.length ≤ 1 + dn := by
                have := congrArg List.length h1
                rw [List.length_take] at this
                omega
              rw [Nat.min_eq_left h2] at h1
              exact h1
            have hjl : j + r.tells.length ≤ (ns.drop m).length := by
              have := congrArg List.length ht1
              rw [List.length_take, List.length_drop] at this
              have := I4.jl
              omega
            refine ⟨_, _, _, _, _, _, lf2, j + r.tells.length, rs ++ [r], us ++ [u], rfl, ⟨ExB.mutF ((I4.x.trans X47).trans (ExB.of e89)) I4.hr, ?_, ?_, ?_, upd_same, ?_, I4.hr, I4.rb, ?_, ?_, hjl, l2r⟩, by rw [List.length_append]; simp; omega⟩
            · obtain ⟨x, y, z, h0, q⟩ := b7.ex e89
              exact ⟨x, y, z, h0, by rw [upd_ne I4.rb.symm]; exact q⟩
            · rw [upd_ne nlr]
              exact e89 _ _ (nb_strs I4.bx I4.gn X47)
            · rw [upd_ne l2r, g9, List.drop_drop]
            · exact paired_snoc ((hR.up e89).nl NU) (paired_up (fun r u h => ((h.nl N47).up e89).nl NU) I4.pr)
            · intro r' hr'
              rcases List.mem_append.mp hr' with h | h
              · exact I4.ok r' h
              · have : r' = r := by simpa using h
                subst this
                exact ⟨hG.1, hpl, hG.2.2.2⟩
            · rw [flat_snoc, I4.tl]
              conv => lhs; rw [ht1]
              rw [List.take_add]
          · walk_at "ss"
            exact ⟨_, _, _, _, _, _, lf', j, rs, us, rfl, I4, by omega⟩
      · rintro σ' G ⟨v5, v6, v7, v8, v9, v10, lf', j, rs, us, rfl, hI, hrsl⟩
        walk_at "ss"
        exact ⟨_, _, _, _, _, _, lf', j, rs, us, rfl, hI, hrsl⟩
    rintro σ' G ⟨v5, v6, v7, v8, v9, v10, lf', j, rs0, us, rfl, hI, hrsl⟩
    refine c_cut (M := fun σ' G => ∃ v5 v6 v7 v8 v9 v10 lf' jf rs us, σ' = [some (.ref b), some (.ref nl), some (.int (m : Nat)), some (.ref lf'), some (.ref rl), v5, v6, v7, v8, v9, v10] ∧ NIn Z H b nl rl lf' ns (ns.drop m) jf (ns.drop m).length rs us G ∧ ∃ A B, rs = A ++ B ∧ A.length ≤ 24 ∧ B.length ≤ 200 ∧ ∀ r ∈ B, ∃ s v x, r = Rw.vd 0 s v x) ?_ ?_
    · walk_at "ss"
      refine ⟨⟨_, SqL.of hI.gl⟩, forL (xs := ((ns.drop m).drop j).map V.str) (fun i σ' G => (∃ v5 v6 v7 v8 v9 v10, σ' = [some (.ref b), some (.ref nl), some (.int (m : Nat)), some (.ref lf'), some (.ref rl), v5, v6, v7, v8, v9, v10]) ∧ ∃ rs us, NIn Z H b nl rl lf' ns (ns.drop m) j (j + i) rs us G ∧ ∃ B, rs = rs0 ++ B ∧ B.length ≤ i ∧ ∀ r ∈ B, ∃ s v x, r = Rw.vd 0 s v x) ⟨⟨_, _, _, _, _, _, rfl⟩, rs0, us, hI, [], (List.append_nil _).symm, Nat.zero_le _, fun r hr => by cases hr⟩ (fun i σ' G _ q => ?_) ?_ ?_⟩
      · obtain ⟨_, _, _, h, _⟩ := q
        exact SqL.of h.gl
      · rintro i x σ' G hx ⟨⟨v5, v6, v7, v8, v9, v10, rfl⟩, rs, us, hI, B, hrB, hBl, hBv⟩
        rw [List.getElem?_map] at hx
        obtain ⟨s, hs, rfl⟩ := Option.map_eq_some_iff.mp hx
        rw [List.getElem?_drop] at hs
        have hjs := (List.getElem?_eq_some_iff.mp hs).1
        walk_at "ss"
        refine ⟨.inl ⟨rfl, _, SqL.of hI.gr⟩, ?_⟩
        walk_at "ss"
        refine ⟨b, rfl, hI.bx, fun v H5 hv x5 b5 => ?_⟩
        walk_at "ss"
        have n5 : H5 nl = some (.lst (ns.map V.str)) := nb_strs hI.bx hI.gn x5
        refine ⟨nl, _, rfl, .inl (SqL.of n5), ?_⟩
        walk_at "ss"
        refine ⟨b, _, rfl, b5, by rw [List.length_map]; omega, by rw [List.length_map]; omega, fun d6 H6 h60 h61 x6 b6 => ?_⟩
        refine pick_name (by omega) b5 n5 hgn x6 h60 h61 fun one mone gone => ?_
        walk_at "ss"
        refine newT fun p7 H7 hp7 e7 g7 => ?_
        walk_at "ss"
        have X7 : ExB b G H7 := x5.trans (x6.trans (ExB.of e7))
        have N7 : NL G H7 := NL.box X7 hI.bx
        have gr7 : H7 rl = some (.lst us) := X7 _ _ hI.rb hI.gr
        have hul := paired_len hI.pr
        have hrl2 : rs.length ≤ 24 + i := by rw [hrB, List.length_append]; omega
        refine ⟨rl, _, _, rfl, rfl, gr7, Evl.sz_lt (by omega), ?_⟩
        walk_at "ss"
        have NU : NL H7 (upd H7 rl (.lst (us ++ [.ref p7]))) := NL.upd gr7
        have nlr : nl ≠ rl := by
          intro z
          have := hnl
          rw [z, hI.hr] at this
          cases this
        have hR : RowAt H7 (.vd 0 s v one) (.ref p7) := ⟨p7, rfl, g7⟩
        refine ⟨⟨_, _, _, _, _, _, rfl⟩, rs ++ [.vd 0 s v one], us ++ [.ref p7], ⟨ExB.mutF (hI.x.trans X7) hI.hr, ?_, ?_, ?_, upd_same, ?_, hI.hr, hI.rb, ?_, ?_, by omega, hI.lr⟩, B ++ [.vd 0 s v one], by rw [hrB, List.append_assoc], by rw [List.length_append]; simp; omega, fun r hr => (List.mem_append.mp hr).elim (hBv r) fun h => ⟨s, v, one, by simpa using h⟩⟩
        · obtain ⟨x, y, z, h0, q⟩ := b6.ex e7
          exact ⟨x, y, z, h0, by rw [upd_ne hI.rb.symm]; exact q⟩
        · rw [upd_ne nlr]
          exact nb_strs hI.bx hI.gn X7
        · rw [upd_ne hI.lr]
          exact nb_strs hI.bx hI.gl X7
        · exact paired_snoc (hR.nl NU) (paired_up (fun r u h => (h.nl N7).nl NU) hI.pr)
        · intro r' hr'
          rcases List.mem_append.mp hr' with h | h
          · exact hI.ok r' h
          · have : r' = .vd 0 s v one := by simpa using h
            subst this
            exact ⟨⟨by decide, hfg s (List.mem_of_getElem? hs), hv, gone⟩, (fun z => by cases z), fun z hz => (by have e : z = one := (by simpa [Rw.names] using hz); rw [e]; exact mone)⟩
        · rw [flat_snoc, hI.tl, ← Nat.add_assoc, List.take_add_one, hs]
          rfl
      · rintro σ' G ⟨⟨v5, v6, v7, v8, v9, v10, rfl⟩, rs, us, hI, B, hrB, hBl, hBv⟩
        walk_at "ss"
        rw [List.length_map, List.length_drop] at hI hBl
        have hjl := hI.jl
        rw [show j + ((ns.drop m).length - j) = (ns.drop m).length by omega] at hI
        exact ⟨_, _, _, _, _, _, lf', j, rs, us, rfl, hI, rs0, B, hrB, hrsl, by omega, hBv⟩
    clear hI hrsl
    rintro σ' G ⟨v5, v6, v7, v8, v9, v10, lf', jf, rs, us, rfl, hI, hfew⟩
    have hrsl : rs.length ≤ 224 := by obtain ⟨A, B, e, h1, h2, _⟩ := hfew; rw [e, List.length_append]; omega
    have hfm := hI.tl
    rw [List.take_length] at hfm
    walk_at "ss"
    refine ⟨rl, rs, us, rfl, hI.gr, hI.pr, by omega, fun r hr => (hI.ok r hr).1, by rw [hfm]; omega, fun kp H5 hkp e5 g5 => ?_⟩
    rw [hfm] at g5
    walk_at "ss"
    refine ⟨kp, _, rfl, .inl (SqL.of g5), ?_⟩
    walk_at "ss"
    refine ⟨b, _, rfl, hI.bx.ex e5, by rw [List.length_map]; omega, by rw [List.length_map]; omega, fun d6 H6 h60 h61 x6 b6 => ?_⟩
    obtain ⟨at_, rfl⟩ := Int.eq_ofNat_of_zero_le h60
    rw [List.length_map] at h61
    walk_at "ss"
    have g6 : H6 kp = some (.lst ((ns.drop m).map V.str)) := nb_strs (hI.bx.ex e5) g5 x6
    refine c_slDrop g6 fun q7 H7 hq7 e7 g7 => ?_
    walk_at "ss"
    refine c_slTake (e7 _ _ g6) fun q8 H8 hq8 e8 g8 => ?_
    walk_at "ss"
    refine c_cat (e8 _ _ g7) g8 (fun q9 H9 hq9 e9 g9 => ?_) (by rw [List.length_map, List.length_map, List.length_drop, List.length_take]; omega)
    walk_at "ss"
    rw [← List.map_append] at g9
    have E69 := e7.trans (e8.trans e9)
    refine ⟨b, 6, rfl, b6.ex E69, by decide, by decide, fun d10 H10 h100 h101 x10 b10 => ?_⟩
    obtain ⟨dn, rfl⟩ := Int.eq_ofNat_of_zero_le h100
    have el2 : (1 : Int) + ((dn : Nat) : Int) = ((1 + dn : Nat) : Int) := by omega
    walk_at "ss"
    rw [el2]
    refine c_slTake (nb_strs (b6.ex E69) g9 x10) fun q11 H11 hq11 e11 g11 => ?_
    walk_at "ss"
    have XG : ExB b G H11 := (ExB.of e5).trans (x6.trans ((ExB.of E69).trans (x10.trans (ExB.of e11))))
    have n11 : H11 nl = some (.lst (ns.map V.str)) := nb_strs hI.bx hI.gn XG
    refine c_slTake n11 fun q12 H12 hq12 e12 g12 => ?_
    walk_at "ss"
    refine newL fun q13 H13 hq13 e13 g13 => ?_
    have X13 : ExB b G H13 := XG.trans (ExB.of (e12.trans e13))
    have b13 : BoxAt H13 b := (b10.ex e11).ex (e12.trans e13)
    have hperm : ∀ s, s ∈ (((ns.drop m).drop at_ ++ (ns.drop m).take at_).take (1 + dn)) → s ∈ ns.drop m := fun s hs => by
      rcases List.mem_append.mp (List.mem_of_mem_take hs) with h | h
      · exact List.mem_of_mem_drop h
      · exact List.mem_of_mem_take h
    have hndrop : (ns.drop m).Nodup := hNs.1.sublist (List.drop_sublist _ _)
    have hol : ((ns.drop m).drop at_ ++ (ns.drop m).take at_).length = ns.length - m := by
      rw [List.length_append, List.length_drop, List.length_take, List.length_drop]
      omega
    have hrot : ((ns.drop m).drop at_ ++ (ns.drop m).take at_).Nodup := by
      have h1 : ((ns.drop m).take at_ ++ (ns.drop m).drop at_).Nodup := by rw [List.take_append_drop]; exact hndrop
      exact (List.perm_append_comm.nodup_iff).mp h1
    have hin : (ns.take m).length = m := by rw [List.length_take]; omega
    have hnames : ns.take m ++ rs.flatMap Rw.tells = ns := by rw [hfm, List.take_append_drop]
    have hgood : Nd.good ⟨"n", ns.take m, (((ns.drop m).drop at_ ++ (ns.drop m).take at_).take (1 + dn)), rs⟩ := {
      nm := nd_good "n" (by decide +kernel)
      in0 := by show 0 < (ns.take m).length; omega
      in1 := by show (ns.take m).length ≤ 300; omega
      inG := fun s hs => hgn s (List.mem_of_mem_take hs)
      out0 := by show 0 < (List.take _ _).length; rw [List.length_take]; omega
      out1 := by show (List.take _ _).length ≤ 300; rw [List.length_take]; omega
      outG := fun s hs => ⟨hgn s (mem_dropS (hperm s hs)), by show s ∈ rs.flatMap Rw.tells; rw [hfm]; exact hperm s hs⟩
      outN := hrot.sublist (List.take_sublist _ _)
      all := by show (ns.take m ++ rs.flatMap Rw.tells).Nodup; rw [hnames]; exact hNs.1
      all1 := by show (ns.take m ++ rs.flatMap Rw.tells).length ≤ 1000; rw [hnames]; omega
      row1 := by show rs.length ≤ 300; omega
      row := fun r hr => ⟨(hI.ok r hr).1, (hI.ok r hr).2.1, fun s hs => by show s ∈ ns.take m ++ rs.flatMap Rw.tells; rw [hnames]; exact (hI.ok r hr).2.2 s hs⟩ }
    refine k ⟨"n", ns.take m, (((ns.drop m).drop at_ ++ (ns.drop m).take at_).take (1 + dn)), rs⟩ q13 H13 ⟨hgood, rfl, hnames, hrsl, hfew, ?_, ?_, ?_⟩ ⟨q12, q11, rl, us, g13, e13 _ _ g12, e13 _ _ (e12 _ _ g11), X13 _ _ hI.rb hI.gr, paired_up (fun r u h => h.nl (NL.box X13 hI.bx)) hI.pr⟩ (hI.x.trans X13) b13
    · show (List.take _ _).length ≤ 6
      rw [List.length_take]
      omega
    · show (ns.take m).length ≤ 6
      omega
    · show ns.take m = ns.take (ns.take m).length
      rw [hin]

/-! ### nodes as data: what is shown of them -/
open TL (tl)
theorem spl_mem : ∀ (l acc : List Nat) (c : Nat), c ∈ acc ++ l → c = 46 ∨ ∃ p ∈ TL.spl [46] 0 acc l, c ∈ p
  | [], acc, c, h => .inr ⟨acc, by rw [TL.spl_nil]; simp, by rw [List.append_nil] at h; exact h⟩
  | x :: r, acc, c, h => by
    by_cases hx : TL.pre [46] (x :: r) = true
    · rw [TL.spl_hit hx]
      have hx46 : x = 46 := by
        simp [TL.pre] at hx
        first | exact hx.symm | exact hx
      rcases List.mem_append.mp h with h | h
      · exact .inr ⟨acc, List.mem_cons_self, h⟩
      · rcases List.mem_cons.mp h with rfl | h
        · exact .inl hx46
        · rcases spl_mem r [] c h with h | ⟨p, hp, hc⟩
          · exact .inl h
          · exact .inr ⟨p, List.mem_cons_of_mem _ hp, hc⟩
    · rw [TL.spl_miss (Bool.eq_false_iff.mpr hx)]
      exact spl_mem r (acc ++ [x]) c (by simpa using h)
theorem letC_pl {c : Nat} (h : letC c = true) : plC c = true := by
  unfold letC at h
  unfold plC
  rw [Bool.and_eq_true, decide_eq_true_eq, decide_eq_true_eq] at h
  rw [decide_eq_true_eq]
  omega
theorem isName_pl {s : Str} (h : isName s = true) : (tl s).all plC = true := by
  unfold isName at h
  rw [Bool.and_eq_true] at h
  rw [List.all_eq_true] at h ⊢
  exact fun c hc => letC_pl (h.2 c hc)
theorem goodN_pl {s : Str} (h : goodN s) : (tl s).all plC = true := by
  have hp := h.1
  unfold isPointed at hp
  rw [Bool.and_eq_true, List.all_eq_true] at hp
  rw [List.all_eq_true]
  intro c hc
  rcases spl_mem (tl s) [] c hc with rfl | ⟨p, hp2, hc2⟩
  · decide
  · have hm := TL.split_spl s "." (by decide +kernel) (TL.kind_ok (by decide +kernel))
    rw [show tl "." = [46] by decide +kernel] at hm
    rw [← hm] at hp2
    obtain ⟨t, ht, rfl⟩ := List.mem_map.mp hp2
    exact List.all_eq_true.mp (isName_pl (hp.2 t ht)) c hc2
theorem strs_pl {ns : List Str} (h : ∀ s ∈ ns, goodN s) : plD (strsD ns) = true := by
  unfold strsD
  rw [plD]
  refine plAll_of fun d hd => ?_
  obtain ⟨s, hs, rfl⟩ := List.mem_map.mp hd
  rw [plD]
  exact goodN_pl (h s hs)
theorem val_pl {v : V} (g : isVal v = true) : plD (valD v) = true := by
  cases v with
  | bl b => show plD (.bool b) = true; rw [plD]
  | int i => show plD (.int i) = true; rw [plD]
  | _ => exact absurd g Bool.false_ne_true
theorem ops_pl : ∀ op ∈ opsW, (tl op).all plC = true := by decide +kernel
theorem vword_pl (k : Nat) : (tl (vword k)).all plC = true := by
  rcases vword_in k with e | e | e <;> (rw [e]; decide +kernel)
theorem tm_pl : ∀ {t : Tm}, t.good → plD t.data = true
  | .nm s, g => by
    show plD (.tuple [.str "name", .str s]) = true
    simp only [plD, plAll, goodN_pl g, Bool.and_true]
    decide +kernel
  | .vl v, g => by
    show plD (.tuple [.str "value", valD v]) = true
    simp only [plD, plAll, val_pl g, Bool.and_true]
    decide +kernel
  | .two op a b, g => by
    show plD (.tuple [.str "two", .str op, a.data, b.data]) = true
    simp only [plD, plAll, ops_pl op g.1, tm_pl g.2.1, tm_pl g.2.2, Bool.and_true]
    decide +kernel
  | .nt a, g => by
    show plD (.tuple [.str "not", a.data]) = true
    simp only [plD, plAll, tm_pl (t := a) g, Bool.and_true]
    decide +kernel
  | .pk c a b, g => by
    show plD (.tuple [.str "pick", c.data, a.data, b.data]) = true
    simp only [plD, plAll, tm_pl g.1, tm_pl g.2.1, tm_pl g.2.2, Bool.and_true]
    decide +kernel
theorem row_pl {r : Rw} (g : r.good) : plD r.data = true := by
  cases r with
  | pl n t =>
    show plD (.tuple [.str "plain", .str n, t.data]) = true
    simp only [plD, plAll, goodN_pl g.1, tm_pl g.2.1, Bool.and_true]
    decide +kernel
  | vd k n v x =>
    show plD (.tuple [.str (vword k), .str n, valD v, .str x]) = true
    simp only [plD, plAll, vword_pl k, goodN_pl g.2.1, val_pl g.2.2.1, goodN_pl g.2.2.2, Bool.and_true]
  | wh n x y =>
    show plD (.tuple [.str "when", .str n, .str x, .str y]) = true
    simp only [plD, plAll, goodN_pl g.1, goodN_pl g.2.1, goodN_pl g.2.2, Bool.and_true]
    decide +kernel
  | sm ns =>
    show plD (.tuple [.str "same", strsD ns]) = true
    rw [plD, plAll, plAll, strs_pl g.2.2, plAll, plD]
    decide +kernel
  | cl os nd xs =>
    show plD (.tuple [.str "call", strsD os, .str nd, strsD xs]) = true
    rw [plD, plAll, plAll, plAll, plAll, plAll, strs_pl g.2.2.1, strs_pl g.2.2.2.2.2.2, plD, plD, isName_pl g.2.2.2.1.1]
    decide +kernel
/-! how great they are -/
theorem Tm.rp3 : ∀ {t : Tm}, t.good → RpOk t.dep (110 * 3 ^ t.dep - 10) t.data := by
  intro t
  induction t with
  | nm s =>
    intro g
    refine (rp_tup (rp_cons (ok_lit (n := 4) (by decide +kernel) (by decide +kernel)) (rp_cons (rp_str g.2.2) rp_nil))).mono (by show 0 + 1 ≤ 1; omega) ?_
    have := g.2.1
    show 4 + 1 + (s.length + 1 + 0) ≤ 110 * 3 ^ 1 - 10
    omega
  | vl v =>
    intro g
    exact (rp_tup (rp_cons (ok_lit (n := 5) (by decide +kernel) (by decide +kernel)) (rp_cons (rp_val g) rp_nil))).mono (by show 0 + 1 ≤ 1; omega) (by show 5 + 1 + (0 + 1 + 0) ≤ 110 * 3 ^ 1 - 10; omega)
  | two op a b iha ihb =>
    intro g
    have p1 : 3 ^ a.dep ≤ 3 ^ max a.dep b.dep := Nat.pow_le_pow_right (by decide) (by omega)
    have p2 : 3 ^ b.dep ≤ 3 ^ max a.dep b.dep := Nat.pow_le_pow_right (by decide) (by omega)
    have p3 : 1 ≤ 3 ^ max a.dep b.dep := Nat.one_le_pow _ _ (by decide)
    have e : 3 ^ (1 + max a.dep b.dep) = 3 * 3 ^ max a.dep b.dep := by rw [Nat.pow_add]
    refine (rp_tup (rp_cons (ok_lit (n := 4) (by decide +kernel) (by decide +kernel)) (rp_cons (ops_lit g.1) (rp_cons (iha g.2.1) (rp_cons (ihb g.2.2) rp_nil))))).mono ?_ ?_
    · show max 0 (max 0 (max a.dep (max b.dep 0))) + 1 ≤ 1 + max a.dep b.dep
      omega
    · show 4 + 1 + (5 + 1 + (110 * 3 ^ a.dep - 10 + 1 + (110 * 3 ^ b.dep - 10 + 1 + 0))) ≤ 110 * 3 ^ (1 + max a.dep b.dep) - 10
      rw [e]
      have q1 : 1 ≤ 3 ^ a.dep := Nat.one_le_pow _ _ (by decide)
      have q2 : 1 ≤ 3 ^ b.dep := Nat.one_le_pow _ _ (by decide)
      omega
  | nt a iha =>
    intro g
    have p3 : 1 ≤ 3 ^ a.dep := Nat.one_le_pow _ _ (by decide)
    have e : 3 ^ (1 + a.dep) = 3 * 3 ^ a.dep := by rw [Nat.pow_add]
    refine (rp_tup (rp_cons (ok_lit (n := 4) (by decide +kernel) (by decide +kernel)) (rp_cons (iha g) rp_nil))).mono ?_ ?_
    · show max 0 (max a.dep 0) + 1 ≤ 1 + a.dep
      omega
    · show 4 + 1 + (110 * 3 ^ a.dep - 10 + 1 + 0) ≤ 110 * 3 ^ (1 + a.dep) - 10
      rw [e]
      omega
  | pk c a b ihc iha ihb =>
    intro g
    have p0 : 3 ^ c.dep ≤ 3 ^ max (max c.dep a.dep) b.dep := Nat.pow_le_pow_right (by decide) (by omega)
    have p1 : 3 ^ a.dep ≤ 3 ^ max (max c.dep a.dep) b.dep := Nat.pow_le_pow_right (by decide) (by omega)
    have p2 : 3 ^ b.dep ≤ 3 ^ max (max c.dep a.dep) b.dep := Nat.pow_le_pow_right (by decide) (by omega)
    have q0 : 1 ≤ 3 ^ c.dep := Nat.one_le_pow _ _ (by decide)
    have q1 : 1 ≤ 3 ^ a.dep := Nat.one_le_pow _ _ (by decide)
    have q2 : 1 ≤ 3 ^ b.dep := Nat.one_le_pow _ _ (by decide)
    have e : 3 ^ (1 + max (max c.dep a.dep) b.dep) = 3 * 3 ^ max (max c.dep a.dep) b.dep := by rw [Nat.pow_add]
    refine (rp_tup (rp_cons (ok_lit (n := 4) (by decide +kernel) (by decide +kernel)) (rp_cons (ihc g.1) (rp_cons (iha g.2.1) (rp_cons (ihb g.2.2) rp_nil))))).mono ?_ ?_
    · show max 0 (max c.dep (max a.dep (max b.dep 0))) + 1 ≤ 1 + max (max c.dep a.dep) b.dep
      omega
    · show 4 + 1 + (110 * 3 ^ c.dep - 10 + 1 + (110 * 3 ^ a.dep - 10 + 1 + (110 * 3 ^ b.dep - 10 + 1 + 0))) ≤ 110 * 3 ^ (1 + max (max c.dep a.dep) b.dep) - 10
      rw [e]
      omega
theorem Rw.rp3 {r : Rw} (g : r.good) : RpOk 6 30000 r.data := by
  cases r with
  | pl n t =>
    have hB : 110 * 3 ^ t.dep - 10 ≤ 26720 := by
      have : 3 ^ t.dep ≤ 3 ^ 5 := Nat.pow_le_pow_right (by decide) g.2.2
      have e : (3 : Nat) ^ 5 = 243 := rfl
      omega
    have hd := g.2.2
    exact (rp_tup (rp_cons (ok_lit (n := 5) (by decide +kernel) (by decide +kernel)) (rp_cons (rp_N g.1) (rp_cons (Tm.rp3 g.2.1) rp_nil)))).mono (by omega) (by omega)
  | vd k n v x => exact (rp_tup (rp_cons (rp_vword k) (rp_cons (rp_N g.2.1) (rp_cons (rp_val g.2.2.1) (rp_cons (rp_N g.2.2.2) rp_nil))))).mono (by omega) (by omega)
  | wh n x y => exact (rp_tup (rp_cons (ok_lit (n := 5) (by decide +kernel) (by decide +kernel)) (rp_cons (rp_N g.1) (rp_cons (rp_N g.2.1) (rp_cons (rp_N g.2.2) rp_nil))))).mono (by omega) (by omega)
  | sm ns => exact (rp_tup (rp_cons (ok_lit (n := 5) (by decide +kernel) (by decide +kernel)) (rp_cons (rp_strs g.2.2 g.2.1) rp_nil))).mono (by omega) (by omega)
  | cl os nd xs => exact (rp_tup (rp_cons (ok_lit (n := 5) (by decide +kernel) (by decide +kernel)) (rp_cons (rp_strs g.2.2.1 g.2.1) (rp_cons ((rp_str g.2.2.2.1.2.2).mono (Nat.le_refl _) g.2.2.2.1.2.1) (rp_cons (rp_strs g.2.2.2.2.2.2 g.2.2.2.2.2.1) rp_nil))))).mono (by omega) (by omega)
theorem Rw.rpV {k : Nat} {n : Str} {v : V} {x : Str} (g : (Rw.vd k n v x).good) : RpOk 6 200 (Rw.vd k n v x).data := (rp_tup (rp_cons (rp_vword k) (rp_cons (rp_N g.2.1) (rp_cons (rp_val g.2.2.1) (rp_cons (rp_N g.2.2.2) rp_nil))))).mono (by omega) (by omega)
/-- the sum of what rows come to -/
def bulkR (rs : List Rw) : Nat := (rs.map fun r => r.data.bulk + 1).sum
theorem bulkR_app (a b : List Rw) : bulkR (a ++ b) = bulkR a + bulkR b := by unfold bulkR; rw [List.map_append, List.sum_append]
theorem bulkR_le {rs : List Rw} (h : ∀ r ∈ rs, r.good) : bulkR rs ≤ 30001 * rs.length := by
  induction rs with
  | nil => simp [bulkR]
  | cons r rs ih =>
    have h1 := ih fun z hz => h z (List.mem_cons_of_mem _ hz)
    have h2 := (Rw.rp3 (h r List.mem_cons_self)).2.2.2.2
    unfold bulkR at h1 ⊢
    rw [List.map_cons, List.sum_cons, List.length_cons, Nat.mul_succ]
    omega
theorem rp_rows {rs : List Rw} (h : ∀ r ∈ rs, r.good) : RpAll 6 (bulkR rs) (rs.map Rw.data) := by
  induction rs with
  | nil => exact ⟨rp_nil.1, rp_nil.2.1, rp_nil.2.2.1, Nat.le_trans rp_nil.2.2.2.1 (by decide), Nat.le_trans rp_nil.2.2.2.2 (Nat.zero_le _)⟩
  | cons r rs ih =>
    have hr := Rw.rp3 (h r List.mem_cons_self)
    obtain ⟨k1, k2, k3, k4, k5⟩ := rp_cons (B := r.data.bulk) ⟨hr.1, hr.2.1, hr.2.2.1, hr.2.2.2.1, Nat.le_refl _⟩ (ih fun z hz => h z (List.mem_cons_of_mem _ hz))
    refine ⟨k1, k2, k3, by simpa using k4, ?_⟩
    have e : bulkR (r :: rs) = r.data.bulk + 1 + bulkR rs := by unfold bulkR; rw [List.map_cons, List.sum_cons]
    rw [e]
    exact k5
theorem dp_rows {H : Hp} : ∀ {rs : List Rw} {us : List V}, (∀ r ∈ rs, r.good) → Paired (RowAt H) rs us → DpAll K H us (rs.map Rw.data)
  | [], _, _, .nil => .nil
  | r :: rs, _, hg, .cons h t => .cons (h.dp (hg r List.mem_cons_self)) (dp_rows (fun z hz => hg z (List.mem_cons_of_mem _ hz)) t)
/-- a node that is not too great to be shown -/
structure NdB (n : Nd) : Prop where
  g : n.good
  b : bulkR n.rows ≤ 900000
  i : n.ins.length ≤ 100
  o : n.outs.length ≤ 100
def Nd.dat (n : Nd) : PyData := .tuple [.str n.nm, strsD n.ins, strsD n.outs, .tuple (n.rows.map Rw.data)]
def Nd.ldat (n : Nd) : PyData := .list [.str n.nm, .list (n.ins.map PyData.str), .list (n.outs.map PyData.str), .list (n.rows.map Rw.data)]
theorem NdB.rows (h : NdB n) : ∀ r ∈ n.rows, r.good := fun r hr => (h.g.row r hr).1
theorem NdB.outs (h : NdB n) : ∀ s ∈ n.outs, goodN s := fun s hs => (h.g.outG s hs).1
theorem rp_strsL {ns : List Str} (h : ∀ s ∈ ns, goodN s) (hl : ns.length ≤ 100) : RpOk 1 8100 (.list (ns.map PyData.str)) := by
  have h1 : RpAll 0 ((ns.map PyData.str).length * (80 + 1)) (ns.map PyData.str) := rp_all fun d hd => by
    obtain ⟨s, hs, rfl⟩ := List.mem_map.mp hd
    exact rp_N (h s hs)
  rw [List.length_map] at h1
  exact (rp_lst h1).mono (Nat.le_refl _) (by omega)
theorem NdB.rp {n : Nd} (h : NdB n) : RpOk 8 1000000 n.dat := by
  have hb := h.b
  exact (rp_tup (rp_cons ((rp_str h.g.nm.2.2).mono (Nat.le_refl _) h.g.nm.2.1) (rp_cons (rp_strs h.g.inG h.i) (rp_cons (rp_strs h.outs h.o) (rp_cons (rp_tup (rp_rows h.rows)) rp_nil))))).mono (by omega) (by omega)
theorem NdB.rpl {n : Nd} (h : NdB n) : RpOk 8 1000000 n.ldat := by
  have hb := h.b
  exact (rp_lst (rp_cons ((rp_str h.g.nm.2.2).mono (Nat.le_refl _) h.g.nm.2.1) (rp_cons (rp_strsL h.g.inG h.i) (rp_cons (rp_strsL h.outs h.o) (rp_cons (rp_lst (rp_rows h.rows)) rp_nil))))).mono (by omega) (by omega)
theorem NdB.rpr {n : Nd} (h : NdB n) : RpOk 8 1000000 (.list (n.rows.map Rw.data)) := by
  have hb := h.b
  exact (rp_lst (rp_rows h.rows)).mono (by omega) (by omega)
theorem NdT.dp {H : Hp} {n : Nd} {u : V} (h : NdT H n u) (g : NdB n) : Dp K H u n.dat := by
  obtain ⟨a, p, q, t, us, rfl, h1, h2, h3, h4, h5⟩ := h
  exact .tup (SqT.of h1) (.cons (.str _) (.cons (.tup (SqT.of h2) dp_strs) (.cons (.tup (SqT.of h3) dp_strs) (.cons (.tup (SqT.of h4) (dp_rows g.rows h5)) .nil))))
theorem NdL.dp {H : Hp} {n : Nd} {p : Addr} (h : NdL H n p) (g : NdB n) : Dp K H (.ref p) n.ldat := by
  obtain ⟨li, lo, lr, us, h1, h2, h3, h4, h5⟩ := h
  exact .lst (SqL.of h1) (.cons (.str _) (.cons (.lst (SqL.of h2) dp_strs) (.cons (.lst (SqL.of h3) dp_strs) (.cons (.lst (SqL.of h4) (dp_rows g.rows h5)) .nil))))
theorem rows_pl {rs : List Rw} (h : ∀ r ∈ rs, r.good) : plAll (rs.map Rw.data) = true := plAll_of fun d hd => by
  obtain ⟨r, hr, rfl⟩ := List.mem_map.mp hd
  exact row_pl (h r hr)
theorem strL_pl {ns : List Str} (h : ∀ s ∈ ns, goodN s) : plAll (ns.map PyData.str) = true := by
  have := strs_pl h
  unfold strsD at this
  rw [plD] at this
  exact this
theorem NdB.pl {n : Nd} (h : NdB n) : plD n.dat = true := by
  unfold Nd.dat
  rw [plD, plAll, plAll, plAll, plAll, plAll, plD, strs_pl h.g.inG, strs_pl h.outs, plD, rows_pl h.rows, isName_pl h.g.nm.1]
  rfl
theorem NdB.pll {n : Nd} (h : NdB n) : plD n.ldat = true := by
  unfold Nd.ldat
  rw [plD, plAll, plAll, plAll, plAll, plAll, plD, plD, strL_pl h.g.inG, plD, strL_pl h.outs, plD, rows_pl h.rows, isName_pl h.g.nm.1]
  rfl
theorem dat_iff {n m : Nd} : n.dat = m.dat ↔ n.ldat = m.ldat := by
  unfold Nd.dat Nd.ldat strsD
  simp only [PyData.tuple.injEq, PyData.list.injEq, List.cons.injEq, and_true]
/-- shown alike just where alike -/
theorem shown_dat {n m : Nd} (h : NdB n) (k : NdB m) : decide (V.str n.dat.shown = V.str m.dat.shown) = true ↔ n.dat = m.dat := by
  rw [decide_eq_true_eq]
  exact ⟨fun z => shown_inj h.pl k.pl (V.str.inj z), fun z => by rw [z]⟩
theorem shown_ldat {n m : Nd} (h : NdB n) (k : NdB m) : decide (V.str n.ldat.shown = V.str m.ldat.shown) = true ↔ n.dat = m.dat := by
  rw [decide_eq_true_eq]
  exact ⟨fun z => dat_iff.mpr (shown_inj h.pll k.pll (V.str.inj z)), fun z => by rw [dat_iff.mp z]⟩
theorem DrN.bk {ns : List Str} {n : Nd} (h : DrN ns n) : bulkR n.rows ≤ 800000 := by

  obtain ⟨A, B, e, h1, h2, h3⟩ := h.few
  have hA : ∀ r ∈ A, r.good := fun r hr => (h.good.row r (by rw [e]; exact List.mem_append_left _ hr)).1
  have hB : ∀ r ∈ B, r.good := fun r hr => (h.good.row r (by rw [e]; exact List.mem_append_right _ hr)).1
  have hb : bulkR B ≤ 201 * B.length := by
    clear e h2
    induction B with
    | nil => simp [bulkR]
    | cons r rs ih =>
      have i1 := ih (fun z hz => h3 z (List.mem_cons_of_mem _ hz)) (fun z hz => hB z (List.mem_cons_of_mem _ hz))
      obtain ⟨s, v, x, rfl⟩ := h3 r List.mem_cons_self
      have h2 := (Rw.rpV (hB _ List.mem_cons_self)).2.2.2.2
      unfold bulkR at i1 ⊢
      rw [List.map_cons, List.sum_cons, List.length_cons, Nat.mul_succ]
      omega
  have ha := bulkR_le hA
  rw [e, bulkR_app]
  omega
theorem DrN.b {ns : List Str} {n : Nd} (h : DrN ns n) : NdB n := ⟨h.good, Nat.le_trans h.bk (by decide), by have := h.i6; omega, by have := h.o6; omega⟩
/-- one row more -/
def Nd.more (n : Nd) (r : Rw) : Nd := ⟨n.nm, n.ins, n.outs, n.rows ++ [r]⟩

/-! ### what a node tells -/
open TL (tl)
theorem telR_at : ∀ {rs : List Rw} {evs : List V} {i : Nat} {r : Rw} {v : V} {s : Str}, rs.length = evs.length → rs[i]? = some r → evs[i]? = some v → s ∈ r.tells → (rs.flatMap Rw.tells).Nodup → valV (telR rs evs) (.inr s) = some v
  | [], _, i, r, v, s, _, hr, _, _, _ => by simp at hr
  | r0 :: rs, [], i, r, v, s, hl, _, _, _, _ => by simp at hl
  | r0 :: rs, v0 :: evs, i, r, v, s, hl, hr, hv, hs, hn => by
    rw [List.flatMap_cons] at hn
    have hn2 := List.nodup_append.mp hn
    unfold telR
    rw [List.zip_cons_cons, List.flatMap_cons]
    have hskip : ∀ (l : List Str) (w : V) (rest : List (Key × V)), s ∉ l → valV ((l.map fun z => ((.inr z : Key), w)) ++ rest) (.inr s) = valV rest (.inr s) := by
      intro l w rest
      induction l with
      | nil => intro _; rfl
      | cons a l ih =>
        intro h
        rw [List.map_cons, List.cons_append, valV_neg (fun z => h (by rw [show a = s from Sum.inr.inj z]; exact List.mem_cons_self))]
        exact ih fun z => h (List.mem_cons_of_mem _ z)
    have hhit : ∀ (l : List Str) (w : V) (rest : List (Key × V)), s ∈ l → valV ((l.map fun z => ((.inr z : Key), w)) ++ rest) (.inr s) = some w := by
      intro l w rest
      induction l with
      | nil => intro h; cases h
      | cons a l ih =>
        intro h
        rw [List.map_cons, List.cons_append]
        by_cases e : a = s
        · rw [valV_pos (by rw [e])]
        · rw [valV_neg (fun z => e (Sum.inr.inj z))]
          exact ih ((List.mem_cons.mp h).resolve_left fun z => e z.symm)
    cases i with
    | zero =>
      cases hr
      cases hv
      exact hhit _ _ _ hs
    | succ i =>
      rw [List.getElem?_cons_succ] at hr hv
      have hin : s ∈ rs.flatMap Rw.tells := List.mem_flatMap.mpr ⟨r, List.mem_of_getElem? hr, hs⟩
      rw [hskip _ _ _ fun z => hn2.2.2 s z s hin rfl]
      exact telR_at (by simpa using hl) hr hv hs hn2.2.1
theorem telK_row {n : Nd} {evs : List V} {i : Nat} {r : Rw} {v : V} {s : Str} (hl : n.rows.length = evs.length) (hr : n.rows[i]? = some r) (hv : evs[i]? = some v) (hs : s ∈ r.tells) (hn : n.names.Nodup) : valV (telK n.ins n.rows evs) (.inr s) = some v := by
  have hn2 := List.nodup_append.mp hn
  have hin : s ∈ n.told := List.mem_flatMap.mpr ⟨r, List.mem_of_getElem? hr, hs⟩
  have hskip : ∀ (l : List Str) (w : V) (rest : List (Key × V)), s ∉ l → valV ((l.map fun z => ((.inr z : Key), w)) ++ rest) (.inr s) = valV rest (.inr s) := by
    intro l w rest
    induction l with
    | nil => intro _; rfl
    | cons a l ih =>
      intro h
      rw [List.map_cons, List.cons_append, valV_neg (fun z => h (by rw [show a = s from Sum.inr.inj z]; exact List.mem_cons_self))]
      exact ih fun z => h (List.mem_cons_of_mem _ z)
  unfold telK
  rw [hskip _ _ _ fun z => hn2.2.2 s z s hin rfl]
  exact telR_at hl hr hv hs hn2.2.1
theorem telK_in {n : Nd} {evs : List V} {s : Str} (hs : s ∈ n.ins) : valV (telK n.ins n.rows evs) (.inr s) = some .non := by
  unfold telK
  have : ∀ (l : List Str) (rest : List (Key × V)), s ∈ l → valV ((l.map fun z => ((.inr z : Key), V.non)) ++ rest) (.inr s) = some .non := by
    intro l rest
    induction l with
    | nil => intro h; cases h
    | cons a l ih =>
      intro h
      rw [List.map_cons, List.cons_append]
      by_cases e : a = s
      · rw [valV_pos (by rw [e])]
      · rw [valV_neg (fun z => e (Sum.inr.inj z))]
        exact ih ((List.mem_cons.mp h).resolve_left fun z => e z.symm)
  exact this _ _ hs
def spmN_inputs (Z : Adr) (C : Addr) : Sp := fun vs H Q _ => ∃ n v, vs = [v] ∧ NdAt Z H n v ∧ RetL (n.ins.map V.str) H Q
def spmN_outs (Z : Adr) (C : Addr) : Sp := fun vs H Q _ => ∃ n v, vs = [v] ∧ NdAt Z H n v ∧ RetL (n.outs.map V.str) H Q
def spmN_names (Z : Adr) (C : Addr) : Sp := fun vs H Q _ => ∃ n v, vs = [v] ∧ NdAt Z H n v ∧ RetL (n.names.map V.str) H Q
def spmN_rows (Z : Adr) (C : Addr) : Sp := fun vs H Q _ => ∃ n v, vs = [v] ∧ NdAt Z H n v ∧ ∀ l evs us H2, H l = none → Ex H H2 → H2 l = some (.lst evs) → Paired (fun r (q : V × V) => EqAt Z H2 r q.1 q.2) n.rows (evs.zip us) → evs.length = us.length → Q (.ref l) H2
def spmN_has_calls (Z : Adr) (C : Addr) : Sp := fun vs H Q _ => ∃ n v, vs = [v] ∧ NdAt Z H n v ∧ n.good ∧ RetV (.bl (n.rows.any fun r => decide (r.kind = 6))) H Q
/-- who tells a name -/
def spmN_teller (Z : Adr) (C : Addr) : Sp := fun vs H Q _ => ∃ (n : Nd) (v : V) (s : Str), vs = [v, .str s] ∧ NdAt Z H n v ∧ n.good ∧ ((s ∈ n.ins ∧ Q .non H) ∨ ∃ (i : Nat) (r : Rw), n.rows[i]? = some r ∧ s ∈ r.tells ∧ ∀ ev u, EqAt Z H r ev u → Q ev H)
theorem ok_Node_inputs (T : Txt K mg Z)  : FnOk P w K mg base CX0 (2) Z.f_Node_inputs Z.fd_Node_inputs ["self"] (spmN_inputs Z Z.c_Node) := by
  refine T.F_Node_inputs.ok sc_Node_inputs (fun vs H Q E h => ?_) (fun cdv AA outer s H vs Q E hr h => ?_)
  · obtain ⟨n, v, rfl, _⟩ := h
    rfl
  · obtain ⟨n, v, rfl, ⟨a, dx, li, lo, lr, td, evs, us, rfl, h1, h2, h3, h4, h5, h6, h7⟩, k⟩ := h
    obtain ⟨cN, nA⟩ := tcN T
    refine ⟨_, (pss_one (ps_ret (pe_callTy call_list_of (by rfl) T.n_list (by decide +kernel) (pa_cons (pe_fld (pv 0) (by rfl)) pa_nil)))), ?_⟩
    walk_at "ss"
    refine ⟨a, _, dx, _, _, rfl, h1, cN, nA _ (by simp), rfl, ?_⟩
    refine ⟨_, _, rfl, .inl (SqL.of h2), fun l hl => k l _ hl (Ex.new hl) upd_same⟩
theorem ok_Node_outs (T : Txt K mg Z)  : FnOk P w K mg base CX0 (2) Z.f_Node_outs Z.fd_Node_outs ["self"] (spmN_outs Z Z.c_Node) := by
  refine T.F_Node_outs.ok sc_Node_outs (fun vs H Q E h => ?_) (fun cdv AA outer s H vs Q E hr h => ?_)
  · obtain ⟨n, v, rfl, _⟩ := h
    rfl
  · obtain ⟨n, v, rfl, ⟨a, dx, li, lo, lr, td, evs, us, rfl, h1, h2, h3, h4, h5, h6, h7⟩, k⟩ := h
    obtain ⟨cN, nA⟩ := tcN T
    refine ⟨_, (pss_one (ps_ret (pe_callTy call_list_of (by rfl) T.n_list (by decide +kernel) (pa_cons (pe_fld (pv 0) (by rfl)) pa_nil)))), ?_⟩
    walk_at "ss"
    refine ⟨a, _, dx, _, _, rfl, h1, cN, nA _ (by simp), rfl, ?_⟩
    refine ⟨_, _, rfl, .inl (SqL.of h3), fun l hl => k l _ hl (Ex.new hl) upd_same⟩
theorem ok_Node_rows (T : Txt K mg Z)  : FnOk P w K mg base CX0 (2) Z.f_Node_rows Z.fd_Node_rows ["self"] (spmN_rows Z Z.c_Node) := by
  refine T.F_Node_rows.ok sc_Node_rows (fun vs H Q E h => ?_) (fun cdv AA outer s H vs Q E hr h => ?_)
  · obtain ⟨n, v, rfl, _⟩ := h
    rfl
  · obtain ⟨n, v, rfl, ⟨a, dx, li, lo, lr, td, evs, us, rfl, h1, h2, h3, h4, h5, h6, h7⟩, k⟩ := h
    obtain ⟨cN, nA⟩ := tcN T
    refine ⟨_, (pss_one (ps_ret (pe_callTy call_list_of (by rfl) T.n_list (by decide +kernel) (pa_cons (pe_fld (pv 0) (by rfl)) pa_nil)))), ?_⟩
    walk_at "ss"
    refine ⟨a, _, dx, _, _, rfl, h1, cN, nA _ (by simp), rfl, ?_⟩
    refine ⟨_, _, rfl, .inl (SqL.of h4), fun l hl => k l evs us _ hl (Ex.new hl) upd_same (paired_up (fun r q h => h.up (Ex.new hl)) h6) h7⟩
theorem ok_Node_names (T : Txt K mg Z)  : FnOk P w K mg base CX0 (2) Z.f_Node_names Z.fd_Node_names ["self"] (spmN_names Z Z.c_Node) := by
  refine T.F_Node_names.ok sc_Node_names (fun vs H Q E h => ?_) (fun cdv AA outer s H vs Q E hr h => ?_)
  · obtain ⟨n, v, rfl, _⟩ := h
    rfl
  · obtain ⟨n, v, rfl, ⟨a, dx, li, lo, lr, td, evs, us, rfl, h1, h2, h3, h4, h5, h6, h7⟩, k⟩ := h
    obtain ⟨cN, nA⟩ := tcN T
    have hlr : n.rows.length = evs.length := by have := paired_len h6; rw [List.length_zip, h7] at this; omega
    have hk : (telK n.ins n.rows evs).map (fun kv => kV kv.1) = n.names.map V.str := by
      have h := congrArg (List.map kV) (telK_keys (ins := n.ins) hlr)
      rw [List.map_map, List.map_map] at h
      exact h
    refine ⟨_, (pss_one (ps_ret (pe_callTy (call_listD rfl) (by rfl) T.n_list (by decide +kernel) (pa_cons (pe_fld (pv 0) (by rfl)) pa_nil)))), ?_⟩
    walk_at "ss"
    refine ⟨a, _, dx, _, _, rfl, h1, cN, nA _ (by simp), rfl, ?_⟩
    refine ⟨td, _, rfl, .inl h5, fun l hl => k l _ hl (Ex.new hl) (by rw [← hk]; exact upd_same)⟩
theorem ok_Node_has_calls (T : Txt K mg Z)  : FnOk P w K mg base CX0 (4) Z.f_Node_has_calls Z.fd_Node_has_calls ["self"] (spmN_has_calls Z Z.c_Node) := by
  refine T.F_Node_has_calls.ok sc_Node_has_calls (fun vs H Q E h => ?_) (fun cdv AA outer s H vs Q E hr h => ?_)
  · obtain ⟨n, v, rfl, _⟩ := h
    rfl
  · obtain ⟨n, v, rfl, ⟨a, dx, li, lo, lr, td, evs, us, rfl, h1, h2, h3, h4, h5, h6, h7⟩, hg, k⟩ := h
    have GME_is_call := gmE_is_call (P := P) (w := w) (base := base) T
    obtain ⟨cN, nA⟩ := tcN T
    have hlr : n.rows.length = evs.length := by have := paired_len h6; rw [List.length_zip, h7] at this; omega
    refine ⟨_, (pss_one (ps_ret (pe_callB (cr_any rfl) (by rfl) T.n_any (by decide +kernel) (pa_cons (pe_lc (own := [("row", 1)]) (g := (gName 1)) (tt := tYes) (te := (tMP (MCE Z) "is_call" (spmE_is_call Z) E0 (tVar 1) tNil)) rfl sc_Node_has_calls.nd (pi_list (pe_fld (pv 0) (by rfl))) (blkOk_by (own := [("row", 1)]) (N := N_Node_has_calls) (sc := defScope s_Node_has_calls) (by decide +kernel)) (fun _ _ _ _ _ => (pg_name (i := 1) sc_Node_has_calls.nd rfl (Or.inl rfl))) (fun _ _ _ _ _ => pts_nil) (fun _ _ _ _ _ => (pe_methP0 (pv 1) GME_is_call (hr.mono (by omega)) pass0))) pa_nil)))), ?_⟩
    walk_at "ss"
    refine ⟨a, _, dx, _, _, rfl, h1, cN, nA _ (by simp), rfl, ?_⟩
    walk_at "ss"
    have hr300 := hg.row1
    refine ⟨⟨_, SqL.of h4⟩, ?_⟩
    refine lcLP (fun D i y G => ∃ r, n.rows[i]? = some r ∧ y = .bl (decide (r.kind = 6))) (fun _ _ _ _ _ _ h => h) (SqL.of h4) (by omega) (fun D i v hD hv H2 e2 _ R N hR => ?_) (fun ys p H2 hyl hy hp e2 g2 => ?_)
    · have hil := (List.getElem?_eq_some_iff.mp hv).1
      have hz : (evs.zip us)[i]? = some (v, us[i]'(by omega)) := by
        rw [List.getElem?_zip_eq_some]
        exact ⟨hv, List.getElem?_eq_getElem (by omega)⟩
      obtain ⟨r, hr2, hE1⟩ := paired_ix h6 hz
      have hE : EqAt Z H2 r v _ := hE1.up e2
      obtain ⟨a2, dx2, fs2, rfl, ha2, hM2, o1, o2, o3, o4, o5⟩ := hE.cls
      have hgr := (hg.row r (List.mem_of_getElem? hr2)).1
      walk_at "ss"
      refine ⟨a2, _, dx2, fs2, rfl, ha2, hM2, (by first | exact o5 | exact o4 | exact o3), ?_⟩
      walk_at "ss"
      refine ⟨r, _, _, rfl, hE, hgr, rfl, ?_⟩
      exact hR _ _ (Ex.refl _) ⟨r, hr2, rfl⟩
    have hys : ys = (n.rows.map fun r => decide (r.kind = 6)).map V.bl := by
      apply List.ext_getElem?
      intro i
      cases hi : ys[i]? with
      | some y =>
        obtain ⟨r, hr2, rfl⟩ := hy i y hi
        rw [List.getElem?_map, List.getElem?_map, hr2]
        rfl
      | none =>
        rw [List.getElem?_eq_none_iff] at hi
        rw [List.getElem?_eq_none (by rw [List.length_map, List.length_map]; omega)]
    subst hys
    walk_at "ss"
    refine ⟨p, _, rfl, SqL.of g2, ?_⟩
    rw [List.any_map]
    exact k _ e2
theorem ok_Node_teller (T : Txt K mg Z)  : FnOk P w K mg base CX0 (2) Z.f_Node_teller Z.fd_Node_teller ["self", "name"] (spmN_teller Z Z.c_Node) := by
  refine T.F_Node_teller.ok sc_Node_teller (fun vs H Q E h => ?_) (fun cdv AA outer s H vs Q E hr h => ?_)
  · obtain ⟨n, v, s, rfl, _⟩ := h
    rfl
  · obtain ⟨n, v, s, rfl, ⟨a, dx, li, lo, lr, td, evs, us, rfl, h1, h2, h3, h4, h5, h6, h7⟩, hg, k⟩ := h
    obtain ⟨cN, nA⟩ := tcN T
    have hlr : n.rows.length = evs.length := by have := paired_len h6; rw [List.length_zip, h7] at this; omega
    refine ⟨_, (pss_cons (ps_if (PW.pt (pw_or (pt_not (pt_val (pe_callB call_isi (by rfl) T.n_isinstance (by decide +kernel) (pa_cons (pv 1) (pa_cons (pe_bltn (v := .ty "str") (by rfl) T.n_str (by decide +kernel) rfl) pa_nil))))) (pw_or1 (pt_cmpR (op_notInDk (hu_of hr)) (pv 1) (pe_fld (pv 0) (by rfl)) (by rfl))))) (pss_one ps_never) pss_nil)
      (pss_one (ps_ret (pe_dget (hu_of hr) (pe_fld (pv 0) (by rfl)) (pv 1) (fun _ _ => rfl))))), ?_⟩
    walk_at "ss"
    refine isi (ty_str s) kb_ss ?_
    walk_at "ss"
    refine ⟨a, _, dx, _, _, rfl, h1, cN, nA _ (by simp), rfl, ?_⟩
    walk_at "ss"
    refine ⟨td, _, rfl, dgetK h5, ?_⟩
    rcases k with ⟨hs, k⟩ | ⟨i, r, hr2, hs, k⟩
    · rw [telK_in hs]
      walk_at "ss"
      refine if_ff rfl ?_
      walk_at "ss"
      refine ⟨a, _, dx, _, _, rfl, h1, cN, nA _ (by simp), rfl, ?_⟩
      walk_at "ss"
      refine ⟨td, _, rfl, by rw [← telK_in hs]; exact dgetK h5, ?_⟩
      exact k
    · have hil := (List.getElem?_eq_some_iff.mp hr2).1
      have hv : evs[i]? = some (evs[i]'(by omega)) := List.getElem?_eq_getElem (by omega)
      have ht := telK_row hlr hr2 hv hs hg.all
      have hz : (evs.zip us)[i]? = some (evs[i]'(by omega), us[i]'(by omega)) := by
        rw [List.getElem?_zip_eq_some]
        exact ⟨hv, List.getElem?_eq_getElem (by omega)⟩
      obtain ⟨r', hr3, hE⟩ := paired_ix h6 hz
      rw [hr2] at hr3
      cases hr3
      rw [ht]
      walk_at "ss"
      refine if_ff rfl ?_
      walk_at "ss"
      refine ⟨a, _, dx, _, _, rfl, h1, cN, nA _ (by simp), rfl, ?_⟩
      walk_at "ss"
      refine ⟨td, _, rfl, by rw [← ht]; exact dgetK h5, ?_⟩
      exact k _ _ hE
theorem gmN_inputs (T : Txt K mg Z) : ∀ C, MCN Z C → MOk P w K mg base CX0 2 C "inputs" (spmN_inputs Z C) := by
  rintro C rfl
  exact ⟨(tcB_ok T.x_Node).cl, _, _, _, ⟨T.h_inputs_Node, T.y_Node_inputs, T.F_Node_inputs.kp⟩, ok_Node_inputs (P := P) (w := w) (base := base) T, T.b_Node_inputs⟩
theorem gmN_outs (T : Txt K mg Z) : ∀ C, MCN Z C → MOk P w K mg base CX0 2 C "outs" (spmN_outs Z C) := by
  rintro C rfl
  exact ⟨(tcB_ok T.x_Node).cl, _, _, _, ⟨T.h_outs_Node, T.y_Node_outs, T.F_Node_outs.kp⟩, ok_Node_outs (P := P) (w := w) (base := base) T, T.b_Node_outs⟩
theorem gmN_names (T : Txt K mg Z) : ∀ C, MCN Z C → MOk P w K mg base CX0 2 C "names" (spmN_names Z C) := by
  rintro C rfl
  exact ⟨(tcB_ok T.x_Node).cl, _, _, _, ⟨T.h_names_Node, T.y_Node_names, T.F_Node_names.kp⟩, ok_Node_names (P := P) (w := w) (base := base) T, T.b_Node_names⟩
theorem gmN_rows (T : Txt K mg Z) : ∀ C, MCN Z C → MOk P w K mg base CX0 2 C "rows" (spmN_rows Z C) := by
  rintro C rfl
  exact ⟨(tcB_ok T.x_Node).cl, _, _, _, ⟨T.h_rows_Node, T.y_Node_rows, T.F_Node_rows.kp⟩, ok_Node_rows (P := P) (w := w) (base := base) T, T.b_Node_rows⟩
theorem gmN_has_calls (T : Txt K mg Z) : ∀ C, MCN Z C → MOk P w K mg base CX0 4 C "has_calls" (spmN_has_calls Z C) := by
  rintro C rfl
  exact ⟨(tcB_ok T.x_Node).cl, _, _, _, ⟨T.h_has_calls_Node, T.y_Node_has_calls, T.F_Node_has_calls.kp⟩, ok_Node_has_calls (P := P) (w := w) (base := base) T, T.b_Node_has_calls⟩
theorem gmN_teller (T : Txt K mg Z) : ∀ C, MCN Z C → MOk P w K mg base CX0 2 C "teller" (spmN_teller Z C) := by
  rintro C rfl
  exact ⟨(tcB_ok T.x_Node).cl, _, _, _, ⟨T.h_teller_Node, T.y_Node_teller, T.F_Node_teller.kp⟩, ok_Node_teller (P := P) (w := w) (base := base) T, T.b_Node_teller⟩
/-! what is no name of it -/
def spmXN_teller (Z : Adr) (C : Addr) : Sp := fun vs H Q E => ∃ (n : Nd) (v w : V), vs = [v, w] ∧ NdAt Z H n v ∧ n.good ∧ ((∃ s, w = .str s ∧ s ∉ n.names) ∨ ∃ nm, TyX K H w (.type nm) ∧ kitB nm "str" = some false) ∧
  ∀ x H2, H x = none → Ex H H2 → H2 x = some (.xd [("name", w)]) → E (.ref Z.c_Unknown) (some x) H2
theorem okX_Node_teller (T : Txt K mg Z) : FnOk P w K mg base (L2N.CX P w) 3 Z.f_Node_teller Z.fd_Node_teller ["self", "name"] (spmXN_teller (K := K) Z Z.c_Node) := by
  have G_Unknown_init := ok_Unknown_init (P := P) (w := w) (base := base) T
  refine T.F_Node_teller.okN sc_Node_teller (fun vs H Q E h => ?_) (fun cdv AA outer s H vs Q E hr h => ?_)
  · obtain ⟨n, v, w0, rfl, _⟩ := h
    rfl
  · obtain ⟨n, v, w0, rfl, ⟨a, dx, li, lo, lr, td, evs, us, rfl, h1, h2, h3, h4, h5, h6, h7⟩, hg, hbad, k⟩ := h
    obtain ⟨cN, nA⟩ := tcN T
    have hlr : n.rows.length = evs.length := by have := paired_len h6; rw [List.length_zip, h7] at this; omega
    refine ⟨_, (pss_cons (ps_if (PW.pt (pw_or (pt_not (pt_val (pe_callB call_isi (by rfl) T.n_isinstance (by decide +kernel) (pa_cons (pv 1) (pa_cons (pe_bltn (v := .ty "str") (by rfl) T.n_str (by decide +kernel) rfl) pa_nil))))) (pw_or1 (pt_cmpR (op_notInDk (hu_of hr)) (pv 1) (pe_fld (pv 0) (by rfl)) (by rfl))))) (pss_one (L2N.ps_raise rfl (L2N.takes_of rfl rfl rfl rfl) (pmkN_oex (exB_ok T.x_Unknown).ox T.i_Unknown T.y_Unknown G_Unknown_init (hr.mono (by omega)) T.b_Unknown_init .nil pass0 rfl T.m_Unknown (pa_cons (pv 1) pa_nil)))) pss_nil)
      (pss_one (ps_ret (pe_dget (hu_of hr) (pe_fld (pv 0) (by rfl)) (pv 1) (fun _ _ => rfl))))), ?_⟩
    rcases hbad with ⟨s, rfl, hs⟩ | ⟨nm, ty, kb⟩
    · walk_at "ss"
      refine isi (ty_str s) kb_ss ?_
      walk_at "ss"
      refine ⟨a, _, dx, _, _, rfl, h1, cN, nA _ (by simp), rfl, ?_⟩
      walk_at "ss"
      refine ⟨td, _, rfl, dgetK h5, ?_⟩
      rw [valV_nokey (telK_keys (ins := n.ins) hlr) hs]
      walk_at "ss"
      refine if_tt (by rfl) ?_
      walk_at "ss"
      exact raise1 fun x H3 hx e3 g3 => k x H3 hx e3 g3
    · walk_at "ss"
      refine isi ty kb ?_
      walk_at "ss"
      exact raise1 fun x H3 hx e3 g3 => k x H3 hx e3 g3
theorem gxN_teller (T : Txt K mg Z) : ∀ C, MCN Z C → MOk P w K mg base (L2N.CX P w) 3 C "teller" (spmXN_teller (K := K) Z C) := by
  rintro C rfl
  exact ⟨(tcB_ok T.x_Node).cl, _, _, _, ⟨T.h_teller_Node, T.y_Node_teller, T.F_Node_teller.kp⟩, okX_Node_teller (P := P) (w := w) (base := base) T, T.b_Node_teller⟩
/-! the same node -/
def sp_same_node (Z : Adr) : Sp := fun vs H Q _ => ∃ (n m : Nd) (v u : V), vs = [v, u] ∧ NdAt Z H n v ∧ NdAt Z H m u ∧ NdB n ∧ NdB m ∧ ∀ b : Bool, (b = true ↔ n.dat = m.dat) → ∀ H2, Ex H H2 → Q (.bl b) H2
theorem ok_same_node (T : Txt K mg Z)  : FnG P w K mg base CX0 (8) Z.f_same_node Z.fd_same_node ["one", "other"] (sp_same_node Z) := by
  refine T.F_same_node.okG sc_same_node (fun vs H Q E h => ?_) (fun cdv AA outer s H vs Q E hgd hr h => ?_)
  · obtain ⟨n, m, v, u, rfl, _⟩ := h
    rfl
  · obtain ⟨n, m, v, u, rfl, hn, hm, bn, bm, k⟩ := h
    have GMN_told := gmN_told (P := P) (w := w) (base := base) T
    obtain ⟨a, dx, fs, rfl, ha, la⟩ : ∃ a dx fs, v = .ref a ∧ H a = some (.ins Z.c_Node dx fs) ∧ fs.lookup ("told" : Str) = none := by
      obtain ⟨a, dx, li, lo, lr, td, evs, us, rfl, h1, _⟩ := hn
      exact ⟨a, dx, _, rfl, h1, rfl⟩
    obtain ⟨a2, dx2, fs2, rfl, ha2, la2⟩ : ∃ a dx fs, u = .ref a ∧ H a = some (.ins Z.c_Node dx fs) ∧ fs.lookup ("told" : Str) = none := by
      obtain ⟨a, dx, li, lo, lr, td, evs, us, rfl, h1, _⟩ := hm
      exact ⟨a, dx, _, rfl, h1, rfl⟩
    refine ⟨_, (pss_one (ps_ret (pe_cmpR op_eq (pe_callB (call_reprD hgd hr) (by rfl) T.n_repr (by decide +kernel) (pa_cons (pe_methP0 (pv 0) GMN_told (hr.mono (by omega)) pass0) pa_nil)) (pe_callB (call_reprD hgd hr) (by rfl) T.n_repr (by decide +kernel) (pa_cons (pe_methP0 (pv 1) GMN_told (hr.mono (by omega)) pass0) pa_nil)) (nomark _)))), ?_⟩
    walk_at "ss"
    refine ⟨a, _, dx, fs, rfl, ha, rfl, la, ?_⟩
    walk_at "ss"
    refine ⟨n, _, rfl, hn, bn.g, fun t1 H1 e1 ht1 => ?_⟩
    walk_at "ss"
    obtain ⟨q1, _, _, _, _, rfl, _⟩ := id ht1
    refine c_repr (ht1.dp bn) bn.rp ?_ (by decide) (by decide)
    walk_at "ss"
    refine ⟨a2, _, dx2, fs2, rfl, e1 _ _ ha2, rfl, la2, ?_⟩
    walk_at "ss"
    refine ⟨m, _, rfl, hm.up e1, bm.g, fun t2 H2 e2 ht2 => ?_⟩
    walk_at "ss"
    obtain ⟨q2, _, _, _, _, rfl, _⟩ := id ht2
    refine c_repr (ht2.dp bm) bm.rp ?_ (by decide) (by decide)
    walk_at "ss"
    exact k _ (shown_dat bn bm) _ (e1.trans e2)

/-! ### is the node told rightly -/
open TL (tl)
def sp_due_l : Sp := fun vs H Q _ => ∃ (n : Nd) (p : Addr), vs = [.ref p] ∧ NdL H n p ∧ ∀ u H2, Ex H H2 → NdT H2 n u → Q u H2
theorem ok_due_l (T : Txt K mg Z) : FnOk P w K mg base CX0 1 Z.f_due_l Z.fd_due_l ["_law_node_here"] sp_due_l := by
  refine T.F_due_l.ok sc_due_l (fun vs H Q E h => ?_) (fun cdv AA outer s H vs Q E hr h => ?_)
  · obtain ⟨n, p, rfl, _⟩ := h
    rfl
  · obtain ⟨n, p, rfl, ⟨li, lo, lr, us, h1, h2, h3, h4, h5⟩, k⟩ := h
    refine ⟨_, (pss_one (ps_ret (pe_tup (pa_cons (pe_ix ix_list (pv 0) pe_int (fun _ _ => rfl)) (pa_cons (pe_callTy call_tuple_of (by rfl) T.n_tuple (by decide +kernel) (pa_cons (pe_ix ix_list (pv 0) pe_int (fun _ _ => rfl)) pa_nil)) (pa_cons (pe_callTy call_tuple_of (by rfl) T.n_tuple (by decide +kernel) (pa_cons (pe_ix ix_list (pv 0) pe_int (fun _ _ => rfl)) pa_nil)) (pa_cons (pe_callTy call_tuple_of (by rfl) T.n_tuple (by decide +kernel) (pa_cons (pe_ix ix_list (pv 0) pe_int (fun _ _ => rfl)) pa_nil)) pa_nil))))))), ?_⟩
    walk_at "ss"
    refine c_ixL (SqL.of h1) rfl ?_
    walk_at "ss"
    refine c_ixL (SqL.of h1) rfl ?_
    walk_at "ss"
    refine ⟨_, _, rfl, .inl ⟨SqL.of h2, fun t1 ht1 => ?_⟩⟩
    have e1 : Ex H (upd H t1 (.tup (n.ins.map V.str))) := Ex.new ht1
    have g1 : upd H t1 (.tup (n.ins.map V.str)) t1 = some (.tup (n.ins.map V.str)) := upd_same
    generalize upd H t1 (.tup (n.ins.map V.str)) = H1 at e1 g1
    walk_at "ss"
    refine c_ixL (SqL.of (e1 _ _ h1)) rfl ?_
    walk_at "ss"
    refine ⟨_, _, rfl, .inl ⟨SqL.of (e1 _ _ h3), fun t2 ht2 => ?_⟩⟩
    have e2 : Ex H1 (upd H1 t2 (.tup (n.outs.map V.str))) := Ex.new ht2
    have g2 : upd H1 t2 (.tup (n.outs.map V.str)) t2 = some (.tup (n.outs.map V.str)) := upd_same
    generalize upd H1 t2 (.tup (n.outs.map V.str)) = H2 at e2 g2
    walk_at "ss"
    refine c_ixL (SqL.of (e2 _ _ (e1 _ _ h1))) rfl ?_
    walk_at "ss"
    refine ⟨_, _, rfl, .inl ⟨SqL.of (e2 _ _ (e1 _ _ h4)), fun t3 ht3 => ?_⟩⟩
    have e3 : Ex H2 (upd H2 t3 (.tup us)) := Ex.new ht3
    have g3 : upd H2 t3 (.tup us) t3 = some (.tup us) := upd_same
    generalize upd H2 t3 (.tup us) = H3 at e3 g3
    walk_at "ss"
    refine newT fun t4 H4 ht4 e4 g4 => ?_
    have E := e1.trans (e2.trans (e3.trans e4))
    exact k _ H4 E ⟨t4, t1, t2, t3, us, rfl, g4, (e2.trans (e3.trans e4)) _ _ g1, (e3.trans e4) _ _ g2, e4 _ _ g3, paired_up (fun r u h => h.up E) h5⟩
def sp_told_l (Z : Adr) : Sp := fun vs H Q _ => ∃ (r : Rw) (ev u : V), vs = [ev] ∧ EqAt Z H r ev u ∧ r.good ∧ Q u H
theorem ok_told_l (T : Txt K mg Z)  : FnOk P w K mg base CX0 (4) Z.f_told_l Z.fd_told_l ["_law_equation"] (sp_told_l Z) := by
  refine T.F_told_l.ok sc_told_l (fun vs H Q E h => ?_) (fun cdv AA outer s H vs Q E hr h => ?_)
  · obtain ⟨r, ev, u, rfl, _⟩ := h
    rfl
  · obtain ⟨r, ev, u, rfl, hE, hg, k⟩ := h
    have GME_told := gmE_told (P := P) (w := w) (base := base) T
    obtain ⟨a2, dx2, fs2, rfl, ha2, hM2, o1, o2, o3, o4, o5⟩ := hE.cls
    refine ⟨_, (pss_cons (ps_if (pt_cmpR op_isN (pv 0) pe_non (nomark _)) (pss_one (ps_ret pe_non)) pss_nil)
      (pss_one (ps_ret (pe_methP0 (pv 0) GME_told (hr.mono (by omega)) pass0)))), ?_⟩
    walk_at "ss"
    refine if_ff (by rfl) ?_
    walk_at "ss"
    refine ⟨a2, _, dx2, fs2, rfl, ha2, hM2, o1, ?_⟩
    walk_at "ss"
    exact ⟨r, _, _, rfl, hE, hg, rfl, re_told k⟩
/-- calls told -/
theorem dpAll_app {H : Hp} : ∀ {vs ws : List V} {ds es : List PyData}, DpAll K H vs ds → DpAll K H ws es → DpAll K H (vs ++ ws) (ds ++ es)
  | _, _, _, _, .nil, h => h
  | _, _, _, _, .cons a t, h => .cons a (dpAll_app t h)
theorem lay_app : ∀ {ds es : List PyData}, PyData.canLayAll0 ds = true → PyData.canLayAll0 es = true → PyData.canLayAll0 (ds ++ es) = true
  | [], _, _, h => h
  | d :: ds, es, h, k => by
    rw [PyData.canLayAll0, Bool.and_eq_true] at h
    rw [List.cons_append, PyData.canLayAll0, h.1, lay_app h.2 k]
    rfl
theorem depth_app {D : Nat} : ∀ {ds es : List PyData}, PyData.depthAll ds ≤ D → PyData.depthAll es ≤ D → PyData.depthAll (ds ++ es) ≤ D
  | [], _, _, h => h
  | d :: ds, es, h, k => by
    rw [PyData.depthAll] at h
    have := depth_app (ds := ds) (D := D) (by omega) k
    rw [List.cons_append, PyData.depthAll]
    omega
theorem kb_bb : kitB "bool" "bool" = some true := by decide +kernel
theorem eqv_lst_nil (ds : List PyData) : PyData.eqv (.list ds) (.list []) = ds.isEmpty := by
  cases ds with
  | nil => rw [PyData.eqv, PyData.eqvAll]; rfl
  | cons d ds => rw [PyData.eqv, PyData.eqvAll]; rfl
theorem row_hd {H : Hp} {r : Rw} {u : V} (h : RowAt H r u) : ∃ a xs, u = .ref a ∧ H a = some (.tup (.str r.word :: xs)) := by
  obtain ⟨p, xs, rfl, hp⟩ := h.hd
  exact ⟨p, xs, rfl, hp⟩
def sp_right_l (Z : Adr) : Sp := fun vs H Q _ => ∃ (n : Nd) (v : V) (p : Addr), vs = [v, .ref p] ∧ NdAt Z H n v ∧ NdL H n p ∧ NdB n ∧ ∀ H2, Ex H H2 → Q (.bl true) H2
theorem ok_right_l (T : Txt K mg Z)  : FnG P w K mg base CX0 (12) Z.f_right_l Z.fd_right_l ["_law_found", "_law_node_here"] (sp_right_l Z) := by
  have G_tells_l := ok_tells_l (P := P) (w := w) (base := base) T
  have G_told_names_l := ok_told_names_l (P := P) (w := w) (base := base) T
  have G_due_l := ok_due_l (P := P) (w := w) (base := base) T
  have G_told_l := ok_told_l (P := P) (w := w) (base := base) T
  refine T.F_right_l.okG sc_right_l (fun vs H Q E h => ?_) (fun cdv AA outer s H vs Q E hgd hr h => ?_)
  · obtain ⟨n, v, p, rfl, _⟩ := h
    rfl
  · obtain ⟨n, v, p, rfl, hN, hL, hb, k⟩ := h
    have GMN_told := gmN_told (P := P) (w := w) (base := base) T
    have GMN_inputs := gmN_inputs (P := P) (w := w) (base := base) T
    have GMN_outs := gmN_outs (P := P) (w := w) (base := base) T
    have GMN_names := gmN_names (P := P) (w := w) (base := base) T
    have GMN_rows := gmN_rows (P := P) (w := w) (base := base) T
    have GMN_teller := gmN_teller (P := P) (w := w) (base := base) T
    have GMN_has_calls := gmN_has_calls (P := P) (w := w) (base := base) T
    have GME_told := gmE_told (P := P) (w := w) (base := base) T
    obtain ⟨cN, nA⟩ := tcN T
    have hg := hb.g
    obtain ⟨a, dx, li, lo, lr, td, evs, us, rfl, h1, h2, h3, h4, h5, h6, h7⟩ := id hN
    obtain ⟨pi, po, pr, ws, l1, l2, l3, l4, l5⟩ := id hL
    refine ⟨_, (pss_cons (ps_if (PW.pt (pw_or (pt_cmpR op_ne (pe_fld (pv 0) (by rfl)) (pe_ix ix_list (pv 1) pe_int (fun _ _ => rfl)) (nomark _)) (pw_or (pt_cmpR (op_neD hr.units) (pe_methP0 (pv 0) GMN_inputs (hr.mono (by omega)) pass0) (pe_ix ix_list (pv 1) pe_int (fun _ _ => rfl)) (nomark _)) (pw_or1 (pt_cmpR (op_neD hr.units) (pe_methP0 (pv 0) GMN_outs (hr.mono (by omega)) pass0) (pe_ix ix_list (pv 1) pe_int (fun _ _ => rfl)) (nomark _)))))) (pss_one (ps_ret pe_bl)) pss_nil)
      (pss_cons (ps_if (pt_cmpR op_ne (pe_callB (call_reprD hgd hr) (by rfl) T.n_repr (by decide +kernel) (pa_cons (pe_lc (own := [("_law_row_here", 2)]) (g := (gName 2)) (tt := tYes) (te := (tMP (MCE Z) "told" (spmE_told Z) E0 (tVar 2) tNil)) rfl sc_right_l.nd (pi_list (pe_methP0 (pv 0) GMN_rows (hr.mono (by omega)) pass0)) (blkOk_by (own := [("_law_row_here", 2)]) (N := N_right_l) (sc := defScope s_right_l) (by decide +kernel)) (fun _ _ _ _ _ => (pg_name (i := 2) sc_right_l.nd rfl (Or.inl rfl))) (fun _ _ _ _ _ => pts_nil) (fun _ _ _ _ _ => (pe_methP0 (pv 2) GME_told (hr.mono (by omega)) pass0))) pa_nil)) (pe_callB (call_reprD hgd hr) (by rfl) T.n_repr (by decide +kernel) (pa_cons (pe_ix ix_list (pv 1) pe_int (fun _ _ => rfl)) pa_nil)) (nomark _)) (pss_one (ps_ret pe_bl)) pss_nil)
      (pss_cons (ps_if (pt_cmpR (op_neD hr.units) (pe_methP0 (pv 0) GMN_names (hr.mono (by omega)) pass0) (pe_op op_cat (pe_ix ix_list (pv 1) pe_int (fun _ _ => rfl)) (pe_call G_told_names_l (hr.mono (by omega)) rfl T.g_told_names_l T.F_told_names_l.kp T.b_told_names_l .nil pass0 (pa_cons (pe_ix ix_list (pv 1) pe_int (fun _ _ => rfl)) pa_nil))) (nomark _)) (pss_one (ps_ret pe_bl)) pss_nil)
      (Evl.pss_cut (ps_for PassesOwn.never rfl (pi_list (pe_ix ix_list (pv 1) pe_int (fun _ _ => rfl))) (pg_name (i := 3) sc_right_l.nd rfl (Or.inl rfl)) (pss_one (ps_if (pt_cmpR op_notN (pe_methP (pv 0) GMN_teller (hr.mono (by omega)) pass0 (pa_cons (pv 3) pa_nil)) pe_non (nomark _)) (pss_one (ps_ret pe_bl)) pss_nil)))
      (Evl.pss_cut (ps_for PassesOwn.never rfl (pi_list (pe_ix ix_list (pv 1) pe_int (fun _ _ => rfl))) (pg_name (i := 2) sc_right_l.nd rfl (Or.inl rfl)) (pss_one (ps_for PassesOwn.never rfl (pi_list (pe_call G_tells_l (hr.mono (by omega)) rfl T.g_tells_l T.F_tells_l.kp T.b_tells_l .nil pass0 (pa_cons (pv 2) pa_nil))) (pg_name (i := 3) sc_right_l.nd rfl (Or.inl rfl)) (pss_one (ps_if (pt_cmpR op_ne (pe_callB (call_reprD hgd hr) (by rfl) T.n_repr (by decide +kernel) (pa_cons (pe_call G_told_l (hr.mono (by omega)) rfl T.g_told_l T.F_told_l.kp T.b_told_l .nil pass0 (pa_cons (pe_methP (pv 0) GMN_teller (hr.mono (by omega)) pass0 (pa_cons (pv 3) pa_nil)) pa_nil)) pa_nil)) (pe_callB (call_reprD hgd hr) (by rfl) T.n_repr (by decide +kernel) (pa_cons (pv 2) pa_nil)) (nomark _)) (pss_one (ps_ret pe_bl)) pss_nil)))))
      (pss_cons (ps_setLc (i := 4) (own := [("_law_row_here", 2)]) (g := (gName 2)) (tt := (tTest (tOp rEq (tOp (rIxT K) (tVar 2) (tC (.int 0))) (tC (.str "call"))))) (te := (tVar 2)) rfl sc_right_l.nd rfl rfl (sw_true rfl rfl rfl (by decide +kernel)) (pi_list (pe_ix ix_list (pv 1) pe_int (fun _ _ => rfl))) (blkOk_by (own := [("_law_row_here", 2)]) (N := N_right_l) (sc := defScope s_right_l) (by decide +kernel)) (fun _ _ _ _ _ => (pg_name (i := 2) sc_right_l.nd rfl (Or.inl rfl))) (fun _ _ _ _ _ => (pts_one (pt_cmpR op_eq (pe_ix ix_tup (pv 2) pe_int (fun _ _ => rfl)) pe_str (nomark _)))) (fun _ _ _ _ _ => (pv 2)))
      (pss_cons (ps_if (PW.pt (pw_or (pt_not (pt_val (pe_callB call_isi (by rfl) T.n_isinstance (by decide +kernel) (pa_cons (pe_methP0 (pv 0) GMN_has_calls (hr.mono (by omega)) pass0) (pa_cons (pe_bltn (v := .ty "bool") (by rfl) T.n_bool (by decide +kernel) rfl) pa_nil))))) (pw_or1 (pt_cmpR op_ne (pe_methP0 (pv 0) GMN_has_calls (hr.mono (by omega)) pass0) (pe_cmpR (op_neD hr.units) (pv 4) (pe_lst pa_nil) (nomark _)) (nomark _))))) (pss_one (ps_ret pe_bl)) pss_nil)
      (pss_one (ps_ret (pe_cmpR op_eq (pe_callB (call_reprD hgd hr) (by rfl) T.n_repr (by decide +kernel) (pa_cons (pe_methP0 (pv 0) GMN_told (hr.mono (by omega)) pass0) pa_nil)) (pe_callB (call_reprD hgd hr) (by rfl) T.n_repr (by decide +kernel) (pa_cons (pe_call G_due_l (hr.mono (by omega)) rfl T.g_due_l T.F_due_l.kp T.b_due_l .nil pass0 (pa_cons (pv 1) pa_nil)) pa_nil)) (nomark _))))))))))), ?_⟩
    walk_at "ss"
    refine ⟨a, _, dx, _, _, rfl, h1, cN, nA _ (by simp), rfl, ?_⟩
    walk_at "ss"
    refine c_ixL (SqL.of l1) rfl ?_
    walk_at "ss"
    rw [decide_eq_true rfl]
    walk_at "ss"
    refine ⟨a, _, dx, _, rfl, h1, rfl, rfl, ?_⟩
    walk_at "ss"
    refine ⟨n, _, rfl, hN, fun q1 H1 hq1 e1 g1 => ?_⟩
    walk_at "ss"
    refine c_ixL (SqL.of (e1 _ _ l1)) rfl ?_
    walk_at "ss"
    have oki := str_ok hg.inG
    have oko := str_ok hb.outs
    refine c_neLs (SqL.of g1) (SqL.of (e1 _ _ l2)) oki oki ?_
    rw [eqL_strs]
    walk_at "ss"
    refine ⟨a, _, dx, _, rfl, e1 _ _ h1, rfl, rfl, ?_⟩
    walk_at "ss"
    refine ⟨n, _, rfl, hN.up e1, fun q2 H2 hq2 e2 g2 => ?_⟩
    walk_at "ss"
    have E2 := e1.trans e2
    refine c_ixL (SqL.of (E2 _ _ l1)) rfl ?_
    walk_at "ss"
    refine c_neLs (SqL.of g2) (SqL.of (E2 _ _ l3)) oko oko ?_
    rw [eqL_strs]
    walk_at "ss"
    refine ⟨a, _, dx, _, rfl, E2 _ _ h1, rfl, rfl, ?_⟩
    walk_at "ss"
    refine ⟨n, _, rfl, hN.up E2, fun q3 es us3 H3 hq3 e3 g3 hp3 hl3 => ?_⟩
    have E3 := E2.trans e3
    have hlr : n.rows.length = es.length := by have := paired_len hp3; rw [List.length_zip, hl3] at this; omega
    have hr300 := hg.row1
    walk_at "ss"
    refine ⟨⟨_, SqL.of g3⟩, ?_⟩
    refine lcLP (fun D i y G => us3[i]? = some y) (fun _ _ _ _ _ _ h => h) (SqL.of g3) (by omega) (fun D i v hD hv G4 f4 _ R N hR => ?_) (fun ys q5 H5 hyl hy hq5 e5 g5 => ?_)
    · have hil := (List.getElem?_eq_some_iff.mp hv).1
      have hu : us3[i]? = some (us3[i]'(by omega)) := List.getElem?_eq_getElem (by omega)
      have hz : (es.zip us3)[i]? = some (v, us3[i]'(by omega)) := by
        rw [List.getElem?_zip_eq_some]
        exact ⟨hv, hu⟩
      obtain ⟨r, hr2, hE1⟩ := paired_ix hp3 hz
      have hE : EqAt Z G4 r v _ := hE1.up f4
      have hgr := (hg.row r (List.mem_of_getElem? hr2)).1
      obtain ⟨a2, dx2, fs2, rfl, ha2, hM2, o1, o2, o3, o4, o5⟩ := hE.cls
      walk_at "ss"
      refine ⟨a2, _, dx2, fs2, rfl, ha2, hM2, o1, ?_⟩
      walk_at "ss"
      refine ⟨r, _, _, rfl, hE, hgr, rfl, re_told ?_⟩
      exact hR _ _ (Ex.refl _) hu
    have hys : ys = us3 := by
      apply List.ext_getElem?
      intro i
      cases hi : ys[i]? with
      | some y => exact (hy i y hi).symm
      | none =>
        rw [List.getElem?_eq_none_iff] at hi
        rw [List.getElem?_eq_none (by omega)]
    subst hys
    have E5 := E3.trans e5
    have hR5 : Paired (RowAt H5) n.rows ys := paired_up (fun r u h => h.up e5) (rows_of hp3 hl3)
    walk_at "ss"
    refine c_repr (.lst (SqL.of g5) (dp_rows hb.rows hR5)) hb.rpr ?_ (by decide) (by decide)
    walk_at "ss"
    refine c_ixL (SqL.of (E5 _ _ l1)) rfl ?_
    walk_at "ss"
    have l5R : Paired (RowAt H5) n.rows ws := paired_up (fun r u h => h.up E5) l5
    refine c_repr (.lst (SqL.of (E5 _ _ l4)) (dp_rows hb.rows l5R)) hb.rpr ?_ (by decide) (by decide)
    walk_at "ss"
    rw [decide_eq_true rfl]
    walk_at "ss"
    refine ⟨a, _, dx, _, rfl, E5 _ _ h1, rfl, rfl, ?_⟩
    walk_at "ss"
    refine ⟨n, _, rfl, hN.up E5, fun q6 H6 hq6 e6 g6 => ?_⟩
    have E6 := E5.trans e6
    walk_at "ss"
    refine c_ixL (SqL.of (E6 _ _ l1)) rfl ?_
    walk_at "ss"
    refine c_ixL (SqL.of (E6 _ _ l1)) rfl ?_
    walk_at "ss"
    have hall1 := hg.all1
    have htl : (n.rows.flatMap Rw.tells).length ≤ 1000 := by
      have h : n.names.length = n.ins.length + (n.rows.flatMap Rw.tells).length := by unfold Nd.names Nd.told; rw [List.length_append]
      omega
    refine ⟨pr, n.rows, ws, rfl, E6 _ _ l4, paired_up (fun r u h => h.up E6) l5, by omega, hb.rows, by omega, fun q7 H7 hq7 e7 g7 => ?_⟩
    have E7 := E6.trans e7
    have hb100 := hb.i
    refine c_cat (E7 _ _ l2) g7 (fun q8 H8 hq8 e8 g8 => ?_) (by rw [List.length_map, List.length_map]; omega)
    have E8 := E7.trans e8
    walk_at "ss"
    have okn : (n.names.map V.str).all okV = true := by
      refine str_ok fun s hs => ?_
      rcases List.mem_append.mp hs with h | h
      · exact hg.inG s h
      · obtain ⟨r, hr, hs2⟩ := List.mem_flatMap.mp h
        exact row_tells_good (hb.rows r hr) s hs2
    have g8' : H8 q8 = some (.lst (n.names.map V.str)) := by
      rw [g8]
      unfold Nd.names Nd.told
      rw [List.map_append]
    refine c_neLs (SqL.of ((e7.trans e8) _ _ g6)) (SqL.of g8') okn okn ?_
    rw [eqL_strs]
    walk_at "ss"
    refine c_cut (M := fun σ' G => (∃ v2 v3 v4, σ' = [some (.ref a), some (.ref p), v2, v3, v4]) ∧ Ex H G) ?_ ?_
    · walk_at "ss"
      refine c_ixL (SqL.of (E8 _ _ l1)) rfl ?_
      walk_at "ss"
      refine ⟨⟨_, SqL.of (E8 _ _ l2)⟩, forL (xs := n.ins.map V.str) (fun i σ' G => (∃ v2 v3 v4, σ' = [some (.ref a), some (.ref p), v2, v3, v4]) ∧ Ex H G) ⟨⟨_, _, _, rfl⟩, E8⟩ (fun i σ' G _ q => SqL.of (q.2 _ _ l2)) ?_ ?_⟩
      · rintro i x σ' G hx ⟨⟨v2, v3, v4, rfl⟩, eG⟩
        rw [List.getElem?_map] at hx
        obtain ⟨s, hs, rfl⟩ := Option.map_eq_some_iff.mp hx
        walk_at "ss"
        refine ⟨a, _, dx, _, rfl, eG _ _ h1, rfl, rfl, ?_⟩
        walk_at "ss"
        refine ⟨n, _, s, rfl, hN.up eG, hg, .inl ⟨List.mem_of_getElem? hs, ?_⟩⟩
        walk_at "ss"
        refine if_ff (by rfl) ?_
        walk_at "ss"
        exact ⟨⟨_, _, _, rfl⟩, eG⟩
      · rintro σ' G ⟨⟨v2, v3, v4, rfl⟩, eG⟩
        walk_at "ss"
        exact ⟨⟨_, _, _, rfl⟩, eG⟩
    rintro σ' G0 ⟨⟨v2, v3, v4, rfl⟩, eG0⟩
    refine c_cut (M := fun σ' G => (∃ v2 v3 v4, σ' = [some (.ref a), some (.ref p), v2, v3, v4]) ∧ Ex H G) ?_ ?_
    · walk_at "ss"
      refine c_ixL (SqL.of (eG0 _ _ l1)) rfl ?_
      walk_at "ss"
      refine ⟨⟨_, SqL.of (eG0 _ _ l4)⟩, forL (xs := ws) (fun i σ' G => (∃ v2 v3 v4, σ' = [some (.ref a), some (.ref p), v2, v3, v4]) ∧ Ex H G) ⟨⟨_, _, _, rfl⟩, eG0⟩ (fun i σ' G _ q => SqL.of (q.2 _ _ l4)) ?_ ?_⟩
      · rintro i x σ' G hx ⟨⟨v2, v3, v4, rfl⟩, eG⟩
        obtain ⟨r, hr2, hR⟩ := paired_ix l5 hx
        have hgr := hb.rows r (List.mem_of_getElem? hr2)
        walk_at "ss"
        refine ⟨r, x, rfl, hR.up eG, hgr, fun tq G2 htq f2 t2 => ?_⟩
        walk_at "ss"
        refine ⟨⟨_, SqL.of t2⟩, forL (xs := r.tells.map V.str) (fun j σ' G' => (∃ v3 v4, σ' = [some (.ref a), some (.ref p), some x, v3, v4]) ∧ Ex G2 G') ⟨⟨_, _, rfl⟩, Ex.refl _⟩ (fun j σ' G' _ q => SqL.of (q.2 _ _ t2)) ?_ ?_⟩
        · rintro j y σ' G' hy ⟨⟨v2, v4, rfl⟩, eG'⟩
          rw [List.getElem?_map] at hy
          obtain ⟨s, hs, rfl⟩ := Option.map_eq_some_iff.mp hy
          have F := eG.trans (f2.trans eG')
          walk_at "ss"
          refine ⟨a, _, dx, _, rfl, F _ _ h1, rfl, rfl, ?_⟩
          walk_at "ss"
          refine ⟨n, _, s, rfl, hN.up F, hg, .inr ⟨i, r, hr2, List.mem_of_getElem? hs, fun ev u2 hE => ?_⟩⟩
          walk_at "ss"
          refine ⟨r, ev, u2, rfl, hE, hgr, ?_⟩
          have hR2 : RowAt G' r u2 := by obtain ⟨_, _, _, _, _, h, _⟩ := hE; exact h
          have hRx : RowAt G' r x := hR.up F
          obtain ⟨b1, _, rfl, _⟩ := hR2.hd
          obtain ⟨b2, _, rfl, _⟩ := hRx.hd
          walk_at "ss"
          refine c_repr (hR2.dp hgr) (Rw.rp hgr) ?_
          walk_at "ss"
          refine c_repr (hRx.dp hgr) (Rw.rp hgr) ?_
          walk_at "ss"
          rw [decide_eq_true rfl]
          walk_at "ss"
          exact ⟨⟨_, _, rfl⟩, eG'⟩
        · rintro σ' G' ⟨⟨v2, v4, rfl⟩, eG'⟩
          walk_at "ss"
          exact ⟨⟨_, _, _, rfl⟩, eG.trans (f2.trans eG')⟩
      · rintro σ' G ⟨⟨v2, v3, v4, rfl⟩, eG⟩
        walk_at "ss"
        exact ⟨⟨_, _, _, rfl⟩, eG⟩
    clear eG0
    rintro σ' G ⟨⟨v2, v3, v4, rfl⟩, eG⟩
    walk_at "ss"
    refine c_ixL (SqL.of (eG _ _ l1)) rfl ?_
    walk_at "ss"
    have hwl := paired_len l5
    refine ⟨⟨_, SqL.of (eG _ _ l4)⟩, ?_⟩
    refine lcL (xs := ws) (fun i => if (n.rows[i]?.map Rw.kind) = some 6 then ws[i]? else none) (SqL.of (eG _ _ l4)) (by omega) (fun i x hx G2 f2 R hR => ?_) (fun cl G3 hcl f3 g3 => ?_)
    · obtain ⟨r, hr2, hRw⟩ := paired_ix l5 hx
      obtain ⟨b1, xs1, rfl, hb1⟩ := row_hd (hRw.up (eG.trans f2))
      walk_at "ss"
      refine c_ixT (SqT.of hb1) at_hd ?_
      walk_at "ss"
      rw [word_call]
      rw [hr2, Option.map_some] at hR
      by_cases hk : r.kind = 6
      · rw [if_pos (decide_eq_true hk)]
        rw [if_pos (by rw [hk]), hx] at hR
        walk_at "ss"
        exact hR _ (Ex.refl _)
      · rw [if_neg (by rw [decide_eq_false hk]; decide)]
        rw [if_neg (fun z => hk (Option.some.inj z))] at hR
        exact hR _ (Ex.refl _)
    have F3 := eG.trans f3
    walk_at "ss"
    refine ⟨a, _, dx, _, rfl, F3 _ _ h1, rfl, rfl, ?_⟩
    walk_at "ss"
    refine ⟨n, _, rfl, hN.up F3, hg, fun H9 e9 => ?_⟩
    walk_at "ss"
    refine isi (ty_bl _) kb_bb ?_
    walk_at "ss"
    have F9 := F3.trans e9
    refine ⟨a, _, dx, _, rfl, F9 _ _ h1, rfl, rfl, ?_⟩
    walk_at "ss"
    refine ⟨n, _, rfl, hN.up F9, hg, fun H10 e10 => ?_⟩
    walk_at "ss"
    have F10 := F9.trans e10
    refine newL fun q11 H11 hq11 e11 g11 => ?_
    have F11 := F10.trans e11
    have hdc : ∃ ds : List PyData, DpAll K H11 ((List.range ws.length).filterMap fun i => if (n.rows[i]?.map Rw.kind) = some 6 then ws[i]? else none) ds ∧ PyData.canLayAll0 ds = true ∧ PyData.depthAll ds ≤ 6 ∧ (ds.isEmpty = !(n.rows.any fun r => decide (r.kind = 6))) := by
      have key : ∀ m, m ≤ ws.length → ∃ ds : List PyData, DpAll K H11 ((List.range m).filterMap fun i => if (n.rows[i]?.map Rw.kind) = some 6 then ws[i]? else none) ds ∧ PyData.canLayAll0 ds = true ∧ PyData.depthAll ds ≤ 6 ∧ (ds.isEmpty = !((n.rows.take m).any fun r => decide (r.kind = 6))) := by
        intro m
        induction m with
        | zero => exact fun _ => ⟨[], .nil, by simp only [PyData.canLayAll0], by simp only [PyData.depthAll]; omega, rfl⟩
        | succ m ih =>
          intro hm
          obtain ⟨ds, d1, d2, d3, d4⟩ := ih (by omega)
          have hw : ws[m]? = some (ws[m]'(by omega)) := List.getElem?_eq_getElem (by omega)
          obtain ⟨r, hr2, hRw⟩ := paired_ix l5 hw
          have hgr := hb.rows r (List.mem_of_getElem? hr2)
          have et : n.rows.take (m + 1) = n.rows.take m ++ [r] := by rw [List.take_add_one, hr2]; rfl
          rw [List.range_succ, List.filterMap_append, et, List.any_append, List.filterMap_cons, List.filterMap_nil, hr2, Option.map_some, hw]
          by_cases hk : r.kind = 6
          · have hrp := Rw.rp3 hgr
            refine ⟨ds ++ [r.data], ?_, ?_, ?_, ?_⟩
            · rw [if_pos (by rw [hk])]
              exact dpAll_app d1 (.cons ((hRw.up F11).dp hgr) .nil)
            · exact lay_app d2 (by simp only [PyData.canLayAll0, hrp.2.1, Bool.and_self])
            · exact depth_app d3 (by simp only [PyData.depthAll]; have := hrp.2.2.2.1; omega)
            · simp [hk]
          · refine ⟨ds, ?_, d2, d3, ?_⟩
            · rw [if_neg (fun z => hk (Option.some.inj z))]
              simpa using d1
            · simp [hk, d4]
      obtain ⟨ds, d1, d2, d3, d4⟩ := key ws.length (Nat.le_refl _)
      refine ⟨ds, d1, d2, d3, ?_⟩
      rw [d4, List.take_of_length_le (by omega)]
    obtain ⟨ds, d1, d2, d3, d4⟩ := hdc
    refine ⟨.list ds, .list [], .lst (SqL.of ((e9.trans (e10.trans e11)) _ _ g3)) d1, .lst (SqL.of g11) .nil, ?_, ?_, ?_⟩
    · unfold SeqAt.shaped
      rw [PyData.canLay0, PyData.depth, d2, Bool.true_and, decide_eq_true_eq]
      omega
    · decide +kernel
    rw [eqv_lst_nil, d4, Bool.not_not]
    walk_at "ss"
    rw [decide_eq_true rfl]
    walk_at "ss"
    refine ⟨a, _, dx, _, rfl, F11 _ _ h1, rfl, rfl, ?_⟩
    walk_at "ss"
    refine ⟨n, _, rfl, hN.up F11, hg, fun u12 H12 e12 t12 => ?_⟩
    walk_at "ss"
    obtain ⟨c1, _, _, _, _, rfl, _⟩ := id t12
    refine c_repr (t12.dp hb) hb.rp ?_ (by decide) (by decide)
    walk_at "ss"
    have F12 := F11.trans e12
    refine ⟨n, p, rfl, hL.up F12, fun u13 H13 e13 t13 => ?_⟩
    walk_at "ss"
    obtain ⟨c2, _, _, _, _, rfl, _⟩ := id t13
    refine c_repr (t13.dp hb) hb.rp ?_ (by decide) (by decide)
    walk_at "ss"
    rw [decide_eq_true rfl]
    exact k _ (F12.trans e13)

/-! ### what is no name; nodes made of lists; what is told is changed -/
open TL (tl)
def BadNm (K : PySem.W.Frag) (n : Nd) (H : Hp) (w : V) : Prop := (∃ s, w = .str s ∧ s ∉ n.names) ∨ ∃ nm, TyX K H w (.type nm) ∧ kitB nm "str" = some false
def sp_unknown_l (K : PySem.W.Frag) (Z : Adr) : Sp := fun vs H Q _ => ∃ (n : Nd) (v w : V) (t : Str), vs = [v, w] ∧ NdAt Z H n v ∧ n.good ∧ BadNm K n H w ∧ (∀ H2, Ex H H2 → RpV K H2 w t) ∧ okV (.str t) = true ∧ RetV (.bl true) H Q
theorem ok_unknown_l (T : Txt K mg Z)  : FnG P w K mg base CX0 (6) Z.f_unknown_l Z.fd_unknown_l ["_law_node_here", "_law_thing"] (sp_unknown_l K Z) := by
  refine T.F_unknown_l.okG sc_unknown_l (fun vs H Q E h => ?_) (fun cdv AA outer s H vs Q E hgd hr h => ?_)
  · obtain ⟨n, v, w0, t, rfl, _⟩ := h
    rfl
  · obtain ⟨n, v, w0, t, rfl, hN, hg, hbad, hrp, hok, k⟩ := h
    have GXN_teller := gxN_teller (P := P) (w := w) (base := base) T
    obtain ⟨a, dx, fs, rfl, ha, la⟩ : ∃ a dx fs, v = .ref a ∧ H a = some (.ins Z.c_Node dx fs) ∧ fs.lookup ("teller" : Str) = none := by
      obtain ⟨a, dx, li, lo, lr, td, evs, us, rfl, h1, _⟩ := hN
      exact ⟨a, dx, _, rfl, h1, rfl⟩
    refine ⟨_, (pss_cons (ps_set (i := 2) sc_unknown_l.nd rfl (Or.inl rfl) pe_non)
      (pss_cons (ps_try_allN sc_unknown_l.nd rfl rfl takes0 (fun W pn xe tk _ => (pss_one (ps_expr (pe_methPS (pv 0) GXN_teller (hr.mono (by omega)) (fun σ => L2N.passAt tk σ) (pa_cons (pv 1) pa_nil))))) (.named (i := 3) rfl rfl ⟨rfl, by decide, .inl T.m_Unknown⟩ (fun a oe cls d pn hz hf hot => (pss_one (ps_set (i := 2) sc_unknown_l.nd rfl (Or.inl rfl) (pe_lst (pa_cons (pe_callB (call_reprS hgd (un62 hr)) (by rfl) T.n_repr (by decide +kernel) (pa_cons (pe_xf (exB_ok T.x_Unknown).ic.xf ((exB_ok T.x_Unknown).no _ (by decide +kernel)) hz hf (pv 3)) pa_nil)) (pa_cons (pe_callB (call_isP (exB_ok T.x_Unknown).ic hz hf) (by rfl) T.n_isinstance (by decide +kernel) (pa_cons (pv 3) (pa_cons (pe_gcst (v := .ref Z.c_NoName) rfl ⟨_, T.m_NoName, rfl⟩) pa_nil))) (pa_cons (pe_callB (call_isP (exB_ok T.x_Unknown).ic hz hf) (by rfl) T.n_isinstance (by decide +kernel) (pa_cons (pv 3) (pa_cons (pe_gcst (v := .ref Z.c_BeatError) rfl ⟨_, T.m_BeatError, rfl⟩) pa_nil))) pa_nil))))))) .nil) pss_nil)
      (pss_one (ps_ret (pe_cmpR (op_eqD hr.units) (pv 2) (pe_lst (pa_cons (pe_callB (call_reprQ hgd (un62 hr)) (by rfl) T.n_repr (by decide +kernel) (pa_cons (pv 1) pa_nil)) (pa_cons pe_bl (pa_cons pe_bl pa_nil)))) (nomark _)))))), ?_⟩
    walk_at "ss"
    refine ⟨a, _, dx, fs, rfl, ha, rfl, la, ?_⟩
    walk_at "ss"
    refine ⟨n, _, _, rfl, hN, hg, hbad, fun x H2 hx e2 g2 => ?_⟩
    refine ⟨true, T.fact_exmU, fun _ ae hae => ?_, fun z => nomatch z⟩
    walk_at "ss"
    refine ⟨x, _, _, rfl, g2, lk_hd, ?_⟩
    walk_at "ss"
    refine ⟨_, t, rfl, hrp _ e2, ?_⟩
    walk_at "ss"
    refine ⟨_, _, false, rfl, .own _, rfl, ⟨x, _, rfl, g2⟩, T.fact_kitUN, ?_⟩
    walk_at "ss"
    refine ⟨_, _, true, rfl, .own _, rfl, ⟨x, _, rfl, g2⟩, T.fact_kitUB, ?_⟩
    walk_at "ss"
    refine newL fun l H3 hl e3 g3 => ?_
    walk_at "ss"
    refine ⟨_, t, rfl, hrp _ (e2.trans e3), ?_⟩
    walk_at "ss"
    refine newL fun l2 H4 hl2 e4 g4 => ?_
    have ho : ([.str t, .bl false, .bl true] : List V).all okV = true := by
      rw [List.all_cons, hok]
      rfl
    refine c_eqLs (SqL.of (e4 _ _ g3)) (SqL.of g4) ho ho ?_
    rw [eqL_refl (okL_flat ho)]
    exact k _ (e2.trans (e3.trans e4))
/-! told lists may be changed -/
def sp_changed_l (Z : Adr) : Sp := fun vs H Q _ => ∃ (n : Nd) (v : V), vs = [v] ∧ NdAt Z H n v ∧ n.good ∧ n.rows ≠ [] ∧ ∀ H2, Ex H H2 → Q .non H2
theorem ok_changed_l (T : Txt K mg Z)  : FnOk P w K mg base CX0 (4) Z.f_changed_l Z.fd_changed_l ["_law_found"] (sp_changed_l Z) := by
  refine T.F_changed_l.ok sc_changed_l (fun vs H Q E h => ?_) (fun cdv AA outer s H vs Q E hr h => ?_)
  · obtain ⟨n, v, rfl, _⟩ := h
    rfl
  · obtain ⟨n, v, rfl, hN, hg, hrn, k⟩ := h
    have GMN_inputs := gmN_inputs (P := P) (w := w) (base := base) T
    have GMN_outs := gmN_outs (P := P) (w := w) (base := base) T
    have GMN_names := gmN_names (P := P) (w := w) (base := base) T
    have GMN_rows := gmN_rows (P := P) (w := w) (base := base) T
    obtain ⟨a, dx, fs, rfl, ha, la1, la2, la3, la4⟩ : ∃ a dx fs, v = .ref a ∧ H a = some (.ins Z.c_Node dx fs) ∧ fs.lookup ("inputs" : Str) = none ∧ fs.lookup ("outs" : Str) = none ∧ fs.lookup ("names" : Str) = none ∧ fs.lookup ("rows" : Str) = none := by
      obtain ⟨a, dx, li, lo, lr, td, evs, us, rfl, h1, _⟩ := hN
      exact ⟨a, dx, _, rfl, h1, rfl, rfl, rfl, rfl⟩
    refine ⟨_, (pss_one (ps_for PassesOwn.never rfl (pi_list (pe_lst (pa_cons (pe_methP0 (pv 0) GMN_inputs (hr.mono (by omega)) pass0) (pa_cons (pe_methP0 (pv 0) GMN_outs (hr.mono (by omega)) pass0) (pa_cons (pe_methP0 (pv 0) GMN_names (hr.mono (by omega)) pass0) (pa_cons (pe_methP0 (pv 0) GMN_rows (hr.mono (by omega)) pass0) pa_nil)))))) (pg_name (i := 1) sc_changed_l.nd rfl (Or.inl rfl)) (pss_cons (ps_expr (pe_bm PySem.F.plainAttrs_list PySem.F.slot_list_append PySem.F.type_list_append mt_append (pv 1) (pa_cons pe_str pa_nil)))
      (pss_one (ps_asg pe_non (pg_sub (pv 1) pe_int set_list)))))), ?_⟩
    walk_at "ss"
    refine ⟨a, _, dx, _, rfl, ha, rfl, la1, ?_⟩
    walk_at "ss"
    refine ⟨n, _, rfl, hN, fun q1 H1 hq1 e1 g1 => ?_⟩
    walk_at "ss"
    refine ⟨a, _, dx, _, rfl, e1 _ _ ha, rfl, la2, ?_⟩
    walk_at "ss"
    refine ⟨n, _, rfl, hN.up e1, fun q2 H2 hq2 e2 g2 => ?_⟩
    have E2 := e1.trans e2
    walk_at "ss"
    refine ⟨a, _, dx, _, rfl, E2 _ _ ha, rfl, la3, ?_⟩
    walk_at "ss"
    refine ⟨n, _, rfl, hN.up E2, fun q3 H3 hq3 e3 g3 => ?_⟩
    have E3 := E2.trans e3
    walk_at "ss"
    refine ⟨a, _, dx, _, rfl, E3 _ _ ha, rfl, la4, ?_⟩
    walk_at "ss"
    refine ⟨n, _, rfl, hN.up E3, fun q4 es us4 H4 hq4 e4 g4 hp4 hl4 => ?_⟩
    have E4 := E3.trans e4
    walk_at "ss"
    refine newL fun q5 H5 hq5 e5 g5 => ?_
    walk_at "ss"
    have hlr : n.rows.length = es.length := by have := paired_len hp4; rw [List.length_zip, hl4] at this; omega
    have f1 : H q1 = none := hq1
    have f2 : H q2 = none := fresh_back e1 hq2
    have f3 : H q3 = none := fresh_back E2 hq3
    have f4 : H q4 = none := fresh_back E3 hq4
    have n12 : q2 ≠ q1 := (ne_of_none g1 hq2).symm
    have n13 : q3 ≠ q1 := (ne_of_none (e2 _ _ g1) hq3).symm
    have n23 : q3 ≠ q2 := (ne_of_none g2 hq3).symm
    have n14 : q4 ≠ q1 := (ne_of_none (e3 _ _ (e2 _ _ g1)) hq4).symm
    have n24 : q4 ≠ q2 := (ne_of_none (e3 _ _ g2) hq4).symm
    have n34 : q4 ≠ q3 := (ne_of_none g3 hq4).symm
    have n15 : q5 ≠ q1 := (ne_of_none ((e2.trans (e3.trans e4)) _ _ g1) hq5).symm
    have n25 : q5 ≠ q2 := (ne_of_none ((e3.trans e4) _ _ g2) hq5).symm
    have n35 : q5 ≠ q3 := (ne_of_none (e4 _ _ g3) hq5).symm
    have n45 : q5 ≠ q4 := (ne_of_none g4 hq5).symm
    have k1 := (e2.trans (e3.trans (e4.trans e5))) _ _ g1
    have k2 := (e3.trans (e4.trans e5)) _ _ g2
    have k3 := (e4.trans e5) _ _ g3
    have k4 := e5 _ _ g4
    have hin := hg.in0
    have hin1 := hg.in1
    have hou := hg.out0
    have hou1 := hg.out1
    have hal := hg.all1
    have hnn : 0 < n.names.length := by unfold Nd.names; rw [List.length_append]; omega
    have hes : 0 < es.length := by
      have := List.length_pos_iff.mpr hrn
      omega
    have hr1 := hg.row1
    refine ⟨⟨_, SqL.of g5⟩, forL (xs := [.ref q1, .ref q2, .ref q3, .ref q4]) (fun i σ' G => (∃ v1, σ' = [some (.ref a), v1]) ∧ Ex H G ∧ G q5 = some (.lst [.ref q1, .ref q2, .ref q3, .ref q4]) ∧ (i ≤ 0 → G q1 = some (.lst (n.ins.map V.str))) ∧ (i ≤ 1 → G q2 = some (.lst (n.outs.map V.str))) ∧ (i ≤ 2 → G q3 = some (.lst (n.names.map V.str))) ∧ (i ≤ 3 → G q4 = some (.lst es))) ⟨⟨_, rfl⟩, E4.trans e5, g5, fun _ => k1, fun _ => k2, fun _ => k3, fun _ => k4⟩ (fun i σ' G _ q => SqL.of q.2.2.1) ?_ ?_⟩
    · rintro i x σ' G hx ⟨⟨v1, rfl⟩, eG, w5, w1, w2, w3, w4⟩
      have key : ∃ (q : Addr) (c : List V), x = .ref q ∧ G q = some (.lst c) ∧ 0 < c.length ∧ c.length ≤ 1000 ∧ H q = none ∧ q ≠ q5 ∧ (i + 1 ≤ 0 → q1 ≠ q) ∧ (i + 1 ≤ 1 → q2 ≠ q) ∧ (i + 1 ≤ 2 → q3 ≠ q) ∧ (i + 1 ≤ 3 → q4 ≠ q) := by
        match i, hx with
        | 0, hx => cases hx; exact ⟨q1, _, rfl, w1 (by omega), by rw [List.length_map]; omega, by rw [List.length_map]; omega, f1, n15.symm, fun z => absurd z (by omega), fun _ => n12, fun _ => n13, fun _ => n14⟩
        | 1, hx => cases hx; exact ⟨q2, _, rfl, w2 (by omega), by rw [List.length_map]; omega, by rw [List.length_map]; omega, f2, n25.symm, fun z => absurd z (by omega), fun z => absurd z (by omega), fun _ => n23, fun _ => n24⟩
        | 2, hx => cases hx; exact ⟨q3, _, rfl, w3 (by omega), by rw [List.length_map]; omega, by rw [List.length_map]; omega, f3, n35.symm, fun z => absurd z (by omega), fun z => absurd z (by omega), fun z => absurd z (by omega), fun _ => n34⟩
        | 3, hx => cases hx; exact ⟨q4, _, rfl, w4 (by omega), by omega, by omega, f4, n45.symm, fun z => absurd z (by omega), fun z => absurd z (by omega), fun z => absurd z (by omega), fun z => absurd z (by omega)⟩
        | i + 4, hx => simp at hx
      obtain ⟨q, c, rfl, hc, hc0, hc1, hqH, hq5n, d1, d2, d3, d4⟩ := key
      walk_at "ss"
      refine ⟨.inl ⟨rfl, _, SqL.of hc⟩, ?_⟩
      walk_at "ss"
      refine ⟨q, _, _, rfl, rfl, hc, Evl.sz_lt (by omega), ?_⟩
      walk_at "ss"
      refine ⟨q, _, 0, 0, rfl, rfl, upd_same, Evl.ixN_nat (n := (c ++ [V.str "q"]).length) (j := 0) (by rw [List.length_append]; omega), ?_⟩
      have eG2 : Ex H (upd (upd G q (.lst (c ++ [V.str "q"]))) q (.lst ((c ++ [V.str "q"]).set 0 .non))) := Ex.mut (Ex.mut eG hqH) hqH
      have ot : ∀ {z : Addr} {o : HO}, z ≠ q → G z = some o → upd (upd G q (.lst (c ++ [V.str "q"]))) q (.lst ((c ++ [V.str "q"]).set 0 .non)) z = some o := fun hz h => by rw [upd_ne hz, upd_ne hz]; exact h
      exact ⟨⟨_, rfl⟩, eG2, ot hq5n.symm w5, fun z => ot (d1 z) (w1 (by omega)), fun z => ot (d2 z) (w2 (by omega)), fun z => ot (d3 z) (w3 (by omega)), fun z => ot (d4 z) (w4 (by omega))⟩
    · rintro σ' G ⟨⟨v1, rfl⟩, eG, _⟩
      walk_at "ss"
      exact k _ eG
/-! nodes made of lists or of tuples -/
theorem NdAt.lists {H G : Hp} {n : Nd} {v : V} {S : Addr → Prop} (h : ∃ a dx li lo lr td evs us, v = .ref a ∧ H a = some (.ins Z.c_Node dx (nfs n.nm li lo lr td)) ∧ H li = some (.lst (n.ins.map V.str)) ∧ H lo = some (.lst (n.outs.map V.str)) ∧ H lr = some (.lst evs) ∧ H td = some (.dK (telK n.ins n.rows evs)) ∧ Paired (fun r (q : V × V) => EqAt Z H r q.1 q.2) n.rows (evs.zip us) ∧ evs.length = us.length ∧ ¬S li ∧ ¬S lo ∧ ¬S lr)
    (e : NL H G) (x : ∀ b o, ¬S b → H b = some o → G b = some o) : NdAt Z G n v := by
  obtain ⟨a, dx, li, lo, lr, td, evs, us, h1, h2, h3, h4, h5, h6, h7, h8, s1, s2, s3⟩ := h
  exact ⟨a, dx, li, lo, lr, td, evs, us, h1, e _ _ (fun _ z => by cases z) h2, x _ _ s1 h3, x _ _ s2 h4, x _ _ s3 h5, e _ _ (fun _ z => by cases z) h6, paired_up (fun r q h => h.it (NL.ins e) (NL.tups e)) h7, h8⟩
def sp_made_l (Z : Adr) : Sp := fun vs H Q _ => ∃ (b : Addr) (n : Nd) (p : Addr), vs = [.ref b, .ref p] ∧ BoxAt H b ∧ NdL H n p ∧ NdB n ∧ ∀ v H2, NdAt Z H2 n v → ExB b H H2 → BoxAt H2 b → Q v H2
theorem ok_made_l (T : Txt K mg Z)  : FnOk P w K mg base CX0 (32) Z.f_made_l Z.fd_made_l ["_law_box_here", "_law_node_here"] (sp_made_l Z) := by
  have G_take_l := ok_take_l (P := P) (w := w) (base := base) T
  have G_Node_init := ok_Node_init (P := P) (w := w) (base := base) T
  refine T.F_made_l.ok sc_made_l (fun vs H Q E h => ?_) (fun cdv AA outer s H vs Q E hr h => ?_)
  · obtain ⟨b, n, p, rfl, _⟩ := h
    rfl
  · obtain ⟨b, n, p, rfl, hB, hL, hb, k⟩ := h
    obtain ⟨pi, po, pr, ws, l1, l2, l3, l4, l5⟩ := id hL
    have hg := hb.g
    refine ⟨_, (pss_cons (ps_set (i := 2) sc_made_l.nd rfl (Or.inl rfl) (pe_callTy call_list_of (by rfl) T.n_list (by decide +kernel) (pa_cons (pe_ix ix_list (pv 1) pe_int (fun _ _ => rfl)) pa_nil)))
      (pss_cons (ps_set (i := 3) sc_made_l.nd rfl (Or.inl rfl) (pe_callTy call_list_of (by rfl) T.n_list (by decide +kernel) (pa_cons (pe_ix ix_list (pv 1) pe_int (fun _ _ => rfl)) pa_nil)))
      (pss_cons (ps_set (i := 4) sc_made_l.nd rfl (Or.inl rfl) (pe_callTy call_list_of (by rfl) T.n_list (by decide +kernel) (pa_cons (pe_ix ix_list (pv 1) pe_int (fun _ _ => rfl)) pa_nil)))
      (pss_cons (ps_if (pt_cmpR op_eq (pe_call G_take_l (hr.mono (by omega)) rfl T.g_take_l T.F_take_l.kp T.b_take_l .nil pass0 (pa_cons (pv 0) (pa_cons pe_int pa_nil))) pe_int (nomark _)) (pss_one (ps_ret (pe_make ⟨(tcB_ok T.x_Node).makes, T.i_Node, T.y_Node_init, (tcB_ok T.x_Node).kp⟩ G_Node_init (hr.mono (by omega)) rfl T.m_Node T.b_Node_init .nil pass0 (pa_cons (pe_ix ix_list (pv 1) pe_int (fun _ _ => rfl)) (pa_cons (pe_callTy call_tuple_of (by rfl) T.n_tuple (by decide +kernel) (pa_cons (pv 2) pa_nil)) (pa_cons (pe_callTy call_tuple_of (by rfl) T.n_tuple (by decide +kernel) (pa_cons (pv 3) pa_nil)) (pa_cons (pe_callTy call_tuple_of (by rfl) T.n_tuple (by decide +kernel) (pa_cons (pv 4) pa_nil)) pa_nil))))))) pss_nil)
      (pss_cons (ps_set (i := 5) sc_made_l.nd rfl (Or.inl rfl) (pe_make ⟨(tcB_ok T.x_Node).makes, T.i_Node, T.y_Node_init, (tcB_ok T.x_Node).kp⟩ G_Node_init (hr.mono (by omega)) rfl T.m_Node T.b_Node_init .nil pass0 (pa_cons (pe_ix ix_list (pv 1) pe_int (fun _ _ => rfl)) (pa_cons (pv 2) (pa_cons (pv 3) (pa_cons (pv 4) pa_nil))))))
      (pss_cons (ps_if (pt_cmpR (op_neD hr.units) (pe_lst (pa_cons (pv 2) (pa_cons (pv 3) (pa_cons (pv 4) pa_nil)))) (pe_slice sl_list (pv 1) (po_some pe_int) po_none) (nomark _)) (pss_one (ps_ret pe_non)) pss_nil)
      (pss_cons (ps_expr (pe_bm PySem.F.plainAttrs_list PySem.F.slot_list_append PySem.F.type_list_append mt_append (pv 2) (pa_cons pe_str pa_nil)))
      (pss_cons (ps_expr (pe_bm0 PySem.F.plainAttrs_list PySem.F.slot_list_clear PySem.F.type_list_clear mt_clear (pv 3)))
      (pss_cons (ps_expr (pe_bm PySem.F.plainAttrs_list PySem.F.slot_list_append PySem.F.type_list_append mt_append (pv 4) (pa_cons (pe_tup (pa_cons pe_str (pa_cons (pe_tup (pa_cons pe_str (pa_cons pe_str pa_nil))) pa_nil))) pa_nil)))
      (pss_one (ps_ret (pv 5)))))))))))), ?_⟩
    walk_at "ss"
    refine c_ixL (SqL.of l1) rfl ?_
    walk_at "ss"
    refine ⟨_, _, rfl, .inl (SqL.of l2), fun q1 hq1 => ?_⟩
    have e1 : Ex H (upd H q1 (.lst (n.ins.map V.str))) := Ex.new hq1
    have g1 : upd H q1 (.lst (n.ins.map V.str)) q1 = some (.lst (n.ins.map V.str)) := upd_same
    generalize upd H q1 (.lst (n.ins.map V.str)) = H1 at e1 g1
    walk_at "ss"
    refine c_ixL (SqL.of (e1 _ _ l1)) rfl ?_
    walk_at "ss"
    refine ⟨_, _, rfl, .inl (SqL.of (e1 _ _ l3)), fun q2 hq2 => ?_⟩
    have e2 : Ex H1 (upd H1 q2 (.lst (n.outs.map V.str))) := Ex.new hq2
    have g2 : upd H1 q2 (.lst (n.outs.map V.str)) q2 = some (.lst (n.outs.map V.str)) := upd_same
    generalize upd H1 q2 (.lst (n.outs.map V.str)) = H2 at e2 g2
    have E2 := e1.trans e2
    walk_at "ss"
    refine c_ixL (SqL.of (E2 _ _ l1)) rfl ?_
    walk_at "ss"
    refine ⟨_, _, rfl, .inl (SqL.of (E2 _ _ l4)), fun q3 hq3 => ?_⟩
    have e3 : Ex H2 (upd H2 q3 (.lst ws)) := Ex.new hq3
    have g3 : upd H2 q3 (.lst ws) q3 = some (.lst ws) := upd_same
    generalize upd H2 q3 (.lst ws) = H3 at e3 g3
    have E3 := E2.trans e3
    have b3 := hB.ex E3
    walk_at "ss"
    refine ⟨b, 2, rfl, b3, by decide, by decide, fun d H4 h40 h41 x4 b4 => ?_⟩
    have nb : ∀ {z : Addr} {o : HO}, H z = none → H3 z = some o → z ≠ b := by
      intro z o hz _ e
      subst e
      obtain ⟨ob, hob⟩ := hB.some
      rw [hz] at hob
      cases hob
    have fq1 : H q1 = none := hq1
    have fq2 : H q2 = none := fresh_back e1 hq2
    have fq3 : H q3 = none := fresh_back E2 hq3
    have k1 : H3 q1 = some (.lst (n.ins.map V.str)) := e3 _ _ (e2 _ _ g1)
    have k2 : H3 q2 = some (.lst (n.outs.map V.str)) := e3 _ _ g2
    have m1 : H4 q1 = some (.lst (n.ins.map V.str)) := x4 _ _ (nb fq1 k1) k1
    have m2 : H4 q2 = some (.lst (n.outs.map V.str)) := x4 _ _ (nb fq2 k2) k2
    have m3 : H4 q3 = some (.lst ws) := x4 _ _ (nb fq3 g3) g3
    have L4 : NdL H4 n p := (hL.up E3).upB x4 b3
    have R4 : Paired (RowAt H4) n.rows ws := paired_up (fun r u h => (h.up E3).nl (NL.box x4 b3)) l5
    have X4 : ExB b H H4 := (ExB.of E3).trans x4
    have P1 : H4 p = some (.lst [.str n.nm, .ref pi, .ref po, .ref pr]) := x4 _ _ (box_ne b3 (E3 _ _ l1) (fun _ _ _ z => by injection z with z; cases z)) (E3 _ _ l1)
    walk_at "ss"
    refine if_cs (fun c1 => ?_) (fun c1 => ?_)
    · walk_at "ss"
      refine c_ixL (SqL.of P1) rfl ?_
      walk_at "ss"
      refine ⟨_, _, rfl, .inl ⟨SqL.of m1, fun t1 ht1 => ?_⟩⟩
      have f1 : Ex H4 (upd H4 t1 (.tup (n.ins.map V.str))) := Ex.new ht1
      have j1 : upd H4 t1 (.tup (n.ins.map V.str)) t1 = some (.tup (n.ins.map V.str)) := upd_same
      generalize upd H4 t1 (.tup (n.ins.map V.str)) = H5 at f1 j1
      walk_at "ss"
      refine ⟨_, _, rfl, .inl ⟨SqL.of (f1 _ _ m2), fun t2 ht2 => ?_⟩⟩
      have f2 : Ex H5 (upd H5 t2 (.tup (n.outs.map V.str))) := Ex.new ht2
      have j2 : upd H5 t2 (.tup (n.outs.map V.str)) t2 = some (.tup (n.outs.map V.str)) := upd_same
      generalize upd H5 t2 (.tup (n.outs.map V.str)) = H6 at f2 j2
      walk_at "ss"
      refine ⟨_, _, rfl, .inl ⟨SqL.of ((f1.trans f2) _ _ m3), fun t3 ht3 => ?_⟩⟩
      have f3 : Ex H6 (upd H6 t3 (.tup ws)) := Ex.new ht3
      have j3 : upd H6 t3 (.tup ws) t3 = some (.tup ws) := upd_same
      generalize upd H6 t3 (.tup ws) = H7 at f3 j3
      have F := f1.trans (f2.trans f3)
      walk_at "ss"
      intro x dx hx hdx nxd
      have eM : Ex H7 (upd (upd H7 dx (.own x)) x (.ins Z.c_Node dx [])) := fun c o hc => by rw [upd_ne (ne_of_none hc hx), upd_ne (ne_of_none hc hdx)]; exact hc
      refine ⟨x, dx, n, t1, t2, t3, ws, H7, false, false, false, rfl, upd_same, hx, eM, (f2.trans f3) _ _ j1, f3 _ _ j2, j3, paired_up (fun r u h => h.up F) R4, hg, fun H8 e8 h8 => ⟨rfl, ?_⟩⟩
      exact k _ H8 h8.at_ (X4.trans (ExB.of (F.trans e8))) (b4.ex (F.trans e8))
    · walk_at "ss"
      refine c_ixL (SqL.of P1) rfl ?_
      walk_at "ss"
      intro x dx hx hdx nxd
      have eM : Ex H4 (upd (upd H4 dx (.own x)) x (.ins Z.c_Node dx [])) := fun c o hc => by rw [upd_ne (ne_of_none hc hx), upd_ne (ne_of_none hc hdx)]; exact hc
      refine ⟨x, dx, n, q1, q2, q3, ws, H4, true, true, true, rfl, upd_same, hx, eM, m1, m2, m3, R4, hg, fun H8 e8 h8 => ⟨rfl, ?_⟩⟩
      walk_at "ss"
      refine newL fun q9 H9 hq9 e9 g9 => ?_
      walk_at "ss"
      have E89 := e8.trans e9
      refine ⟨p, _, rfl, SqL.of (E89 _ _ P1), fun q10 hq10 => ?_⟩
      rw [show cutV [V.str n.nm, .ref pi, .ref po, .ref pr] (some 1) none = [.ref pi, .ref po, .ref pr] from rfl]
      have e10 : Ex H9 (upd H9 q10 (.lst [.ref pi, .ref po, .ref pr])) := Ex.new hq10
      have g10 : upd H9 q10 (.lst [.ref pi, .ref po, .ref pr]) q10 = some (.lst [.ref pi, .ref po, .ref pr]) := upd_same
      generalize upd H9 q10 (.lst [.ref pi, .ref po, .ref pr]) = H10 at e10 g10
      have E810 := e9.trans e10
      have E410 := e8.trans E810
      have R10 : Paired (RowAt H10) n.rows ws := paired_up (fun r u h => h.up E410) R4
      obtain ⟨pi', po', pr', ws', y1, y2, y3, y4, y5⟩ := L4.up E410
      have hyy : pi' = pi ∧ po' = po ∧ pr' = pr := by
        have h1 := y1
        rw [E410 _ _ P1] at h1
        injection h1 with h1
        injection h1 with h1
        injection h1 with _ h1
        injection h1 with a1 h1
        injection h1 with a2 h1
        injection h1 with a3 _
        injection a1 with a1
        injection a2 with a2
        injection a3 with a3
        exact ⟨a1.symm, a2.symm, a3.symm⟩
      obtain ⟨rfl, rfl, rfl⟩ := hyy
      have hrp := (rp_lst (rp_cons (rp_strsL hg.inG hb.i) (rp_cons (rp_strsL hb.outs hb.o) (rp_cons (rp_lst (rp_rows hb.rows)) rp_nil)))).mono (D2 := 9) (B2 := 1000000) (by omega) (by have := hb.b; omega)
      refine ⟨_, _, .lst (SqL.of (e10 _ _ g9)) (.cons (.lst (SqL.of (E410 _ _ m1)) dp_strs) (.cons (.lst (SqL.of (E410 _ _ m2)) dp_strs) (.cons (.lst (SqL.of (E410 _ _ m3)) (dp_rows hb.rows R10)) .nil))), .lst (SqL.of g10) (.cons (.lst (SqL.of y2) dp_strs) (.cons (.lst (SqL.of y3) dp_strs) (.cons (.lst (SqL.of y4) (dp_rows hb.rows y5)) .nil))), hrp.shaped, hrp.shaped, ?_⟩
      rw [SeqAt.eqv_refl _ hrp.2.1]
      walk_at "ss"
      have w1 := E410 _ _ m1
      have w2 := E410 _ _ m2
      have w3 := E410 _ _ m3
      have n12 : q2 ≠ q1 := (ne_of_none g1 hq2).symm
      have n13 : q3 ≠ q1 := (ne_of_none (e2 _ _ g1) hq3).symm
      have n23 : q3 ≠ q2 := (ne_of_none g2 hq3).symm
      have hi100 := hb.i
      refine ⟨.inl ⟨rfl, _, SqL.of w1⟩, ?_⟩
      walk_at "ss"
      refine ⟨q1, _, _, rfl, rfl, w1, Evl.sz_lt (by rw [List.length_map]; omega), ?_⟩
      walk_at "ss"
      refine ⟨.inl ⟨rfl, _, SqL.of (by rw [upd_ne n12]; exact w2)⟩, ?_⟩
      walk_at "ss"
      refine ⟨q2, _, rfl, rfl, (by rw [upd_ne n12]; exact w2), ?_⟩
      walk_at "ss"
      have w3' : upd (upd H10 q1 (.lst (n.ins.map V.str ++ [V.str "zzz"]))) q2 (.lst []) q3 = some (.lst ws) := by rw [upd_ne n23, upd_ne n13]; exact w3
      have N11 : NL H10 (upd H10 q1 (.lst (n.ins.map V.str ++ [V.str "zzz"]))) := NL.upd w1
      have N12 : NL (upd H10 q1 (.lst (n.ins.map V.str ++ [V.str "zzz"]))) (upd (upd H10 q1 (.lst (n.ins.map V.str ++ [V.str "zzz"]))) q2 (.lst [])) := NL.upd (by rw [upd_ne n12]; exact w2)
      have A12 : ∀ c o, ¬(c = q1 ∨ c = q2 ∨ c = q3) → H10 c = some o → upd (upd H10 q1 (.lst (n.ins.map V.str ++ [V.str "zzz"]))) q2 (.lst []) c = some o := fun c o hc h => by
        rw [upd_ne fun z => hc (.inr (.inl z)), upd_ne fun z => hc (.inl z)]
        exact h
      have X12 : ExB b H (upd (upd H10 q1 (.lst (n.ins.map V.str ++ [V.str "zzz"]))) q2 (.lst [])) := ExB.mutF (ExB.mutF (X4.trans (ExB.of E410)) fq1) fq2
      have B12 : BoxAt (upd (upd H10 q1 (.lst (n.ins.map V.str ++ [V.str "zzz"]))) q2 (.lst [])) b := by
        obtain ⟨x', y', z', h0, q⟩ := b4.ex E410
        exact ⟨x', y', z', h0, by rw [upd_ne (nb fq2 k2).symm, upd_ne (nb fq1 k1).symm]; exact q⟩
      generalize upd (upd H10 q1 (.lst (n.ins.map V.str ++ [V.str "zzz"]))) q2 (.lst []) = H12 at w3' N12 A12 X12 B12
      refine ⟨.inl ⟨rfl, _, SqL.of w3'⟩, ?_⟩
      walk_at "ss"
      refine newT fun p13 H13 hp13 e13 g13 => ?_
      walk_at "ss"
      refine newT fun p14 H14 hp14 e14 g14 => ?_
      walk_at "ss"
      have E14 := e13.trans e14
      have hwl := paired_len l5
      have hr1 := hg.row1
      refine ⟨q3, _, _, rfl, rfl, E14 _ _ w3', Evl.sz_lt (by omega), ?_⟩
      walk_at "ss"
      have N15 : NL H14 (upd H14 q3 (.lst (ws ++ [.ref p14]))) := NL.upd (E14 _ _ w3')
      obtain ⟨a, dx', li, lo, lr, td, evs, us, z1, z2, z3, z4, z5, z6, z7, z8, f1, f2, f3, f4, f5⟩ := h8
      refine k _ _ (NdAt.lists (H := H10) (S := fun c => c = q1 ∨ c = q2 ∨ c = q3) ⟨a, dx', li, lo, lr, td, evs, us, z1, E810 _ _ z2, E810 _ _ z3, E810 _ _ z4, E810 _ _ z5, E810 _ _ z6, paired_up (fun r q h => h.up E810) z7, z8, ?_, ?_, ?_⟩ (N11.trans (N12.trans ((NL.of E14).trans N15))) fun c o hc h => ?_) (ExB.mutF (X12.trans (ExB.of E14)) fq3) ?_
      · rintro (z | z | z)
        · rw [z, m1] at f2; cases f2
        · rw [z, m2] at f2; cases f2
        · rw [z, m3] at f2; cases f2
      · rintro (z | z | z)
        · rw [z, m1] at f3; cases f3
        · rw [z, m2] at f3; cases f3
        · rw [z, m3] at f3; cases f3
      · rintro (z | z | z)
        · rw [z, m1] at f4; cases f4
        · rw [z, m2] at f4; cases f4
        · rw [z, m3] at f4; cases f4
      · rw [upd_ne fun z => hc (.inr (.inr z))]
        exact E14 _ _ (A12 c o hc h)
      · obtain ⟨x', y', z', h0, q⟩ := B12.ex E14
        exact ⟨x', y', z', h0, by rw [upd_ne (nb fq3 g3).symm]; exact q⟩
/-! alike or not -/
def sp_alike_l (Z : Adr) : Sp := fun vs H Q _ => ∃ (n m : Nd) (v u : V) (b : Bool), vs = [v, u, .bl b] ∧ NdAt Z H n v ∧ NdAt Z H m u ∧ NdB n ∧ NdB m ∧ (b = true ↔ n.dat = m.dat) ∧ ∀ H2, Ex H H2 → Q (.bl true) H2
theorem ok_alike_l (T : Txt K mg Z)  : FnG P w K mg base CX0 (10) Z.f_alike_l Z.fd_alike_l ["_law_one", "_law_other", "_law_due_here"] (sp_alike_l Z) := by
  have G_same_node := ok_same_node (P := P) (w := w) (base := base) T
  refine T.F_alike_l.okG sc_alike_l (fun vs H Q E h => ?_) (fun cdv AA outer s H vs Q E hgd hr h => ?_)
  · obtain ⟨n, m, v, u, b, rfl, _⟩ := h
    rfl
  · obtain ⟨n, m, v, u, b, rfl, hn, hm, bn, bm, hb, k⟩ := h
    refine ⟨_, (pss_cons (ps_set (i := 3) sc_alike_l.nd rfl (Or.inl rfl) (pe_lst (pa_cons (pe_callG hgd G_same_node (hr.mono (by omega)) rfl T.g_same_node T.F_same_node.kp T.b_same_node pass0 (pa_cons (pv 0) (pa_cons (pv 1) pa_nil))) (pa_cons (pe_callG hgd G_same_node (hr.mono (by omega)) rfl T.g_same_node T.F_same_node.kp T.b_same_node pass0 (pa_cons (pv 1) (pa_cons (pv 0) pa_nil))) pa_nil))))
      (pss_one (ps_ret (pe_cmpR (op_eqD hr.units) (pe_lc (own := [("_law_truth", 4)]) (g := (gName 4)) (tt := (tOr (tNot (tB (tCB (rIsi K) (tCons (tVar 4) (tCons (tC (.ty "bool")) tNil))))) (tTest (tOp rNe (tVar 4) (tVar 2))))) (te := (tVar 4)) rfl sc_alike_l.nd (pi_list (pv 3)) (blkOk_by (own := [("_law_truth", 4)]) (N := N_alike_l) (sc := defScope s_alike_l) (by decide +kernel)) (fun _ _ _ _ _ => (pg_name (i := 4) sc_alike_l.nd rfl (Or.inl rfl))) (fun _ _ _ _ _ => (pts_one (PW.pt (pw_or (pt_not (pt_val (pe_callB call_isi (by rfl) T.n_isinstance (by decide +kernel) (pa_cons (pv 4) (pa_cons (pe_bltn (v := .ty "bool") (by rfl) T.n_bool (by decide +kernel) rfl) pa_nil))))) (pw_or1 (pt_cmpR op_ne (pv 4) (pv 2) (nomark _))))))) (fun _ _ _ _ _ => (pv 4))) (pe_lst pa_nil) (nomark _))))), ?_⟩
    walk_at "ss"
    refine ⟨n, m, v, u, rfl, hn, hm, bn, bm, fun b1 hb1 H1 e1 => ?_⟩
    walk_at "ss"
    refine ⟨m, n, u, v, rfl, hm.up e1, hn.up e1, bm, bn, fun b2 hb2 H2 e2 => ?_⟩
    have h1 : b1 = b := Bool.eq_iff_iff.mpr (hb1.trans hb.symm)
    have h2 : b2 = b := Bool.eq_iff_iff.mpr (hb2.trans (Iff.trans ⟨Eq.symm, Eq.symm⟩ hb.symm))
    subst h1
    subst h2
    walk_at "ss"
    refine newL fun q3 H3 hq3 e3 g3 => ?_
    walk_at "ss"
    refine ⟨⟨_, SqL.of g3⟩, ?_⟩
    refine lcL (xs := [V.bl b2, V.bl b2]) (fun _ => none) (SqL.of g3) (by simp) (fun i x hx G2 f2 R hR => ?_) (fun cl G3 hcl f3 g4 => ?_)
    · have hxb : x = .bl b2 := by
        match i, hx with
        | 0, hx => cases hx; rfl
        | 1, hx => cases hx; rfl
        | i + 2, hx => simp at hx
      subst hxb
      walk_at "ss"
      refine isi (ty_bl _) kb_bb ?_
      walk_at "ss"
      rw [decide_eq_true rfl]
      walk_at "ss"
      exact hR _ (Ex.refl _)
    walk_at "ss"
    refine newL fun q5 H5 hq5 e5 g5 => ?_
    have hg4 : G3 cl = some (.lst []) := by rw [g4]; rfl
    refine c_eqLs (SqL.of (e5 _ _ hg4)) (SqL.of g5) rfl rfl ?_
    exact k _ (e1.trans (e2.trans (e3.trans (f3.trans e5))))

/-! ### the law -/
open TL (tl)
theorem NdAt.upB {b : Addr} {H G : Hp} {n : Nd} {v : V} (h : NdAt Z H n v) (x : ExB b H G) (hB : BoxAt H b) : NdAt Z G n v := by
  obtain ⟨a, dx, li, lo, lr, td, evs, us, h1, h2, h3, h4, h5, h6, h7, h8⟩ := h
  refine ⟨a, dx, li, lo, lr, td, evs, us, h1, x _ _ (box_ne hB h2 (fun _ _ _ z => by cases z)) h2, nb_strs hB h3 x, nb_strs hB h4 x, x _ _ (box_ne hB h5 (fun u w z e => ?_)) h5, x _ _ (box_ne hB h6 (fun _ _ _ z => by cases z)) h6, paired_up (fun r q h => h.it (NL.ins (NL.box x hB)) (NL.tups (NL.box x hB))) h7, h8⟩
  injection e with e
  subst e
  match us, h8 with
  | u1 :: us, _ =>
    rw [List.zip_cons_cons] at h7
    generalize n.rows = rs at h7
    cases h7 with
    | cons h _ =>
      obtain ⟨_, _, _, e, _⟩ := h.cls
      cases e
theorem more_good {n : Nd} {r : Rw} (g : n.good) (hr : r.good) (hk : r.kind ≠ 0) (hn : ∀ s ∈ r.names, s ∈ n.names) (ht : r.tells.Nodup) (ht2 : ∀ s ∈ r.tells, s ∉ n.names) (l : n.rows.length < 300) (l2 : n.names.length + r.tells.length ≤ 1000) : (n.more r).good := by
  have hnm : (n.more r).names = n.names ++ r.tells := by
    show n.ins ++ (n.rows ++ [r]).flatMap Rw.tells = _
    rw [flat_snoc, ← List.append_assoc]
    rfl
  exact {
    nm := g.nm, in0 := g.in0, in1 := g.in1, inG := g.inG, out0 := g.out0, out1 := g.out1, outN := g.outN
    outG := fun s hs => ⟨(g.outG s hs).1, by
      show s ∈ (n.rows ++ [r]).flatMap Rw.tells
      rw [flat_snoc]
      exact List.mem_append_left _ (g.outG s hs).2⟩
    all := by
      rw [hnm, List.nodup_append]
      exact ⟨g.all, ht, fun a ha c hc e => ht2 c hc (by rw [← e]; exact ha)⟩
    all1 := by rw [hnm, List.length_append]; exact l2
    row1 := by show (n.rows ++ [r]).length ≤ 300; rw [List.length_append, List.length_singleton]; omega
    row := fun z hz => by
      rcases List.mem_append.mp hz with h | h
      · exact ⟨(g.row z h).1, (g.row z h).2.1, fun s hs => by rw [hnm]; exact List.mem_append_left _ ((g.row z h).2.2 s hs)⟩
      · have : z = r := by simpa using h
        subst this
        exact ⟨hr, fun z => absurd z hk, fun s hs => by rw [hnm]; exact List.mem_append_left _ (hn s hs)⟩ }
theorem more_b {n : Nd} {r : Rw} (h : NdB n) (g : (n.more r).good) (hb : bulkR n.rows ≤ 800000) : NdB (n.more r) := by
  refine ⟨g, ?_, h.i, h.o⟩
  have hr : r.good := (g.row r (by show r ∈ n.rows ++ [r]; simp)).1
  have h1 := bulkR_le (rs := [r]) fun z hz => by have : z = r := by simpa using hz
                                                 rw [this]; exact hr
  show bulkR (n.rows ++ [r]) ≤ 900000
  rw [bulkR_app]
  simp only [List.length_singleton] at h1
  omega
theorem more_ne {n : Nd} {r : Rw} : n.dat ≠ (n.more r).dat := by
  intro e
  unfold Nd.dat Nd.more at e
  simp only [PyData.tuple.injEq, List.cons.injEq, and_true] at e
  have := congrArg List.length e.2.2.2
  rw [List.length_map, List.length_map, List.length_append, List.length_singleton] at this
  omega
theorem more_inj {n : Nd} {r s : Rw} (e : (n.more r).dat = (n.more s).dat) : r.data = s.data := by
  unfold Nd.dat Nd.more at e
  simp only [PyData.tuple.injEq, List.cons.injEq, and_true] at e
  have h := e.2.2.2
  rw [List.map_append, List.map_append] at h
  have h2 := List.append_cancel_left h
  rw [List.map_singleton, List.map_singleton] at h2
  exact (List.cons.inj h2).1

/-! ### the law (k34) -/
open TL (tl)
theorem kb_nsN : kitB "NoneType" "str" = some false := by decide +kernel
theorem kb_isN : kitB "int" "str" = some false := by decide +kernel
theorem kb_bsN : kitB "bool" "str" = some false := by decide +kernel
theorem kb_lsN : kitB "list" "str" = some false := by decide +kernel
theorem kb_tsN : kitB "tuple" "str" = some false := by decide +kernel
theorem kb_dsN : kitB "dict" "str" = some false := by decide +kernel
theorem ty_dkN {H : Hp} {a : Addr} {kvs : List (Key × V)} (h : H a = some (.dK kvs)) : TyX K H (.ref a) (.type "dict") := .base (.dK h)
theorem bad_names {H : Hp} {n : Nd} {ns : List Str} {p1 p2 p3 : Addr} (hn : n.names = ns) (hNs : NsOk ns) (g1 : H p1 = some (.tup [.str "a"])) (g2 : H p2 = some (.lst [.str "a"])) (g3 : H p3 = some (.dK [])) :
    ∀ x ∈ [V.str "", .str "q", .str "n", .str "a.b.c", .non, .int 0, .bl true, .ref p1, .ref p2, .ref p3], (∀ H2, Ex H H2 → BadNm K n H2 x) ∧ ∃ t, okV (.str t) = true ∧ ∀ H2, Ex H H2 → RpV K H2 x t := by
  have ra := rp_str (x := "a") (OkT.lit (by decide +kernel))
  have hstr : ∀ z : Str, tl z ∈ strN → z.length ≤ 80 → OkT z → (∀ H2, Ex H H2 → BadNm K n H2 (.str z)) ∧ ∃ t, okV (.str t) = true ∧ ∀ H2, Ex H H2 → RpV K H2 (.str z) t := fun z h1 h2 h3 =>
    ⟨fun H2 _ => .inl ⟨z, rfl, fun hz => hNs.2.2 z (by rw [← hn]; exact hz) h1⟩, _, okT_V (by rw [PyData.shown]; exact okT_repr h3), fun H2 e => ⟨.str z, .inl ⟨.str z, (rp_str h3).mono (by decide) (by omega)⟩, rfl⟩⟩
  intro x hx
  simp only [List.mem_cons, List.not_mem_nil, or_false] at hx
  rcases hx with rfl | rfl | rfl | rfl | rfl | rfl | rfl | rfl | rfl | rfl
  · exact hstr "" (by decide +kernel) (by decide +kernel) (OkT.lit (by decide +kernel))
  · exact hstr "q" (by decide +kernel) (by decide +kernel) (OkT.lit (by decide +kernel))
  · exact hstr "n" (by decide +kernel) (by decide +kernel) (OkT.lit (by decide +kernel))
  · exact hstr "a.b.c" (by decide +kernel) (by decide +kernel) (OkT.lit (by decide +kernel))
  · exact ⟨fun H2 _ => .inr ⟨_, ty_non, kb_nsN⟩, PyData.none.shown, okT_V (OkT.lit (by decide +kernel)), fun H2 e => ⟨.none, .inl ⟨.non, rp_non.mono (by decide) (by decide)⟩, rfl⟩⟩
  · exact ⟨fun H2 _ => .inr ⟨_, ty_int 0, kb_isN⟩, (PyData.int 0).shown, okT_V (OkT.lit (by decide +kernel)), fun H2 e => ⟨.int 0, .inl ⟨.int 0, (rp_int (by decide)).mono (by decide) (by decide)⟩, rfl⟩⟩
  · exact ⟨fun H2 _ => .inr ⟨_, ty_bl true, kb_bsN⟩, (PyData.bool true).shown, okT_V (OkT.lit (by decide +kernel)), fun H2 e => ⟨.bool true, .inl ⟨.bl true, (rp_bl true).mono (by decide) (by decide)⟩, rfl⟩⟩
  · exact ⟨fun H2 e => .inr ⟨_, ty_tup (e _ _ g1), kb_tsN⟩, (PyData.tuple [.str "a"]).shown, okT_V (OkT.lit (by decide +kernel)), fun H2 e => ⟨.tuple [.str "a"], .inl ⟨.tup (SqT.of (e _ _ g1)) (.cons (.str _) .nil), (rp_tup (rp_cons ra rp_nil)).mono (by decide) (by decide +kernel)⟩, rfl⟩⟩
  · exact ⟨fun H2 e => .inr ⟨_, ty_lst (e _ _ g2), kb_lsN⟩, (PyData.list [.str "a"]).shown, okT_V (OkT.lit (by decide +kernel)), fun H2 e => ⟨.list [.str "a"], .inl ⟨.lst (SqL.of (e _ _ g2)) (.cons (.str _) .nil), (rp_lst (rp_cons ra rp_nil)).mono (by decide) (by decide +kernel)⟩, rfl⟩⟩
  · exact ⟨fun H2 e => .inr ⟨_, ty_dkN (e _ _ g3), kb_dsN⟩, (PyData.dict []).shown, okT_V (OkT.lit (by decide +kernel)), fun H2 e => ⟨.dict [], .inr ⟨p3, rfl, e _ _ g3, rfl⟩, rfl⟩⟩
/-- what was made a turn ahead -/
def LastOk (Z : Adr) (H : Hp) (l : V) : Prop := l = .non ∨ ∃ q n p v, l = .ref q ∧ H q = some (.tup [v, .ref p]) ∧ NdAt Z H n v ∧ NdL H n p ∧ NdB n
theorem LastOk.up {H G : Hp} {l : V} (h : LastOk Z H l) (e : Ex H G) : LastOk Z G l := by
  rcases h with h | ⟨q, n, p, v, h1, h2, h3, h4, h5⟩
  · exact .inl h
  · exact .inr ⟨q, n, p, v, h1, e _ _ h2, h3.up e, h4.up e, h5⟩
theorem DrN.rows0 {ns : List Str} {n : Nd} (h : DrN ns n) : n.rows ≠ [] := by
  intro e
  have h0 := h.good.out0
  obtain ⟨s, hs⟩ := List.exists_mem_of_length_pos h0
  have := (h.good.outG s hs).2
  unfold Nd.told at this
  rw [e] at this
  cases this
theorem cut_snoc (us : List V) (x : V) : cutV (us ++ [x]) none (some (-1)) = us := by
  unfold cutV
  rw [HT.sIx_none, List.drop_zero, Nat.sub_zero, List.length_append, List.length_singleton]
  show List.take (if (-1 : Int) < 0 then ((-1 : Int) + ((us.length + 1 : Nat) : Int)).toNat else min (-1 : Int).toNat (us.length + 1)) _ = _
  rw [if_pos (by decide), show ((-1 : Int) + ((us.length + 1 : Nat) : Int)).toNat = us.length from by omega, List.take_left']
  rfl
theorem at2k {a b : Int} {c : Bool} : atI [V.int a, .int b] (if c = true then 1 else 0) = some (.int (if c = true then b else a)) := by cases c <;> rfl
theorem atTF {d : Int} (h0 : 0 ≤ d) (h1 : d < 2) : ∃ w : Bool, atI [V.bl true, .bl false] d = some (.bl w) := by
  have : d = 0 ∨ d = 1 := by omega
  rcases this with rfl | rfl
  · exact ⟨_, rfl⟩
  · exact ⟨_, rfl⟩
def sp_law (K : PySem.W.Frag) : Sp := fun vs H Q _ => ∃ (a : Addr) (ns : List Int), vs = [.ref a] ∧ SqL K H a (ns.map V.int) ∧ ns.length ≤ 63 ∧ ∀ H', Q (.bl true) H'
theorem ok_law (T : Txt K mg Z)  : FnG P w K mg base CX0 (40) Z.f_law Z.fd_law ["_law_script"] (sp_law K) := by
  have G_cell_at_l := ok_cell_at_l (P := P) (w := w) (base := base) T
  have G_box_l := ok_box_l (P := P) (w := w) (base := base) T
  have G_take_l := ok_take_l (P := P) (w := w) (base := base) T
  have G_names_l := ok_names_l (P := P) (w := w) (base := base) T
  have G_node_l := ok_node_l (P := P) (w := w) (base := base) T
  have G_made_l := ok_made_l (P := P) (w := w) (base := base) T
  have G_right_l := ok_right_l (P := P) (w := w) (base := base) T
  have G_changed_l := ok_changed_l (P := P) (w := w) (base := base) T
  have G_node_of := ok_node_of (P := P) (w := w) (base := base) T
  have G_due_l := ok_due_l (P := P) (w := w) (base := base) T
  have G_alike_l := ok_alike_l (P := P) (w := w) (base := base) T
  have G_unknown_l := ok_unknown_l (P := P) (w := w) (base := base) T
  have G_Node_init := ok_Node_init (P := P) (w := w) (base := base) T
  refine T.F_law.okG sc_law (fun vs H Q E h => ?_) (fun cdv AA outer s H vs Q E hgd hr h => ?_)
  · obtain ⟨a, ns, rfl, _⟩ := h
    rfl
  · obtain ⟨a, xs0, rfl, hS, hl, k⟩ := h
    have GMN_told := gmN_told (P := P) (w := w) (base := base) T
    refine ⟨_, (pss_cons (ps_set (i := 1) sc_law.nd rfl (Or.inl rfl) pe_non)
      (pss_cons (ps_for PassesOwn.never rfl (pi_range1 (by rfl) T.n_range (pa_cons (pe_callB (call_max2 rfl) (by rfl) T.n_max (by decide +kernel) (pa_cons pe_int (pa_cons (pe_callB (call_min2 rfl) (by rfl) T.n_min (by decide +kernel) (pa_cons pe_int (pa_cons (pe_callB call_len_seq (by rfl) T.n_len (by decide +kernel) (pa_cons (pv 0) pa_nil)) pa_nil))) pa_nil))) pa_nil)) (pg_name (i := 2) sc_law.nd rfl (Or.inl rfl)) (pss_cons (ps_set (i := 3) sc_law.nd rfl (Or.inl rfl) (pe_call G_box_l (hr.mono (by omega)) rfl T.g_box_l T.F_box_l.kp T.b_box_l .nil pass0 (pa_cons (pe_call G_cell_at_l (hr.mono (by omega)) rfl T.g_cell_at_l T.F_cell_at_l.kp T.b_cell_at_l .nil pass0 (pa_cons (pv 0) (pa_cons (pv 2) pa_nil))) pa_nil)))
      (pss_cons (ps_set (i := 4) sc_law.nd rfl (Or.inl rfl) (pe_ix ix_list (pe_lst (pa_cons (pe_op op_add pe_int (pe_call G_take_l (hr.mono (by omega)) rfl T.g_take_l T.F_take_l.kp T.b_take_l .nil pass0 (pa_cons (pv 3) (pa_cons pe_int pa_nil)))) (pa_cons (pe_op op_add pe_int (pe_call G_take_l (hr.mono (by omega)) rfl T.g_take_l T.F_take_l.kp T.b_take_l .nil pass0 (pa_cons (pv 3) (pa_cons pe_int pa_nil)))) pa_nil))) (pe_callTy call_int1 (by rfl) T.n_int (by decide +kernel) (pa_cons (pe_cmpR op_eq (pe_call G_take_l (hr.mono (by omega)) rfl T.g_take_l T.F_take_l.kp T.b_take_l .nil pass0 (pa_cons (pv 3) (pa_cons pe_int pa_nil))) pe_int (nomark _)) pa_nil)) (fun _ _ => rfl)))
      (pss_cons (ps_set (i := 5) sc_law.nd rfl (Or.inl rfl) (pe_call G_node_l (hr.mono (by omega)) rfl T.g_node_l T.F_node_l.kp T.b_node_l .nil pass0 (pa_cons (pv 3) (pa_cons (pe_call G_names_l (hr.mono (by omega)) rfl T.g_names_l T.F_names_l.kp T.b_names_l .nil pass0 (pa_cons (pv 3) (pa_cons (pv 4) pa_nil))) pa_nil))))
      (pss_cons (ps_set (i := 6) sc_law.nd rfl (Or.inr rfl) (pe_call G_made_l (hr.mono (by omega)) rfl T.g_made_l T.F_made_l.kp T.b_made_l .nil pass0 (pa_cons (pv 3) (pa_cons (pv 5) pa_nil))))
      (pss_cons (ps_if (PW.pt (pw_or (pt_cmpR op_isN (pv 6) pe_non (nomark _)) (pw_or1 (pt_not (pt_val (pe_callG hgd G_right_l (hr.mono (by omega)) rfl T.g_right_l T.F_right_l.kp T.b_right_l pass0 (pa_cons (pv 6) (pa_cons (pv 5) pa_nil)))))))) (pss_one (ps_ret pe_bl)) pss_nil)
      (pss_cons (ps_expr (pe_call G_changed_l (hr.mono (by omega)) rfl T.g_changed_l T.F_changed_l.kp T.b_changed_l .nil pass0 (pa_cons (pv 6) pa_nil)))
      (pss_cons (ps_set (i := 7) sc_law.nd rfl (Or.inl rfl) (pe_call G_node_of (hr.mono (by omega)) rfl T.g_node_of T.F_node_of.kp T.b_node_of .nil pass0 (pa_cons (pe_call G_due_l (hr.mono (by omega)) rfl T.g_due_l T.F_due_l.kp T.b_due_l .nil pass0 (pa_cons (pv 5) pa_nil)) pa_nil)))
      (pss_cons (ps_if (PW.pt (pw_or (pt_not (pt_val (pe_callG hgd G_right_l (hr.mono (by omega)) rfl T.g_right_l T.F_right_l.kp T.b_right_l pass0 (pa_cons (pv 6) (pa_cons (pv 5) pa_nil))))) (pw_or (pt_not (pt_val (pe_callG hgd G_right_l (hr.mono (by omega)) rfl T.g_right_l T.F_right_l.kp T.b_right_l pass0 (pa_cons (pv 7) (pa_cons (pv 5) pa_nil))))) (pw_or1 (pt_not (pt_val (pe_callG hgd G_alike_l (hr.mono (by omega)) rfl T.g_alike_l T.F_alike_l.kp T.b_alike_l pass0 (pa_cons (pv 6) (pa_cons (pv 7) (pa_cons pe_bl pa_nil)))))))))) (pss_one (ps_ret pe_bl)) pss_nil)
      (pss_cons (ps_set (i := 8) sc_law.nd rfl (Or.inl rfl) (pe_lst (pa_cons pe_str (pa_cons pe_str (pa_cons pe_str (pa_cons pe_str (pa_cons pe_non (pa_cons pe_int (pa_cons pe_bl (pa_cons (pe_tup (pa_cons pe_str pa_nil)) (pa_cons (pe_lst (pa_cons pe_str pa_nil)) (pa_cons pe_dnewK pa_nil))))))))))))
      (pss_cons (ps_if (pt_cmpR (op_neD hr.units) (pe_lc (own := [("_law_thing", 9)]) (g := (gName 9)) (tt := (tNot (tB (tCall (sp_unknown_l K Z) [] E0 (tCons (tVar 6) (tCons (tVar 9) tNil)))))) (te := (tVar 9)) rfl sc_law.nd (pi_list (pv 8)) (blkOk_by (own := [("_law_thing", 9)]) (N := N_law) (sc := defScope s_law) (by decide +kernel)) (fun _ _ _ _ _ => (pg_name (i := 9) sc_law.nd rfl (Or.inl rfl))) (fun _ _ _ _ _ => (pts_one (pt_not (pt_val (pe_callG hgd G_unknown_l (hr.mono (by omega)) rfl T.g_unknown_l T.F_unknown_l.kp T.b_unknown_l pass0 (pa_cons (pv 6) (pa_cons (pv 9) pa_nil))))))) (fun _ _ _ _ _ => (pv 9))) (pe_lst pa_nil) (nomark _)) (pss_one (ps_ret pe_bl)) pss_nil)
      (pss_cons (ps_set (i := 10) sc_law.nd rfl (Or.inl rfl) (pe_make ⟨(tcB_ok T.x_Node).makes, T.i_Node, T.y_Node_init, (tcB_ok T.x_Node).kp⟩ G_Node_init (hr.mono (by omega)) rfl T.m_Node T.b_Node_init .nil pass0 (pa_cons (pe_ix ix_list (pv 5) pe_int (fun _ _ => rfl)) (pa_cons (pe_ix ix_list (pv 5) pe_int (fun _ _ => rfl)) (pa_cons (pe_ix ix_list (pv 5) pe_int (fun _ _ => rfl)) (pa_cons (pe_op op_cat (pe_ix ix_list (pv 5) pe_int (fun _ _ => rfl)) (pe_lst (pa_cons (pe_tup (pa_cons pe_str (pa_cons (pe_tup (pa_cons (pe_ix ix_list (pe_ix ix_list (pv 5) pe_int (fun _ _ => rfl)) pe_int (fun _ _ => rfl)) (pa_cons (pe_ix ix_list (pe_ix ix_list (pv 5) pe_int (fun _ _ => rfl)) pe_int (fun _ _ => rfl)) pa_nil))) pa_nil))) pa_nil))) pa_nil))))))
      (pss_cons (ps_if (pt_not (pt_val (pe_callG hgd G_alike_l (hr.mono (by omega)) rfl T.g_alike_l T.F_alike_l.kp T.b_alike_l pass0 (pa_cons (pv 6) (pa_cons (pv 10) (pa_cons pe_bl pa_nil)))))) (pss_one (ps_ret pe_bl)) pss_nil)
      (pss_cons (ps_set (i := 11) sc_law.nd rfl (Or.inl rfl) (pe_ix ix_list (pe_lst (pa_cons pe_bl (pa_cons pe_bl pa_nil))) (pe_call G_take_l (hr.mono (by omega)) rfl T.g_take_l T.F_take_l.kp T.b_take_l .nil pass0 (pa_cons (pv 3) (pa_cons pe_int pa_nil))) (fun _ _ => rfl)))
      (pss_cons (ps_set (i := 12) sc_law.nd rfl (Or.inl rfl) (pe_op op_cat (pe_ix ix_list (pv 5) pe_int (fun _ _ => rfl)) (pe_lst (pa_cons (pe_tup (pa_cons pe_str (pa_cons pe_str (pa_cons (pv 11) (pa_cons (pe_ix ix_list (pe_ix ix_list (pv 5) pe_int (fun _ _ => rfl)) pe_int (fun _ _ => rfl)) pa_nil))))) pa_nil))))
      (pss_cons (ps_set (i := 13) sc_law.nd rfl (Or.inl rfl) (pe_make ⟨(tcB_ok T.x_Node).makes, T.i_Node, T.y_Node_init, (tcB_ok T.x_Node).kp⟩ G_Node_init (hr.mono (by omega)) rfl T.m_Node T.b_Node_init .nil pass0 (pa_cons (pe_ix ix_list (pv 5) pe_int (fun _ _ => rfl)) (pa_cons (pe_ix ix_list (pv 5) pe_int (fun _ _ => rfl)) (pa_cons (pe_ix ix_list (pv 5) pe_int (fun _ _ => rfl)) (pa_cons (pv 12) pa_nil))))))
      (pss_cons (ps_set (i := 14) sc_law.nd rfl (Or.inl rfl) (pe_make ⟨(tcB_ok T.x_Node).makes, T.i_Node, T.y_Node_init, (tcB_ok T.x_Node).kp⟩ G_Node_init (hr.mono (by omega)) rfl T.m_Node T.b_Node_init .nil pass0 (pa_cons (pe_ix ix_list (pv 5) pe_int (fun _ _ => rfl)) (pa_cons (pe_ix ix_list (pv 5) pe_int (fun _ _ => rfl)) (pa_cons (pe_ix ix_list (pv 5) pe_int (fun _ _ => rfl)) (pa_cons (pe_op op_cat (pe_slice sl_list (pv 12) po_none (po_some (pe_un un_neg pe_int))) (pe_lst (pa_cons (pe_tup (pa_cons pe_str (pa_cons pe_str (pa_cons (pe_callTy call_int1 (by rfl) T.n_int (by decide +kernel) (pa_cons (pv 11) pa_nil)) (pa_cons (pe_ix ix_list (pe_ix ix_list (pv 5) pe_int (fun _ _ => rfl)) pe_int (fun _ _ => rfl)) pa_nil))))) pa_nil))) pa_nil))))))
      (pss_cons (ps_if (PW.pt (pw_or (pt_not (pt_val (pe_callG hgd G_alike_l (hr.mono (by omega)) rfl T.g_alike_l T.F_alike_l.kp T.b_alike_l pass0 (pa_cons (pv 13) (pa_cons (pv 14) (pa_cons pe_bl pa_nil)))))) (pw_or1 (pt_not (pt_val (pe_callG hgd G_alike_l (hr.mono (by omega)) rfl T.g_alike_l T.F_alike_l.kp T.b_alike_l pass0 (pa_cons (pv 13) (pa_cons (pe_call G_node_of (hr.mono (by omega)) rfl T.g_node_of T.F_node_of.kp T.b_node_of .nil pass0 (pa_cons (pe_methP0 (pv 13) GMN_told (hr.mono (by omega)) pass0) pa_nil)) (pa_cons pe_bl pa_nil))))))))) (pss_one (ps_ret pe_bl)) pss_nil)
      (pss_cons (ps_if (PW.pt (pw_and (pt_cmpR op_notN (pv 1) pe_non (nomark _)) (pw_and1 (pt_not (pt_val (pe_callG hgd G_alike_l (hr.mono (by omega)) rfl T.g_alike_l T.F_alike_l.kp T.b_alike_l pass0 (pa_cons (pv 6) (pa_cons (pe_ix ix_tup (pv 1) pe_int (fun _ _ => rfl)) (pa_cons (pe_cmpR op_eq (pe_callB (call_reprD hgd hr) (by rfl) T.n_repr (by decide +kernel) (pa_cons (pe_ix ix_tup (pv 1) pe_int (fun _ _ => rfl)) pa_nil)) (pe_callB (call_reprD hgd hr) (by rfl) T.n_repr (by decide +kernel) (pa_cons (pv 5) pa_nil)) (nomark _)) pa_nil))))))))) (pss_one (ps_ret pe_bl)) pss_nil)
      (pss_one (ps_set (i := 1) sc_law.nd rfl (Or.inl rfl) (pe_tup (pa_cons (pv 6) (pa_cons (pv 5) pa_nil))))))))))))))))))))))))
      (pss_one (ps_ret pe_bl)))), ?_⟩
    walk_at "ss"
    refine ⟨_, _, rfl, .inl hS, ?_⟩
    walk_at "ss"
    refine ⟨_, _, rfl, ?_⟩
    walk_at "ss"
    refine ⟨_, _, rfl, ?_⟩
    walk_at "ss"
    refine ⟨by split <;> split <;> omega, by split <;> split <;> omega, ?_⟩
    refine forR (fun i σ' G => (∃ l v2 v3 v4 v5 v6 v7 v8 v9 v10 v11 v12 v13 v14, σ' = [some (.ref a), some l, v2, v3, v4, v5, v6, v7, v8, v9, v10, v11, v12, v13, v14] ∧ LastOk Z G l) ∧ Ex H G) ⟨⟨_, _, _, _, _, _, _, _, _, _, _, _, _, _, rfl, .inl rfl⟩, Ex.refl _⟩ ?_ ?_
    · rintro i σ' G hi ⟨⟨l, v2, v3, v4, v5, v6, v7, v8, v9, v10, v11, v12, v13, v14, rfl, hlast⟩, e⟩
      walk_at "ss"
      refine ⟨_, _, _, rfl, ex_l e hS, by omega, fun c0 => ?_⟩
      walk_at "ss"
      refine ⟨_, rfl, fun b G1 hbn f1 hB => ?_⟩
      walk_at "ss"
      refine ⟨b, 9, rfl, hB, by decide, by decide, fun d1 H1 d10 d11 x1 b1 => ?_⟩
      walk_at "ss"
      refine ⟨b, 198, rfl, b1, by decide, by decide, fun d2 H2 d20 d21 x2 b2 => ?_⟩
      walk_at "ss"
      refine newL fun ml H3 hml e3 g3 => ?_
      walk_at "ss"
      refine ⟨b, 8, rfl, b2.ex e3, by decide, by decide, fun d4 H4 d40 d41 x4 b4 => ?_⟩
      walk_at "ss"
      refine .inr ⟨_, rfl, ?_⟩
      refine c_ixL (SqL.of (x4 _ _ (by
        obtain ⟨ob, hob⟩ := b2.some
        exact (ne_of_none hob hml).symm) g3)) at2k ?_
      obtain ⟨m, hm, hm2, hm200⟩ : ∃ m : Nat, (if decide (V.int d4 = V.int 3) = true then 2 + d2 else 2 + d1) = ((m : Nat) : Int) ∧ 2 ≤ m ∧ m ≤ 200 := by
        split
        · exact ⟨(2 + d2).toNat, by omega, by omega, by omega⟩
        · exact ⟨(2 + d1).toNat, by omega, by omega, by omega⟩
      rw [hm]
      walk_at "ss"
      refine ⟨b, m, rfl, b4, hm200, fun ns np H5 hnl hNs hnp x5 b5 g5 => ?_⟩
      walk_at "ss"
      refine ⟨b, np, ns, rfl, b5, g5, hNs, by omega, by omega, fun n p H6 hD hL6 x6 b6 => ?_⟩
      have hb := hD.b
      have hg := hD.good
      walk_at "ss"
      refine ⟨b, n, p, rfl, b6, hL6, hb, fun v H7 hN7 x7 b7 => ?_⟩
      have hL7 := hL6.upB x7 b6
      obtain ⟨av, hav⟩ : ∃ a, v = .ref a := by
        obtain ⟨a, _, _, _, _, _, _, _, h, _⟩ := hN7
        exact ⟨a, h⟩
      subst hav
      walk_at "ss"
      refine if_ff (by rfl) ?_
      walk_at "ss"
      refine ⟨n, _, p, rfl, hN7, hL7, hb, fun H8 e8 => ?_⟩
      walk_at "ss"
      refine ⟨n, _, rfl, hN7.up e8, hg, hD.rows0, fun H9 e9 => ?_⟩
      walk_at "ss"
      have E9 := e8.trans e9
      refine ⟨n, p, rfl, hL7.up E9, fun u H10 e10 hT => ?_⟩
      walk_at "ss"
      refine ⟨u, n, rfl, hT, hg, fun v2 H11 e11 hF => ?_⟩
      have E11 := E9.trans (e10.trans e11)
      have hN2 := hF.at_
      walk_at "ss"
      refine ⟨n, _, p, rfl, hN7.up E11, hL7.up E11, hb, fun H12 e12 => ?_⟩
      walk_at "ss"
      refine ⟨n, _, p, rfl, hN2.up e12, hL7.up (E11.trans e12), hb, fun H13 e13 => ?_⟩
      walk_at "ss"
      have E13 := E11.trans (e12.trans e13)
      refine ⟨n, n, _, _, true, rfl, hN7.up E13, hN2.up (e12.trans e13), hb, hb, ⟨fun _ => rfl, fun _ => rfl⟩, fun H14 e14 => ?_⟩
      have E14 := E13.trans e14
      walk_at "ss"
      refine newT fun p1 H15 hp1 e15 g15 => ?_
      walk_at "ss"
      refine newL fun p2 H16 hp2 e16 g16 => ?_
      walk_at "ss"
      intro p3 hp3
      have e17 : Ex H16 (upd H16 p3 (.dK [])) := Ex.new hp3
      have g17 : upd H16 p3 (.dK []) p3 = some (.dK []) := upd_same
      generalize upd H16 p3 (.dK []) = H17 at e17 g17
      walk_at "ss"
      refine newL fun p4 H18 hp4 e18 g18 => ?_
      have E18 := E14.trans (e15.trans (e16.trans (e17.trans e18)))
      have hbads := bad_names (K := K) (H := H18) hD.names hNs ((e16.trans (e17.trans e18)) _ _ g15) ((e17.trans e18) _ _ g16) (e18 _ _ g17)
      walk_at "ss"
      refine ⟨⟨_, SqL.of g18⟩, ?_⟩
      refine lcL (fun _ => none) (SqL.of g18) (by simp) (fun j x hx G2 f2 R hR => ?_) (fun cl G3 hcl f3 g19 => ?_)
      · obtain ⟨hbad, t, ht, hrp⟩ := hbads x (List.mem_of_getElem? hx)
        walk_at "ss"
        refine ⟨n, _, x, t, rfl, hN7.up (E18.trans f2), hg, hbad _ f2, fun H2 e2 => hrp _ (f2.trans e2), ht, fun H2 e2 => ?_⟩
        walk_at "ss"
        exact hR _ e2
      have g19' : G3 cl = some (.lst []) := by rw [g19]; rfl
      have E19 := E18.trans f3
      walk_at "ss"
      refine newL fun q20 H20 hq20 e20 g20 => ?_
      refine c_neLs (SqL.of (e20 _ _ g19')) (SqL.of g20) rfl rfl ?_
      rw [show eqL ([] : List V) [] = true from rfl]
      walk_at "ss"
      have E20 := E19.trans e20
      have hL20 := hL7.up E20
      obtain ⟨pi, po, pr, ws, l1, l2, l3, l4, l5⟩ := id hL20
      obtain ⟨sa, ha⟩ : ∃ z, n.ins[0]? = some z := ⟨_, List.getElem?_eq_getElem hg.in0⟩
      obtain ⟨so, ho⟩ : ∃ z, n.outs[0]? = some z := ⟨_, List.getElem?_eq_getElem hg.out0⟩
      have hsaI := List.mem_of_getElem? ha
      have hsoO := List.mem_of_getElem? ho
      have hsaN : sa ∈ n.names := List.mem_append_left _ hsaI
      have hsoN : so ∈ n.names := List.mem_append_right _ (hg.outG so hsoO).2
      have hwl := paired_len l5
      have hr1 := hg.row1
      have hr224 := hD.r224
      have hnl : n.names.length ≤ 200 := by rw [hD.names]; omega
      refine c_ixL (SqL.of l1) rfl ?_
      walk_at "ss"
      refine c_ixL (SqL.of l1) rfl ?_
      walk_at "ss"
      refine c_ixL (SqL.of l1) rfl ?_
      walk_at "ss"
      refine c_ixL (SqL.of l1) rfl ?_
      walk_at "ss"
      refine c_ixL (SqL.of l1) rfl ?_
      walk_at "ss"
      refine c_ixL (SqL.of l2) (atI_nat (j := 0) (v := .str sa) (by rw [List.getElem?_map, ha]; rfl)) ?_
      walk_at "ss"
      refine c_ixL (SqL.of l1) rfl ?_
      walk_at "ss"
      refine c_ixL (SqL.of l3) (atI_nat (j := 0) (v := .str so) (by rw [List.getElem?_map, ho]; rfl)) ?_
      walk_at "ss"
      refine newT fun q21 H21 hq21 e21 g21 => ?_
      walk_at "ss"
      refine newT fun q22 H22 hq22 e22 g22 => ?_
      walk_at "ss"
      refine newL fun q23 H23 hq23 e23 g23 => ?_
      have E2023 := e21.trans (e22.trans e23)
      refine c_cat (E2023 _ _ l4) g23 (fun q24 H24 hq24 e24 g24 => ?_) (by rw [List.length_singleton]; omega)
      walk_at "ss"
      intro x1' dx1 hx1 hdx1 nxd1
      have hga : goodN sa := hg.inG sa hsaI
      have hgo : goodN so := (hg.outG so hsoO).1
      have G1' : (n.more (.sm [sa, so])).good := more_good hg ⟨by simp, by simp, fun s hs => by
        rcases List.mem_cons.mp hs with rfl | hs
        · exact hga
        · rw [List.mem_singleton.mp hs]; exact hgo⟩ (fun z => by cases z) (fun s hs => by
          have hs' := once_mem (show s ∈ once [sa, so] from hs)
          rcases List.mem_cons.mp hs' with rfl | hs'
          · exact hsaN
          · rw [List.mem_singleton.mp hs']; exact hsoN) List.nodup_nil (fun s hs => by cases hs) (by omega) (by show _ + 0 ≤ _; omega)
      have eM : Ex H24 (upd (upd H24 dx1 (.own x1')) x1' (.ins Z.c_Node dx1 [])) := fun c o hc => by rw [upd_ne (ne_of_none hc hx1), upd_ne (ne_of_none hc hdx1)]; exact hc
      have F24 := E2023.trans e24
      refine ⟨x1', dx1, n.more (.sm [sa, so]), pi, po, q24, ws ++ [V.ref q22], H24, true, true, true, rfl, upd_same, hx1, eM, F24 _ _ l2, F24 _ _ l3, g24, paired_snoc ⟨q22, q21, rfl, (e23.trans e24) _ _ g22, (e22.trans (e23.trans e24)) _ _ g21⟩ (paired_up (fun r u h => h.up F24) l5), G1', fun H25 e25 hNo => ⟨rfl, ?_⟩⟩
      walk_at "ss"
      have E25 := E20.trans (F24.trans e25)
      refine ⟨n, n.more (.sm [sa, so]), _, _, false, rfl, hN7.up E25, hNo.at_, hb, more_b hb G1' hD.bk, ⟨fun z => (nomatch z), fun z => absurd z more_ne⟩, fun H26 e26 => ?_⟩
      walk_at "ss"
      refine newL fun q27 H27 hq27 e27 g27 => ?_
      walk_at "ss"
      have E27 := E25.trans (e26.trans e27)
      have b27 := b7.ex E27
      refine ⟨b, 2, rfl, b27, by decide, by decide, fun d28 H28 h280 h281 x28 b28 => ?_⟩
      obtain ⟨wv, hwv⟩ := atTF h280 h281
      refine c_ixL (SqL.of (x28 _ _ (by
        obtain ⟨ob, hob⟩ := (b7.ex (E25.trans e26)).some
        exact (ne_of_none hob hq27).symm) g27)) hwv ?_
      have hN28 := (hN7.up E27).upB x28 b27
      have hL28 := (hL7.up E27).upB x28 b27
      clear l1 l2 l3 l4 l5 hwl F24 eM
      obtain ⟨pi, po, pr, ws, l1, l2, l3, l4, l5⟩ := id hL28
      have hwl := paired_len l5
      walk_at "ss"
      refine c_ixL (SqL.of l1) rfl ?_
      walk_at "ss"
      refine c_ixL (SqL.of l1) rfl ?_
      walk_at "ss"
      refine c_ixL (SqL.of l2) (atI_nat (j := 0) (v := .str sa) (by rw [List.getElem?_map, ha]; rfl)) ?_
      walk_at "ss"
      refine newT fun q29 H29 hq29 e29 g29 => ?_
      walk_at "ss"
      refine newL fun q30 H30 hq30 e30 g30 => ?_
      refine c_cat ((e29.trans e30) _ _ l4) g30 (fun q31 H31 hq31 e31 g31 => ?_) (by rw [List.length_singleton]; omega)
      have E31 := e29.trans (e30.trans e31)
      walk_at "ss"
      refine c_ixL (SqL.of (E31 _ _ l1)) rfl ?_
      walk_at "ss"
      refine c_ixL (SqL.of (E31 _ _ l1)) rfl ?_
      walk_at "ss"
      refine c_ixL (SqL.of (E31 _ _ l1)) rfl ?_
      walk_at "ss"
      intro x2' dx2 hx2 hdx2 nxd2
      have hfr : ("fresh" : Str) ∉ n.names := fun z => hNs.2.2 _ (by rw [← hD.names]; exact z) (by decide +kernel)
      have hgf : goodN "fresh" := ⟨by decide +kernel, by decide +kernel, OkT.lit (by decide +kernel)⟩
      have GV : ∀ u, isVal u = true → (n.more (.vd 2 "fresh" u sa)).good := fun u hu => more_good hg ⟨by decide, hgf, hu, hga⟩ (fun z => by cases z) (fun s hs => by
        have hs' : s = sa := by simpa [Rw.names] using hs
        rw [hs']
        exact hsaN) (by show List.Nodup [_]; simp) (fun s hs => by
        have hs' : s = "fresh" := by simpa [Rw.tells] using hs
        rw [hs']
        exact hfr) (by omega) (by show _ + 1 ≤ _; omega)
      have eM : Ex H31 (upd (upd H31 dx2 (.own x2')) x2' (.ins Z.c_Node dx2 [])) := fun c o hc => by rw [upd_ne (ne_of_none hc hx2), upd_ne (ne_of_none hc hdx2)]; exact hc
      refine ⟨x2', dx2, n.more (.vd 2 "fresh" (.bl wv) sa), pi, po, q31, ws ++ [V.ref q29], H31, true, true, true, rfl, upd_same, hx2, eM, E31 _ _ l2, E31 _ _ l3, g31, paired_snoc ⟨q29, rfl, (e30.trans e31) _ _ g29⟩ (paired_up (fun r u h => h.up E31) l5), GV _ rfl, fun H32 e32 hNt => ⟨rfl, ?_⟩⟩
      have E32 := E31.trans e32
      walk_at "ss"
      refine c_ixL (SqL.of (E32 _ _ l1)) rfl ?_
      walk_at "ss"
      refine c_ixL (SqL.of (E32 _ _ l1)) rfl ?_
      walk_at "ss"
      refine c_ixL (SqL.of (E32 _ _ l1)) rfl ?_
      walk_at "ss"
      refine ⟨q31, _, rfl, SqL.of (e32 _ _ g31), fun q33 hq33 => ?_⟩
      rw [cut_snoc]
      have e33 : Ex H32 (upd H32 q33 (.lst ws)) := Ex.new hq33
      have g33 : upd H32 q33 (.lst ws) q33 = some (.lst ws) := upd_same
      generalize upd H32 q33 (.lst ws) = H33 at e33 g33
      have E33 := E32.trans e33
      walk_at "ss"
      refine .inr ⟨_, rfl, ?_⟩
      walk_at "ss"
      refine c_ixL (SqL.of (E33 _ _ l1)) rfl ?_
      walk_at "ss"
      refine c_ixL (SqL.of (E33 _ _ l2)) (atI_nat (j := 0) (v := .str sa) (by rw [List.getElem?_map, ha]; rfl)) ?_
      walk_at "ss"
      refine newT fun q34 H34 hq34 e34 g34 => ?_
      walk_at "ss"
      refine newL fun q35 H35 hq35 e35 g35 => ?_
      refine c_cat ((e34.trans e35) _ _ g33) g35 (fun q36 H36 hq36 e36 g36 => ?_) (by rw [List.length_singleton]; omega)
      have E36 := E33.trans (e34.trans (e35.trans e36))
      walk_at "ss"
      intro x3' dx3 hx3 hdx3 nxd3
      have eM3 : Ex H36 (upd (upd H36 dx3 (.own x3')) x3' (.ins Z.c_Node dx3 [])) := fun c o hc => by rw [upd_ne (ne_of_none hc hx3), upd_ne (ne_of_none hc hdx3)]; exact hc
      refine ⟨x3', dx3, n.more (.vd 2 "fresh" (.int (if wv = true then 1 else 0)) sa), pi, po, q36, ws ++ [V.ref q34], H36, true, true, true, rfl, upd_same, hx3, eM3, E36 _ _ l2, E36 _ _ l3, g36, paired_snoc ⟨q34, rfl, (e35.trans e36) _ _ g34⟩ (paired_up (fun r u h => h.up E36) l5), GV _ (by cases wv <;> rfl), fun H37 e37 hNn => ⟨rfl, ?_⟩⟩
      have F3237 := e33.trans (e34.trans (e35.trans (e36.trans e37)))
      walk_at "ss"
      refine ⟨n.more (.vd 2 "fresh" (.bl wv) sa), n.more (.vd 2 "fresh" (.int (if wv = true then 1 else 0)) sa), _, _, false, rfl, hNt.at_.up F3237, hNn.at_, more_b hb (GV _ rfl) hD.bk, more_b hb (GV _ (by cases wv <;> rfl)) hD.bk, ⟨fun z => (nomatch z), fun z => ?_⟩, fun H38 e38 => ?_⟩
      · have := more_inj z
        simp [Rw.data, valD] at this
      walk_at "ss"
      have hNt38 := (hNt.at_.up F3237).up e38
      obtain ⟨dx, fs, hxt, lat⟩ : ∃ dx fs, H38 x2' = some (.ins Z.c_Node dx fs) ∧ fs.lookup ("told" : Str) = none := by
        obtain ⟨a, dx, li, lo, lr, td, evs, us, e, h1, _⟩ := id hNt38
        cases e
        exact ⟨dx, _, h1, rfl⟩
      refine ⟨x2', _, dx, _, rfl, hxt, rfl, lat, ?_⟩
      walk_at "ss"
      refine ⟨_, _, rfl, hNt38, GV _ rfl, fun u39 H39 e39 hT39 => ?_⟩
      walk_at "ss"
      refine ⟨_, _, rfl, hT39, GV _ rfl, fun v40 H40 e40 hF40 => ?_⟩
      walk_at "ss"
      refine ⟨_, _, _, _, true, rfl, hNt38.up (e39.trans e40), hF40.at_, more_b hb (GV _ rfl) hD.bk, more_b hb (GV _ rfl) hD.bk, ⟨fun _ => rfl, fun _ => rfl⟩, fun H41 e41 => ?_⟩
      walk_at "ss"
      have E41 := E32.trans (F3237.trans (e38.trans (e39.trans (e40.trans e41))))
      have XA : ExB b G1 H41 := x1.trans (x2.trans ((ExB.of e3).trans (x4.trans (x5.trans (x6.trans (x7.trans ((ExB.of E27).trans (x28.trans (ExB.of E41)))))))))
      have EG : Ex G H41 := ExB.tot f1 hbn XA
      have hN41 := hN28.up E41
      have hL41 := hL28.up E41
      rcases hlast with rfl | ⟨ql, n', p', v', rfl, hql, hN', hL', hb'⟩
      · walk_at "ss"
        refine if_ff (by rfl) ?_
        walk_at "ss"
        refine newT fun q50 H50 hq50 e50 g50 => ?_
        walk_at "ss"
        exact ⟨⟨_, _, _, _, _, _, _, _, _, _, _, _, _, _, rfl, .inr ⟨q50, n, p, _, rfl, g50, hN41.up e50, hL41.up e50, hb⟩⟩, e.trans (EG.trans e50)⟩
      · have hl41 := EG _ _ hql
        have hN'41 := hN'.up EG
        have hL'41 := hL'.up EG
        refine if_tt (by rfl) ?_
        walk_at "ss"
        refine c_ixT (SqT.of hl41) at_hd ?_
        walk_at "ss"
        refine c_ixT (SqT.of hl41) at_1 ?_
        walk_at "ss"
        refine c_repr (hL'41.dp hb') hb'.rpl ?_ (by decide) (by decide)
        walk_at "ss"
        refine c_repr (hL41.dp hb) hb.rpl ?_ (by decide) (by decide)
        walk_at "ss"
        refine ⟨n, n', _, v', _, rfl, hN41, hN'41, hb, hb', (shown_ldat hb' hb).trans ⟨Eq.symm, Eq.symm⟩, fun H49 e49 => ?_⟩
        walk_at "ss"
        refine newT fun q50 H50 hq50 e50 g50 => ?_
        walk_at "ss"
        have e4950 := e49.trans e50
        exact ⟨⟨_, _, _, _, _, _, _, _, _, _, _, _, _, _, rfl, .inr ⟨q50, n, p, _, rfl, g50, hN41.up e4950, hL41.up e4950, hb⟩⟩, e.trans (EG.trans e4950)⟩
    · rintro σ' G ⟨⟨l, v2, v3, v4, v5, v6, v7, v8, v9, v10, v11, v12, v13, v14, rfl, hlast⟩, e⟩
      walk_at "ss"
      exact k _

end
theorem facts2 {P : Program} {w : World} {K : PySem.W.Frag} {h : Heap} {mg : Str → Option Value} {fa : Addr} (X : K.In h) (G : h.Ns mainGlobals mg) (hfa : mg "law" = some (.ref fa)) (c : He.SaysD faL fnL K) (hex : (exs K).all id = true) : ∃ fd : FuncData, (∀ (s : Shared) (v : Value), BindsTo s fd ⟨[v], []⟩ [("_law_script", v)]) ∧ ∀ base : Heap, K.In base → base.Ns mainGlobals mg → FnG P w K mg base CX0 40 fa fd ["_law_script"] (sp_law K) := by
  obtain ⟨fd0, D0⟩ := c.def_ 0 (d := d_NoName_init) rfl
  have F0 : Fun K "__init__" "NoName.__init__" s_NoName_init (He.fAd K ("NoName", some "__init__")) fd0 := fun_ofD D0
  have b0 := F0.binds (ps := ["self", "found"]) fun _ _ _ _ _ _ us hl => match us, hl with | [_, _], _ => rfl
  obtain ⟨fd1, D1⟩ := c.def_ 1 (d := d_Unknown_init) rfl
  have F1 : Fun K "__init__" "Unknown.__init__" s_Unknown_init (He.fAd K ("Unknown", some "__init__")) fd1 := fun_ofD D1
  have b1 := F1.binds (ps := ["self", "name"]) fun _ _ _ _ _ _ us hl => match us, hl with | [_, _], _ => rfl
  obtain ⟨fd2, D2⟩ := c.def_ 2 (d := d_is_whole) rfl
  have F2 : Fun K "is_whole" "is_whole" s_is_whole (He.fAd K ("is_whole", none)) fd2 := fun_ofD D2
  have b2 := F2.binds (ps := ["thing"]) fun _ _ _ _ _ _ us hl => match us, hl with | [_], _ => rfl
  obtain ⟨fd3, D3⟩ := c.def_ 3 (d := d_is_within) rfl
  have F3 : Fun K "is_within" "is_within" s_is_within (He.fAd K ("is_within", none)) fd3 := fun_ofD D3
  have b3 := F3.binds (ps := ["thing", "low", "high"]) fun _ _ _ _ _ _ us hl => match us, hl with | [_, _, _], _ => rfl
  obtain ⟨fd4, D4⟩ := c.def_ 4 (d := d_is_name) rfl
  have F4 : Fun K "is_name" "is_name" s_is_name (He.fAd K ("is_name", none)) fd4 := fun_ofD D4
  have b4 := F4.binds (ps := ["thing"]) fun _ _ _ _ _ _ us hl => match us, hl with | [_], _ => rfl
  obtain ⟨fd5, D5⟩ := c.def_ 5 (d := d_is_pointed) rfl
  have F5 : Fun K "is_pointed" "is_pointed" s_is_pointed (He.fAd K ("is_pointed", none)) fd5 := fun_ofD D5
  have b5 := F5.binds (ps := ["thing"]) fun _ _ _ _ _ _ us hl => match us, hl with | [_], _ => rfl
  obtain ⟨fd6, D6⟩ := c.def_ 6 (d := d_is_value) rfl
  have F6 : Fun K "is_value" "is_value" s_is_value (He.fAd K ("is_value", none)) fd6 := fun_ofD D6
  have b6 := F6.binds (ps := ["thing"]) fun _ _ _ _ _ _ us hl => match us, hl with | [_], _ => rfl
  obtain ⟨fd7, D7⟩ := c.def_ 7 (d := d_ops_told) rfl
  have F7 : Fun K "ops_told" "ops_told" s_ops_told (He.fAd K ("ops_told", none)) fd7 := fun_ofD D7
  have b7 := F7.binds (ps := []) fun _ _ _ _ _ _ us hl => match us, hl with | [], _ => rfl
  obtain ⟨fd8, D8⟩ := c.def_ 8 (d := d_Term_parts) rfl
  have F8 : Fun K "parts" "Term.parts" s_Term_parts (He.fAd K ("Term", some "parts")) fd8 := fun_ofD D8
  have b8 := F8.binds (ps := ["self"]) fun _ _ _ _ _ _ us hl => match us, hl with | [_], _ => rfl
  obtain ⟨fd9, D9⟩ := c.def_ 9 (d := d_Term_names) rfl
  have F9 : Fun K "names" "Term.names" s_Term_names (He.fAd K ("Term", some "names")) fd9 := fun_ofD D9
  have b9 := F9.binds (ps := ["self"]) fun _ _ _ _ _ _ us hl => match us, hl with | [_], _ => rfl
  obtain ⟨fd10, D10⟩ := c.def_ 10 (d := d_Term_levels) rfl
  have F10 : Fun K "levels" "Term.levels" s_Term_levels (He.fAd K ("Term", some "levels")) fd10 := fun_ofD D10
  have b10 := F10.binds (ps := ["self"]) fun _ _ _ _ _ _ us hl => match us, hl with | [_], _ => rfl
  obtain ⟨fd11, D11⟩ := c.def_ 11 (d := d_need_term) rfl
  have F11 : Fun K "need_term" "need_term" s_need_term (He.fAd K ("need_term", none)) fd11 := fun_ofD D11
  have b11 := F11.binds (ps := ["thing"]) fun _ _ _ _ _ _ us hl => match us, hl with | [_], _ => rfl
  obtain ⟨fd12, D12⟩ := c.def_ 12 (d := d_Name_init) rfl
  have F12 : Fun K "__init__" "Name.__init__" s_Name_init (He.fAd K ("Name", some "__init__")) fd12 := fun_ofD D12
  have b12 := F12.binds (ps := ["self", "name"]) fun _ _ _ _ _ _ us hl => match us, hl with | [_, _], _ => rfl
  obtain ⟨fd13, D13⟩ := c.def_ 13 (d := d_Name_names) rfl
  have F13 : Fun K "names" "Name.names" s_Name_names (He.fAd K ("Name", some "names")) fd13 := fun_ofD D13
  have b13 := F13.binds (ps := ["self"]) fun _ _ _ _ _ _ us hl => match us, hl with | [_], _ => rfl
  obtain ⟨fd14, D14⟩ := c.def_ 14 (d := d_Name_told) rfl
  have F14 : Fun K "told" "Name.told" s_Name_told (He.fAd K ("Name", some "told")) fd14 := fun_ofD D14
  have b14 := F14.binds (ps := ["self"]) fun _ _ _ _ _ _ us hl => match us, hl with | [_], _ => rfl
  obtain ⟨fd15, D15⟩ := c.def_ 15 (d := d_Value_init) rfl
  have F15 : Fun K "__init__" "Value.__init__" s_Value_init (He.fAd K ("Value", some "__init__")) fd15 := fun_ofD D15
  have b15 := F15.binds (ps := ["self", "value"]) fun _ _ _ _ _ _ us hl => match us, hl with | [_, _], _ => rfl
  obtain ⟨fd16, D16⟩ := c.def_ 16 (d := d_Value_told) rfl
  have F16 : Fun K "told" "Value.told" s_Value_told (He.fAd K ("Value", some "told")) fd16 := fun_ofD D16
  have b16 := F16.binds (ps := ["self"]) fun _ _ _ _ _ _ us hl => match us, hl with | [_], _ => rfl
  obtain ⟨fd17, D17⟩ := c.def_ 17 (d := d_Two_init) rfl
  have F17 : Fun K "__init__" "Two.__init__" s_Two_init (He.fAd K ("Two", some "__init__")) fd17 := fun_ofD D17
  have b17 := F17.binds (ps := ["self", "op", "one", "other"]) fun _ _ _ _ _ _ us hl => match us, hl with | [_, _, _, _], _ => rfl
  obtain ⟨fd18, D18⟩ := c.def_ 18 (d := d_Two_parts) rfl
  have F18 : Fun K "parts" "Two.parts" s_Two_parts (He.fAd K ("Two", some "parts")) fd18 := fun_ofD D18
  have b18 := F18.binds (ps := ["self"]) fun _ _ _ _ _ _ us hl => match us, hl with | [_], _ => rfl
  obtain ⟨fd19, D19⟩ := c.def_ 19 (d := d_Two_told) rfl
  have F19 : Fun K "told" "Two.told" s_Two_told (He.fAd K ("Two", some "told")) fd19 := fun_ofD D19
  have b19 := F19.binds (ps := ["self"]) fun _ _ _ _ _ _ us hl => match us, hl with | [_], _ => rfl
  obtain ⟨fd20, D20⟩ := c.def_ 20 (d := d_Not_init) rfl
  have F20 : Fun K "__init__" "Not.__init__" s_Not_init (He.fAd K ("Not", some "__init__")) fd20 := fun_ofD D20
  have b20 := F20.binds (ps := ["self", "one"]) fun _ _ _ _ _ _ us hl => match us, hl with | [_, _], _ => rfl
  obtain ⟨fd21, D21⟩ := c.def_ 21 (d := d_Not_parts) rfl
  have F21 : Fun K "parts" "Not.parts" s_Not_parts (He.fAd K ("Not", some "parts")) fd21 := fun_ofD D21
  have b21 := F21.binds (ps := ["self"]) fun _ _ _ _ _ _ us hl => match us, hl with | [_], _ => rfl
  obtain ⟨fd22, D22⟩ := c.def_ 22 (d := d_Not_told) rfl
  have F22 : Fun K "told" "Not.told" s_Not_told (He.fAd K ("Not", some "told")) fd22 := fun_ofD D22
  have b22 := F22.binds (ps := ["self"]) fun _ _ _ _ _ _ us hl => match us, hl with | [_], _ => rfl
  obtain ⟨fd23, D23⟩ := c.def_ 23 (d := d_Pick_init) rfl
  have F23 : Fun K "__init__" "Pick.__init__" s_Pick_init (He.fAd K ("Pick", some "__init__")) fd23 := fun_ofD D23
  have b23 := F23.binds (ps := ["self", "by", "one", "other"]) fun _ _ _ _ _ _ us hl => match us, hl with | [_, _, _, _], _ => rfl
  obtain ⟨fd24, D24⟩ := c.def_ 24 (d := d_Pick_parts) rfl
  have F24 : Fun K "parts" "Pick.parts" s_Pick_parts (He.fAd K ("Pick", some "parts")) fd24 := fun_ofD D24
  have b24 := F24.binds (ps := ["self"]) fun _ _ _ _ _ _ us hl => match us, hl with | [_], _ => rfl
  obtain ⟨fd25, D25⟩ := c.def_ 25 (d := d_Pick_told) rfl
  have F25 : Fun K "told" "Pick.told" s_Pick_told (He.fAd K ("Pick", some "told")) fd25 := fun_ofD D25
  have b25 := F25.binds (ps := ["self"]) fun _ _ _ _ _ _ us hl => match us, hl with | [_], _ => rfl
  obtain ⟨fd26, D26⟩ := c.def_ 26 (d := d_simple_of) rfl
  have F26 : Fun K "simple_of" "simple_of" s_simple_of (He.fAd K ("simple_of", none)) fd26 := fun_ofD D26
  have b26 := F26.binds (ps := ["word", "thing"]) fun _ _ _ _ _ _ us hl => match us, hl with | [_, _], _ => rfl
  obtain ⟨fd27, D27⟩ := c.def_ 27 (d := d_made_of_told) rfl
  have F27 : Fun K "made_of_told" "made_of_told" s_made_of_told (He.fAd K ("made_of_told", none)) fd27 := fun_ofD D27
  have b27 := F27.binds (ps := ["told", "left"]) fun _ _ _ _ _ _ us hl => match us, hl with | [_, _], _ => rfl
  obtain ⟨fd28, D28⟩ := c.def_ 28 (d := d_term_of) rfl
  have F28 : Fun K "term_of" "term_of" s_term_of (He.fAd K ("term_of", none)) fd28 := fun_ofD D28
  have b28 := F28.binds (ps := ["told"]) fun _ _ _ _ _ _ us hl => match us, hl with | [_], _ => rfl
  obtain ⟨fd29, D29⟩ := c.def_ 29 (d := d_each_once) rfl
  have F29 : Fun K "each_once" "each_once" s_each_once (He.fAd K ("each_once", none)) fd29 := fun_ofD D29
  have b29 := F29.binds (ps := ["names"]) fun _ _ _ _ _ _ us hl => match us, hl with | [_], _ => rfl
  obtain ⟨fd30, D30⟩ := c.def_ 30 (d := d_Equation_init) rfl
  have F30 : Fun K "__init__" "Equation.__init__" s_Equation_init (He.fAd K ("Equation", some "__init__")) fd30 := fun_ofD D30
  have b30 := F30.binds (ps := ["self", "row"]) fun _ _ _ _ _ _ us hl => match us, hl with | [_, _], _ => rfl
  obtain ⟨fd31, D31⟩ := c.def_ 31 (d := d_Equation_told) rfl
  have F31 : Fun K "told" "Equation.told" s_Equation_told (He.fAd K ("Equation", some "told")) fd31 := fun_ofD D31
  have b31 := F31.binds (ps := ["self"]) fun _ _ _ _ _ _ us hl => match us, hl with | [_], _ => rfl
  obtain ⟨fd32, D32⟩ := c.def_ 32 (d := d_Equation_tells) rfl
  have F32 : Fun K "tells" "Equation.tells" s_Equation_tells (He.fAd K ("Equation", some "tells")) fd32 := fun_ofD D32
  have b32 := F32.binds (ps := ["self"]) fun _ _ _ _ _ _ us hl => match us, hl with | [_], _ => rfl
  obtain ⟨fd33, D33⟩ := c.def_ 33 (d := d_Equation_names) rfl
  have F33 : Fun K "names" "Equation.names" s_Equation_names (He.fAd K ("Equation", some "names")) fd33 := fun_ofD D33
  have b33 := F33.binds (ps := ["self"]) fun _ _ _ _ _ _ us hl => match us, hl with | [_], _ => rfl
  obtain ⟨fd34, D34⟩ := c.def_ 34 (d := d_Equation_term) rfl
  have F34 : Fun K "term" "Equation.term" s_Equation_term (He.fAd K ("Equation", some "term")) fd34 := fun_ofD D34
  have b34 := F34.binds (ps := ["self"]) fun _ _ _ _ _ _ us hl => match us, hl with | [_], _ => rfl
  obtain ⟨fd35, D35⟩ := c.def_ 35 (d := d_Equation_is_call) rfl
  have F35 : Fun K "is_call" "Equation.is_call" s_Equation_is_call (He.fAd K ("Equation", some "is_call")) fd35 := fun_ofD D35
  have b35 := F35.binds (ps := ["self"]) fun _ _ _ _ _ _ us hl => match us, hl with | [_], _ => rfl
  obtain ⟨fd36, D36⟩ := c.def_ 36 (d := d_Plain_init) rfl
  have F36 : Fun K "__init__" "Plain.__init__" s_Plain_init (He.fAd K ("Plain", some "__init__")) fd36 := fun_ofD D36
  have b36 := F36.binds (ps := ["self", "row"]) fun _ _ _ _ _ _ us hl => match us, hl with | [_, _], _ => rfl
  obtain ⟨fd37, D37⟩ := c.def_ 37 (d := d_Plain_names) rfl
  have F37 : Fun K "names" "Plain.names" s_Plain_names (He.fAd K ("Plain", some "names")) fd37 := fun_ofD D37
  have b37 := F37.binds (ps := ["self"]) fun _ _ _ _ _ _ us hl => match us, hl with | [_], _ => rfl
  obtain ⟨fd38, D38⟩ := c.def_ 38 (d := d_Plain_term) rfl
  have F38 : Fun K "term" "Plain.term" s_Plain_term (He.fAd K ("Plain", some "term")) fd38 := fun_ofD D38
  have b38 := F38.binds (ps := ["self"]) fun _ _ _ _ _ _ us hl => match us, hl with | [_], _ => rfl
  obtain ⟨fd39, D39⟩ := c.def_ 39 (d := d_When_names) rfl
  have F39 : Fun K "names" "When.names" s_When_names (He.fAd K ("When", some "names")) fd39 := fun_ofD D39
  have b39 := F39.binds (ps := ["self"]) fun _ _ _ _ _ _ us hl => match us, hl with | [_], _ => rfl
  obtain ⟨fd40, D40⟩ := c.def_ 40 (d := d_Same_tells) rfl
  have F40 : Fun K "tells" "Same.tells" s_Same_tells (He.fAd K ("Same", some "tells")) fd40 := fun_ofD D40
  have b40 := F40.binds (ps := ["self"]) fun _ _ _ _ _ _ us hl => match us, hl with | [_], _ => rfl
  obtain ⟨fd41, D41⟩ := c.def_ 41 (d := d_Same_names) rfl
  have F41 : Fun K "names" "Same.names" s_Same_names (He.fAd K ("Same", some "names")) fd41 := fun_ofD D41
  have b41 := F41.binds (ps := ["self"]) fun _ _ _ _ _ _ us hl => match us, hl with | [_], _ => rfl
  obtain ⟨fd42, D42⟩ := c.def_ 42 (d := d_Call_tells) rfl
  have F42 : Fun K "tells" "Call.tells" s_Call_tells (He.fAd K ("Call", some "tells")) fd42 := fun_ofD D42
  have b42 := F42.binds (ps := ["self"]) fun _ _ _ _ _ _ us hl => match us, hl with | [_], _ => rfl
  obtain ⟨fd43, D43⟩ := c.def_ 43 (d := d_Call_names) rfl
  have F43 : Fun K "names" "Call.names" s_Call_names (He.fAd K ("Call", some "names")) fd43 := fun_ofD D43
  have b43 := F43.binds (ps := ["self"]) fun _ _ _ _ _ _ us hl => match us, hl with | [_], _ => rfl
  obtain ⟨fd44, D44⟩ := c.def_ 44 (d := d_Call_is_call) rfl
  have F44 : Fun K "is_call" "Call.is_call" s_Call_is_call (He.fAd K ("Call", some "is_call")) fd44 := fun_ofD D44
  have b44 := F44.binds (ps := ["self"]) fun _ _ _ _ _ _ us hl => match us, hl with | [_], _ => rfl
  obtain ⟨fd45, D45⟩ := c.def_ 45 (d := d_are_pointed) rfl
  have F45 : Fun K "are_pointed" "are_pointed" s_are_pointed (He.fAd K ("are_pointed", none)) fd45 := fun_ofD D45
  have b45 := F45.binds (ps := ["thing", "least"]) fun _ _ _ _ _ _ us hl => match us, hl with | [_, _], _ => rfl
  obtain ⟨fd46, D46⟩ := c.def_ 46 (d := d_is_valued) rfl
  have F46 : Fun K "is_valued" "is_valued" s_is_valued (He.fAd K ("is_valued", none)) fd46 := fun_ofD D46
  have b46 := F46.binds (ps := ["row"]) fun _ _ _ _ _ _ us hl => match us, hl with | [_], _ => rfl
  obtain ⟨fd47, D47⟩ := c.def_ 47 (d := d_plain_of) rfl
  have F47 : Fun K "plain_of" "plain_of" s_plain_of (He.fAd K ("plain_of", none)) fd47 := fun_ofD D47
  have b47 := F47.binds (ps := ["row"]) fun _ _ _ _ _ _ us hl => match us, hl with | [_], _ => rfl
  obtain ⟨fd48, D48⟩ := c.def_ 48 (d := d_valued_of) rfl
  have F48 : Fun K "valued_of" "valued_of" s_valued_of (He.fAd K ("valued_of", none)) fd48 := fun_ofD D48
  have b48 := F48.binds (ps := ["row"]) fun _ _ _ _ _ _ us hl => match us, hl with | [_], _ => rfl
  obtain ⟨fd49, D49⟩ := c.def_ 49 (d := d_call_of) rfl
  have F49 : Fun K "call_of" "call_of" s_call_of (He.fAd K ("call_of", none)) fd49 := fun_ofD D49
  have b49 := F49.binds (ps := ["row"]) fun _ _ _ _ _ _ us hl => match us, hl with | [_], _ => rfl
  obtain ⟨fd50, D50⟩ := c.def_ 50 (d := d_made_of) rfl
  have F50 : Fun K "made_of" "made_of" s_made_of (He.fAd K ("made_of", none)) fd50 := fun_ofD D50
  have b50 := F50.binds (ps := ["row"]) fun _ _ _ _ _ _ us hl => match us, hl with | [_], _ => rfl
  obtain ⟨fd51, D51⟩ := c.def_ 51 (d := d_equation_of) rfl
  have F51 : Fun K "equation_of" "equation_of" s_equation_of (He.fAd K ("equation_of", none)) fd51 := fun_ofD D51
  have b51 := F51.binds (ps := ["told"]) fun _ _ _ _ _ _ us hl => match us, hl with | [_], _ => rfl
  obtain ⟨fd52, D52⟩ := c.def_ 52 (d := d_need_names) rfl
  have F52 : Fun K "need_names" "need_names" s_need_names (He.fAd K ("need_names", none)) fd52 := fun_ofD D52
  have b52 := F52.binds (ps := ["things"]) fun _ _ _ _ _ _ us hl => match us, hl with | [_], _ => rfl
  obtain ⟨fd53, D53⟩ := c.def_ 53 (d := d_equations_of) rfl
  have F53 : Fun K "equations_of" "equations_of" s_equations_of (He.fAd K ("equations_of", none)) fd53 := fun_ofD D53
  have b53 := F53.binds (ps := ["rows"]) fun _ _ _ _ _ _ us hl => match us, hl with | [_], _ => rfl
  obtain ⟨fd54, D54⟩ := c.def_ 54 (d := d_Node_init) rfl
  have F54 : Fun K "__init__" "Node.__init__" s_Node_init (He.fAd K ("Node", some "__init__")) fd54 := fun_ofD D54
  have b54 := F54.binds (ps := ["self", "name", "inputs", "outs", "rows"]) fun _ _ _ _ _ _ us hl => match us, hl with | [_, _, _, _, _], _ => rfl
  obtain ⟨fd55, D55⟩ := c.def_ 55 (d := d_Node_take_tellers) rfl
  have F55 : Fun K "take_tellers" "Node.take_tellers" s_Node_take_tellers (He.fAd K ("Node", some "take_tellers")) fd55 := fun_ofD D55
  have b55 := F55.binds (ps := ["self"]) fun _ _ _ _ _ _ us hl => match us, hl with | [_], _ => rfl
  obtain ⟨fd56, D56⟩ := c.def_ 56 (d := d_Node_need_told) rfl
  have F56 : Fun K "need_told" "Node.need_told" s_Node_need_told (He.fAd K ("Node", some "need_told")) fd56 := fun_ofD D56
  have b56 := F56.binds (ps := ["self"]) fun _ _ _ _ _ _ us hl => match us, hl with | [_], _ => rfl
  obtain ⟨fd57, D57⟩ := c.def_ 57 (d := d_Node_inputs) rfl
  have F57 : Fun K "inputs" "Node.inputs" s_Node_inputs (He.fAd K ("Node", some "inputs")) fd57 := fun_ofD D57
  have b57 := F57.binds (ps := ["self"]) fun _ _ _ _ _ _ us hl => match us, hl with | [_], _ => rfl
  obtain ⟨fd58, D58⟩ := c.def_ 58 (d := d_Node_outs) rfl
  have F58 : Fun K "outs" "Node.outs" s_Node_outs (He.fAd K ("Node", some "outs")) fd58 := fun_ofD D58
  have b58 := F58.binds (ps := ["self"]) fun _ _ _ _ _ _ us hl => match us, hl with | [_], _ => rfl
  obtain ⟨fd59, D59⟩ := c.def_ 59 (d := d_Node_rows) rfl
  have F59 : Fun K "rows" "Node.rows" s_Node_rows (He.fAd K ("Node", some "rows")) fd59 := fun_ofD D59
  have b59 := F59.binds (ps := ["self"]) fun _ _ _ _ _ _ us hl => match us, hl with | [_], _ => rfl
  obtain ⟨fd60, D60⟩ := c.def_ 60 (d := d_Node_names) rfl
  have F60 : Fun K "names" "Node.names" s_Node_names (He.fAd K ("Node", some "names")) fd60 := fun_ofD D60
  have b60 := F60.binds (ps := ["self"]) fun _ _ _ _ _ _ us hl => match us, hl with | [_], _ => rfl
  obtain ⟨fd61, D61⟩ := c.def_ 61 (d := d_Node_teller) rfl
  have F61 : Fun K "teller" "Node.teller" s_Node_teller (He.fAd K ("Node", some "teller")) fd61 := fun_ofD D61
  have b61 := F61.binds (ps := ["self", "name"]) fun _ _ _ _ _ _ us hl => match us, hl with | [_, _], _ => rfl
  obtain ⟨fd62, D62⟩ := c.def_ 62 (d := d_Node_has_calls) rfl
  have F62 : Fun K "has_calls" "Node.has_calls" s_Node_has_calls (He.fAd K ("Node", some "has_calls")) fd62 := fun_ofD D62
  have b62 := F62.binds (ps := ["self"]) fun _ _ _ _ _ _ us hl => match us, hl with | [_], _ => rfl
  obtain ⟨fd63, D63⟩ := c.def_ 63 (d := d_Node_told) rfl
  have F63 : Fun K "told" "Node.told" s_Node_told (He.fAd K ("Node", some "told")) fd63 := fun_ofD D63
  have b63 := F63.binds (ps := ["self"]) fun _ _ _ _ _ _ us hl => match us, hl with | [_], _ => rfl
  obtain ⟨fd64, D64⟩ := c.def_ 64 (d := d_node_of) rfl
  have F64 : Fun K "node_of" "node_of" s_node_of (He.fAd K ("node_of", none)) fd64 := fun_ofD D64
  have b64 := F64.binds (ps := ["told"]) fun _ _ _ _ _ _ us hl => match us, hl with | [_], _ => rfl
  obtain ⟨fd65, D65⟩ := c.def_ 65 (d := d_same_node) rfl
  have F65 : Fun K "same_node" "same_node" s_same_node (He.fAd K ("same_node", none)) fd65 := fun_ofD D65
  have b65 := F65.binds (ps := ["one", "other"]) fun _ _ _ _ _ _ us hl => match us, hl with | [_, _], _ => rfl
  obtain ⟨fd66, D66⟩ := c.def_ 66 (d := d_cell_at_l) rfl
  have F66 : Fun K "_law_cell_at" "_law_cell_at" s_cell_at_l (He.fAd K ("_law_cell_at", none)) fd66 := fun_ofD D66
  have b66 := F66.binds (ps := ["_law_script", "_law_k"]) fun _ _ _ _ _ _ us hl => match us, hl with | [_, _], _ => rfl
  obtain ⟨fd67, D67⟩ := c.def_ 67 (d := d_box_l) rfl
  have F67 : Fun K "_law_box" "_law_box" s_box_l (He.fAd K ("_law_box", none)) fd67 := fun_ofD D67
  have b67 := F67.binds (ps := ["_law_cell"]) fun _ _ _ _ _ _ us hl => match us, hl with | [_], _ => rfl
  obtain ⟨fd68, D68⟩ := c.def_ 68 (d := d_take_l) rfl
  have F68 : Fun K "_law_take" "_law_take" s_take_l (He.fAd K ("_law_take", none)) fd68 := fun_ofD D68
  have b68 := F68.binds (ps := ["_law_box_here", "_law_many"]) fun _ _ _ _ _ _ us hl => match us, hl with | [_, _], _ => rfl
  obtain ⟨fd69, D69⟩ := c.def_ 69 (d := d_names_l) rfl
  have F69 : Fun K "_law_names" "_law_names" s_names_l (He.fAd K ("_law_names", none)) fd69 := fun_ofD D69
  have b69 := F69.binds (ps := ["_law_box_here", "_law_many"]) fun _ _ _ _ _ _ us hl => match us, hl with | [_, _], _ => rfl
  obtain ⟨fd70, D70⟩ := c.def_ 70 (d := d_value_l) rfl
  have F70 : Fun K "_law_value" "_law_value" s_value_l (He.fAd K ("_law_value", none)) fd70 := fun_ofD D70
  have b70 := F70.binds (ps := ["_law_box_here"]) fun _ _ _ _ _ _ us hl => match us, hl with | [_], _ => rfl
  obtain ⟨fd71, D71⟩ := c.def_ 71 (d := d_term_l) rfl
  have F71 : Fun K "_law_term" "_law_term" s_term_l (He.fAd K ("_law_term", none)) fd71 := fun_ofD D71
  have b71 := F71.binds (ps := ["_law_box_here", "_law_names_here", "_law_levels"]) fun _ _ _ _ _ _ us hl => match us, hl with | [_, _, _], _ => rfl
  obtain ⟨fd72, D72⟩ := c.def_ 72 (d := d_row_l) rfl
  have F72 : Fun K "_law_row" "_law_row" s_row_l (He.fAd K ("_law_row", none)) fd72 := fun_ofD D72
  have b72 := F72.binds (ps := ["_law_box_here", "_law_told_here", "_law_names_here"]) fun _ _ _ _ _ _ us hl => match us, hl with | [_, _, _], _ => rfl
  obtain ⟨fd73, D73⟩ := c.def_ 73 (d := d_term_names_l) rfl
  have F73 : Fun K "_law_term_names" "_law_term_names" s_term_names_l (He.fAd K ("_law_term_names", none)) fd73 := fun_ofD D73
  have b73 := F73.binds (ps := ["_law_term_here"]) fun _ _ _ _ _ _ us hl => match us, hl with | [_], _ => rfl
  obtain ⟨fd74, D74⟩ := c.def_ 74 (d := d_once_l) rfl
  have F74 : Fun K "_law_once" "_law_once" s_once_l (He.fAd K ("_law_once", none)) fd74 := fun_ofD D74
  have b74 := F74.binds (ps := ["_law_names_here"]) fun _ _ _ _ _ _ us hl => match us, hl with | [_], _ => rfl
  obtain ⟨fd75, D75⟩ := c.def_ 75 (d := d_mentions_l) rfl
  have F75 : Fun K "_law_mentions" "_law_mentions" s_mentions_l (He.fAd K ("_law_mentions", none)) fd75 := fun_ofD D75
  have b75 := F75.binds (ps := ["_law_row_here"]) fun _ _ _ _ _ _ us hl => match us, hl with | [_], _ => rfl
  obtain ⟨fd76, D76⟩ := c.def_ 76 (d := d_tells_l) rfl
  have F76 : Fun K "_law_tells" "_law_tells" s_tells_l (He.fAd K ("_law_tells", none)) fd76 := fun_ofD D76
  have b76 := F76.binds (ps := ["_law_row_here"]) fun _ _ _ _ _ _ us hl => match us, hl with | [_], _ => rfl
  obtain ⟨fd77, D77⟩ := c.def_ 77 (d := d_read_row_l) rfl
  have F77 : Fun K "_law_read_row" "_law_read_row" s_read_row_l (He.fAd K ("_law_read_row", none)) fd77 := fun_ofD D77
  have b77 := F77.binds (ps := ["_law_box_here", "_law_told_here", "_law_names_here"]) fun _ _ _ _ _ _ us hl => match us, hl with | [_, _, _], _ => rfl
  obtain ⟨fd78, D78⟩ := c.def_ 78 (d := d_node_l) rfl
  have F78 : Fun K "_law_node" "_law_node" s_node_l (He.fAd K ("_law_node", none)) fd78 := fun_ofD D78
  have b78 := F78.binds (ps := ["_law_box_here", "_law_names_here"]) fun _ _ _ _ _ _ us hl => match us, hl with | [_, _], _ => rfl
  obtain ⟨fd79, D79⟩ := c.def_ 79 (d := d_told_names_l) rfl
  have F79 : Fun K "_law_told_names" "_law_told_names" s_told_names_l (He.fAd K ("_law_told_names", none)) fd79 := fun_ofD D79
  have b79 := F79.binds (ps := ["_law_rows"]) fun _ _ _ _ _ _ us hl => match us, hl with | [_], _ => rfl
  obtain ⟨fd80, D80⟩ := c.def_ 80 (d := d_due_l) rfl
  have F80 : Fun K "_law_due" "_law_due" s_due_l (He.fAd K ("_law_due", none)) fd80 := fun_ofD D80
  have b80 := F80.binds (ps := ["_law_node_here"]) fun _ _ _ _ _ _ us hl => match us, hl with | [_], _ => rfl
  obtain ⟨fd81, D81⟩ := c.def_ 81 (d := d_told_l) rfl
  have F81 : Fun K "_law_told" "_law_told" s_told_l (He.fAd K ("_law_told", none)) fd81 := fun_ofD D81
  have b81 := F81.binds (ps := ["_law_equation"]) fun _ _ _ _ _ _ us hl => match us, hl with | [_], _ => rfl
  obtain ⟨fd82, D82⟩ := c.def_ 82 (d := d_right_l) rfl
  have F82 : Fun K "_law_right" "_law_right" s_right_l (He.fAd K ("_law_right", none)) fd82 := fun_ofD D82
  have b82 := F82.binds (ps := ["_law_found", "_law_node_here"]) fun _ _ _ _ _ _ us hl => match us, hl with | [_, _], _ => rfl
  obtain ⟨fd83, D83⟩ := c.def_ 83 (d := d_unknown_l) rfl
  have F83 : Fun K "_law_unknown" "_law_unknown" s_unknown_l (He.fAd K ("_law_unknown", none)) fd83 := fun_ofD D83
  have b83 := F83.binds (ps := ["_law_node_here", "_law_thing"]) fun _ _ _ _ _ _ us hl => match us, hl with | [_, _], _ => rfl
  obtain ⟨fd84, D84⟩ := c.def_ 84 (d := d_made_l) rfl
  have F84 : Fun K "_law_made" "_law_made" s_made_l (He.fAd K ("_law_made", none)) fd84 := fun_ofD D84
  have b84 := F84.binds (ps := ["_law_box_here", "_law_node_here"]) fun _ _ _ _ _ _ us hl => match us, hl with | [_, _], _ => rfl
  obtain ⟨fd85, D85⟩ := c.def_ 85 (d := d_changed_l) rfl
  have F85 : Fun K "_law_changed" "_law_changed" s_changed_l (He.fAd K ("_law_changed", none)) fd85 := fun_ofD D85
  have b85 := F85.binds (ps := ["_law_found"]) fun _ _ _ _ _ _ us hl => match us, hl with | [_], _ => rfl
  obtain ⟨fd86, D86⟩ := c.def_ 86 (d := d_alike_l) rfl
  have F86 : Fun K "_law_alike" "_law_alike" s_alike_l (He.fAd K ("_law_alike", none)) fd86 := fun_ofD D86
  have b86 := F86.binds (ps := ["_law_one", "_law_other", "_law_due_here"]) fun _ _ _ _ _ _ us hl => match us, hl with | [_, _, _], _ => rfl
  obtain ⟨fd87, D87⟩ := c.def_ 87 (d := d_law) rfl
  have F87 : Fun K "law" "law" s_law (He.fAd K ("law", none)) fd87 := fun_ofD D87
  have b87 := F87.binds (ps := ["_law_script"]) fun _ _ _ _ _ _ us hl => match us, hl with | [_], _ => rfl
  obtain ⟨t_LETTERS, k_LETTERS⟩ := He.str_ok X G (c.fact 75 (f := .str "LETTERS" "abcdefghijklmnopqrstuvwxyz") rfl)
  obtain ⟨t_LONGEST, k_LONGEST⟩ := He.int_ok X G (c.fact 76 (f := .int "LONGEST" (8)) rfl)
  obtain ⟨t_MOST, k_MOST⟩ := He.int_ok X G (c.fact 77 (f := .int "MOST" (1000000000)) rfl)
  obtain ⟨t_MOST_LEVELS, k_MOST_LEVELS⟩ := He.int_ok X G (c.fact 78 (f := .int "MOST_LEVELS" (5)) rfl)
  obtain ⟨t_MOST_SIGNS, k_MOST_SIGNS⟩ := He.int_ok X G (c.fact 79 (f := .int "MOST_SIGNS" (80)) rfl)
  obtain ⟨t_TOLD_THINGS, k_TOLD_THINGS⟩ := He.int_ok X G (c.fact 82 (f := .int "TOLD_THINGS" (4)) rfl)
  have e := hfa.symm.trans (He.glo_ok X G (c.fact 43 (f := .glo "law") rfl))
  cases e
  have T : Txt K mg ⟨(He.fAd K ("NoName", some "__init__")), fd0, (He.fAd K ("Unknown", some "__init__")), fd1, (He.fAd K ("is_whole", none)), fd2, (He.fAd K ("is_within", none)), fd3, (He.fAd K ("is_name", none)), fd4, (He.fAd K ("is_pointed", none)), fd5, (He.fAd K ("is_value", none)), fd6, (He.fAd K ("ops_told", none)), fd7, (He.fAd K ("Term", some "parts")), fd8, (He.fAd K ("Term", some "names")), fd9, (He.fAd K ("Term", some "levels")), fd10, (He.fAd K ("need_term", none)), fd11, (He.fAd K ("Name", some "__init__")), fd12, (He.fAd K ("Name", some "names")), fd13, (He.fAd K ("Name", some "told")), fd14, (He.fAd K ("Value", some "__init__")), fd15, (He.fAd K ("Value", some "told")), fd16, (He.fAd K ("Two", some "__init__")), fd17, (He.fAd K ("Two", some "parts")), fd18, (He.fAd K ("Two", some "told")), fd19, (He.fAd K ("Not", some "__init__")), fd20, (He.fAd K ("Not", some "parts")), fd21, (He.fAd K ("Not", some "told")), fd22, (He.fAd K ("Pick", some "__init__")), fd23, (He.fAd K ("Pick", some "parts")), fd24, (He.fAd K ("Pick", some "told")), fd25, (He.fAd K ("simple_of", none)), fd26, (He.fAd K ("made_of_told", none)), fd27, (He.fAd K ("term_of", none)), fd28, (He.fAd K ("each_once", none)), fd29, (He.fAd K ("Equation", some "__init__")), fd30, (He.fAd K ("Equation", some "told")), fd31, (He.fAd K ("Equation", some "tells")), fd32, (He.fAd K ("Equation", some "names")), fd33, (He.fAd K ("Equation", some "term")), fd34, (He.fAd K ("Equation", some "is_call")), fd35, (He.fAd K ("Plain", some "__init__")), fd36, (He.fAd K ("Plain", some "names")), fd37, (He.fAd K ("Plain", some "term")), fd38, (He.fAd K ("When", some "names")), fd39, (He.fAd K ("Same", some "tells")), fd40, (He.fAd K ("Same", some "names")), fd41, (He.fAd K ("Call", some "tells")), fd42, (He.fAd K ("Call", some "names")), fd43, (He.fAd K ("Call", some "is_call")), fd44, (He.fAd K ("are_pointed", none)), fd45, (He.fAd K ("is_valued", none)), fd46, (He.fAd K ("plain_of", none)), fd47, (He.fAd K ("valued_of", none)), fd48, (He.fAd K ("call_of", none)), fd49, (He.fAd K ("made_of", none)), fd50, (He.fAd K ("equation_of", none)), fd51, (He.fAd K ("need_names", none)), fd52, (He.fAd K ("equations_of", none)), fd53, (He.fAd K ("Node", some "__init__")), fd54, (He.fAd K ("Node", some "take_tellers")), fd55, (He.fAd K ("Node", some "need_told")), fd56, (He.fAd K ("Node", some "inputs")), fd57, (He.fAd K ("Node", some "outs")), fd58, (He.fAd K ("Node", some "rows")), fd59, (He.fAd K ("Node", some "names")), fd60, (He.fAd K ("Node", some "teller")), fd61, (He.fAd K ("Node", some "has_calls")), fd62, (He.fAd K ("Node", some "told")), fd63, (He.fAd K ("node_of", none)), fd64, (He.fAd K ("same_node", none)), fd65, (He.fAd K ("_law_cell_at", none)), fd66, (He.fAd K ("_law_box", none)), fd67, (He.fAd K ("_law_take", none)), fd68, (He.fAd K ("_law_names", none)), fd69, (He.fAd K ("_law_value", none)), fd70, (He.fAd K ("_law_term", none)), fd71, (He.fAd K ("_law_row", none)), fd72, (He.fAd K ("_law_term_names", none)), fd73, (He.fAd K ("_law_once", none)), fd74, (He.fAd K ("_law_mentions", none)), fd75, (He.fAd K ("_law_tells", none)), fd76, (He.fAd K ("_law_read_row", none)), fd77, (He.fAd K ("_law_node", none)), fd78, (He.fAd K ("_law_told_names", none)), fd79, (He.fAd K ("_law_due", none)), fd80, (He.fAd K ("_law_told", none)), fd81, (He.fAd K ("_law_right", none)), fd82, (He.fAd K ("_law_unknown", none)), fd83, (He.fAd K ("_law_made", none)), fd84, (He.fAd K ("_law_changed", none)), fd85, (He.fAd K ("_law_alike", none)), fd86, (He.fAd K ("law", none)), fd87, (He.ga K "OPS"), (He.ga K "OWN"), (He.ga K "BeatError"), (He.ga K "NoName"), (He.ga K "Unknown"), (He.ga K "Term"), (He.ga K "Name"), (He.ga K "Value"), (He.ga K "Two"), (He.ga K "Not"), (He.ga K "Pick"), (He.ga K "Equation"), (He.ga K "Plain"), (He.ga K "Before"), (He.ga K "When"), (He.ga K "Hold"), (He.ga K "Like"), (He.ga K "Same"), (He.ga K "Call"), (He.ga K "Node")⟩ := ⟨F0,
    b0,
    F1,
    b1,
    F2,
    b2,
    (He.glo_ok X G (c.fact 0 (f := .glo "is_whole") rfl)),
    F3,
    b3,
    (He.glo_ok X G (c.fact 1 (f := .glo "is_within") rfl)),
    F4,
    b4,
    (He.glo_ok X G (c.fact 2 (f := .glo "is_name") rfl)),
    F5,
    b5,
    (He.glo_ok X G (c.fact 3 (f := .glo "is_pointed") rfl)),
    F6,
    b6,
    (He.glo_ok X G (c.fact 4 (f := .glo "is_value") rfl)),
    F7,
    b7,
    (He.glo_ok X G (c.fact 5 (f := .glo "ops_told") rfl)),
    F8,
    b8,
    (allAt hex 0 (b := PySem.W.isFn K (.ref (He.fAd K ("Term", some "parts")))) rfl),
    F9,
    b9,
    (allAt hex 1 (b := PySem.W.isFn K (.ref (He.fAd K ("Term", some "names")))) rfl),
    F10,
    b10,
    (allAt hex 2 (b := PySem.W.isFn K (.ref (He.fAd K ("Term", some "levels")))) rfl),
    F11,
    b11,
    (He.glo_ok X G (c.fact 6 (f := .glo "need_term") rfl)),
    F12,
    b12,
    (allAt hex 3 (b := PySem.W.isFn K (.ref (He.fAd K ("Name", some "__init__")))) rfl),
    F13,
    b13,
    (allAt hex 4 (b := PySem.W.isFn K (.ref (He.fAd K ("Name", some "names")))) rfl),
    F14,
    b14,
    (allAt hex 5 (b := PySem.W.isFn K (.ref (He.fAd K ("Name", some "told")))) rfl),
    F15,
    b15,
    (allAt hex 6 (b := PySem.W.isFn K (.ref (He.fAd K ("Value", some "__init__")))) rfl),
    F16,
    b16,
    (allAt hex 7 (b := PySem.W.isFn K (.ref (He.fAd K ("Value", some "told")))) rfl),
    F17,
    b17,
    (allAt hex 8 (b := PySem.W.isFn K (.ref (He.fAd K ("Two", some "__init__")))) rfl),
    F18,
    b18,
    (allAt hex 9 (b := PySem.W.isFn K (.ref (He.fAd K ("Two", some "parts")))) rfl),
    F19,
    b19,
    (allAt hex 10 (b := PySem.W.isFn K (.ref (He.fAd K ("Two", some "told")))) rfl),
    F20,
    b20,
    (allAt hex 11 (b := PySem.W.isFn K (.ref (He.fAd K ("Not", some "__init__")))) rfl),
    F21,
    b21,
    (allAt hex 12 (b := PySem.W.isFn K (.ref (He.fAd K ("Not", some "parts")))) rfl),
    F22,
    b22,
    (allAt hex 13 (b := PySem.W.isFn K (.ref (He.fAd K ("Not", some "told")))) rfl),
    F23,
    b23,
    (allAt hex 14 (b := PySem.W.isFn K (.ref (He.fAd K ("Pick", some "__init__")))) rfl),
    F24,
    b24,
    (allAt hex 15 (b := PySem.W.isFn K (.ref (He.fAd K ("Pick", some "parts")))) rfl),
    F25,
    b25,
    (allAt hex 16 (b := PySem.W.isFn K (.ref (He.fAd K ("Pick", some "told")))) rfl),
    F26,
    b26,
    (He.glo_ok X G (c.fact 7 (f := .glo "simple_of") rfl)),
    F27,
    b27,
    (He.glo_ok X G (c.fact 8 (f := .glo "made_of_told") rfl)),
    F28,
    b28,
    (He.glo_ok X G (c.fact 9 (f := .glo "term_of") rfl)),
    F29,
    b29,
    (He.glo_ok X G (c.fact 10 (f := .glo "each_once") rfl)),
    F30,
    b30,
    (allAt hex 17 (b := PySem.W.isFn K (.ref (He.fAd K ("Equation", some "__init__")))) rfl),
    F31,
    b31,
    (allAt hex 18 (b := PySem.W.isFn K (.ref (He.fAd K ("Equation", some "told")))) rfl),
    F32,
    b32,
    (allAt hex 19 (b := PySem.W.isFn K (.ref (He.fAd K ("Equation", some "tells")))) rfl),
    F33,
    b33,
    (allAt hex 20 (b := PySem.W.isFn K (.ref (He.fAd K ("Equation", some "names")))) rfl),
    F34,
    b34,
    (allAt hex 21 (b := PySem.W.isFn K (.ref (He.fAd K ("Equation", some "term")))) rfl),
    F35,
    b35,
    (allAt hex 22 (b := PySem.W.isFn K (.ref (He.fAd K ("Equation", some "is_call")))) rfl),
    F36,
    b36,
    (allAt hex 23 (b := PySem.W.isFn K (.ref (He.fAd K ("Plain", some "__init__")))) rfl),
    F37,
    b37,
    (allAt hex 24 (b := PySem.W.isFn K (.ref (He.fAd K ("Plain", some "names")))) rfl),
    F38,
    b38,
    (allAt hex 25 (b := PySem.W.isFn K (.ref (He.fAd K ("Plain", some "term")))) rfl),
    F39,
    b39,
    (allAt hex 26 (b := PySem.W.isFn K (.ref (He.fAd K ("When", some "names")))) rfl),
    F40,
    b40,
    (allAt hex 27 (b := PySem.W.isFn K (.ref (He.fAd K ("Same", some "tells")))) rfl),
    F41,
    b41,
    (allAt hex 28 (b := PySem.W.isFn K (.ref (He.fAd K ("Same", some "names")))) rfl),
    F42,
    b42,
    (allAt hex 29 (b := PySem.W.isFn K (.ref (He.fAd K ("Call", some "tells")))) rfl),
    F43,
    b43,
    (allAt hex 30 (b := PySem.W.isFn K (.ref (He.fAd K ("Call", some "names")))) rfl),
    F44,
    b44,
    (allAt hex 31 (b := PySem.W.isFn K (.ref (He.fAd K ("Call", some "is_call")))) rfl),
    F45,
    b45,
    (He.glo_ok X G (c.fact 11 (f := .glo "are_pointed") rfl)),
    F46,
    b46,
    (He.glo_ok X G (c.fact 12 (f := .glo "is_valued") rfl)),
    F47,
    b47,
    (He.glo_ok X G (c.fact 13 (f := .glo "plain_of") rfl)),
    F48,
    b48,
    (He.glo_ok X G (c.fact 14 (f := .glo "valued_of") rfl)),
    F49,
    b49,
    (He.glo_ok X G (c.fact 15 (f := .glo "call_of") rfl)),
    F50,
    b50,
    (He.glo_ok X G (c.fact 16 (f := .glo "made_of") rfl)),
    F51,
    b51,
    (He.glo_ok X G (c.fact 17 (f := .glo "equation_of") rfl)),
    F52,
    b52,
    (He.glo_ok X G (c.fact 18 (f := .glo "need_names") rfl)),
    F53,
    b53,
    (He.glo_ok X G (c.fact 19 (f := .glo "equations_of") rfl)),
    F54,
    b54,
    (allAt hex 32 (b := PySem.W.isFn K (.ref (He.fAd K ("Node", some "__init__")))) rfl),
    F55,
    b55,
    (allAt hex 33 (b := PySem.W.isFn K (.ref (He.fAd K ("Node", some "take_tellers")))) rfl),
    F56,
    b56,
    (allAt hex 34 (b := PySem.W.isFn K (.ref (He.fAd K ("Node", some "need_told")))) rfl),
    F57,
    b57,
    (allAt hex 35 (b := PySem.W.isFn K (.ref (He.fAd K ("Node", some "inputs")))) rfl),
    F58,
    b58,
    (allAt hex 36 (b := PySem.W.isFn K (.ref (He.fAd K ("Node", some "outs")))) rfl),
    F59,
    b59,
    (allAt hex 37 (b := PySem.W.isFn K (.ref (He.fAd K ("Node", some "rows")))) rfl),
    F60,
    b60,
    (allAt hex 38 (b := PySem.W.isFn K (.ref (He.fAd K ("Node", some "names")))) rfl),
    F61,
    b61,
    (allAt hex 39 (b := PySem.W.isFn K (.ref (He.fAd K ("Node", some "teller")))) rfl),
    F62,
    b62,
    (allAt hex 40 (b := PySem.W.isFn K (.ref (He.fAd K ("Node", some "has_calls")))) rfl),
    F63,
    b63,
    (allAt hex 41 (b := PySem.W.isFn K (.ref (He.fAd K ("Node", some "told")))) rfl),
    F64,
    b64,
    (He.glo_ok X G (c.fact 20 (f := .glo "node_of") rfl)),
    F65,
    b65,
    (He.glo_ok X G (c.fact 21 (f := .glo "same_node") rfl)),
    F66,
    b66,
    (He.glo_ok X G (c.fact 22 (f := .glo "_law_cell_at") rfl)),
    F67,
    b67,
    (He.glo_ok X G (c.fact 23 (f := .glo "_law_box") rfl)),
    F68,
    b68,
    (He.glo_ok X G (c.fact 24 (f := .glo "_law_take") rfl)),
    F69,
    b69,
    (He.glo_ok X G (c.fact 25 (f := .glo "_law_names") rfl)),
    F70,
    b70,
    (He.glo_ok X G (c.fact 26 (f := .glo "_law_value") rfl)),
    F71,
    b71,
    (He.glo_ok X G (c.fact 27 (f := .glo "_law_term") rfl)),
    F72,
    b72,
    (He.glo_ok X G (c.fact 28 (f := .glo "_law_row") rfl)),
    F73,
    b73,
    (He.glo_ok X G (c.fact 29 (f := .glo "_law_term_names") rfl)),
    F74,
    b74,
    (He.glo_ok X G (c.fact 30 (f := .glo "_law_once") rfl)),
    F75,
    b75,
    (He.glo_ok X G (c.fact 31 (f := .glo "_law_mentions") rfl)),
    F76,
    b76,
    (He.glo_ok X G (c.fact 32 (f := .glo "_law_tells") rfl)),
    F77,
    b77,
    (He.glo_ok X G (c.fact 33 (f := .glo "_law_read_row") rfl)),
    F78,
    b78,
    (He.glo_ok X G (c.fact 34 (f := .glo "_law_node") rfl)),
    F79,
    b79,
    (He.glo_ok X G (c.fact 35 (f := .glo "_law_told_names") rfl)),
    F80,
    b80,
    (He.glo_ok X G (c.fact 36 (f := .glo "_law_due") rfl)),
    F81,
    b81,
    (He.glo_ok X G (c.fact 37 (f := .glo "_law_told") rfl)),
    F82,
    b82,
    (He.glo_ok X G (c.fact 38 (f := .glo "_law_right") rfl)),
    F83,
    b83,
    (He.glo_ok X G (c.fact 39 (f := .glo "_law_unknown") rfl)),
    F84,
    b84,
    (He.glo_ok X G (c.fact 40 (f := .glo "_law_made") rfl)),
    F85,
    b85,
    (He.glo_ok X G (c.fact 41 (f := .glo "_law_changed") rfl)),
    F86,
    b86,
    (He.glo_ok X G (c.fact 42 (f := .glo "_law_alike") rfl)),
    F87,
    b87,
    (He.glo_ok X G (c.fact 43 (f := .glo "law") rfl)),
    (He.glo_ok X G (c.fact 44 (f := .glo "BeatError") rfl)),
    (allAt hex 42 (b := baseB K (He.ga K "BeatError")) rfl),
    (allAt hex 43 (b := PySem.W.excIn K (He.ga K "BeatError") [.type "ValueError", .type "Exception", .type "BaseException", .type "object"] "ValueError.__new__") rfl),
    (allAt hex 44 (b := PySem.W.keepIn K (.ref (He.ga K "BeatError"))) rfl),
    (allAt hex 45 (b := icB K (He.ga K "BeatError")) rfl),
    (He.glo_ok X G (c.fact 45 (f := .glo "NoName") rfl)),
    (allAt hex 46 (b := exB K (He.ga K "NoName") ["found"]) rfl),
    (of_decide_eq_true (allAt hex 47 (b := decide (PySem.W.findIn K (.ref (He.ga K "NoName")) "__init__" = some (some (.ref (He.fAd K ("NoName", some "__init__")))))) rfl)),
    (of_decide_eq_true (allAt hex 48 (b := decide (PySem.W.typeIn K (.ref (He.fAd K ("NoName", some "__init__"))) = some (.type "function"))) rfl)),
    (He.glo_ok X G (c.fact 46 (f := .glo "Unknown") rfl)),
    (allAt hex 49 (b := exB K (He.ga K "Unknown") ["name"]) rfl),
    (of_decide_eq_true (allAt hex 50 (b := decide (PySem.W.findIn K (.ref (He.ga K "Unknown")) "__init__" = some (some (.ref (He.fAd K ("Unknown", some "__init__")))))) rfl)),
    (of_decide_eq_true (allAt hex 51 (b := decide (PySem.W.typeIn K (.ref (He.fAd K ("Unknown", some "__init__"))) = some (.type "function"))) rfl)),
    (He.glo_ok X G (c.fact 47 (f := .glo "Term") rfl)),
    (He.glo_ok X G (c.fact 48 (f := .glo "Name") rfl)),
    (allAt hex 52 (b := tcB K (He.ga K "Name") ["name"]) rfl),
    (of_decide_eq_true (allAt hex 53 (b := decide (PySem.W.findIn K (.ref (He.ga K "Name")) "__init__" = some (some (.ref (He.fAd K ("Name", some "__init__")))))) rfl)),
    (of_decide_eq_true (allAt hex 54 (b := decide (PySem.W.findIn K (.ref (He.ga K "Name")) "parts" = some (some (.ref (He.fAd K ("Term", some "parts")))))) rfl)),
    (of_decide_eq_true (allAt hex 55 (b := decide (PySem.W.findIn K (.ref (He.ga K "Name")) "names" = some (some (.ref (He.fAd K ("Name", some "names")))))) rfl)),
    (of_decide_eq_true (allAt hex 56 (b := decide (PySem.W.findIn K (.ref (He.ga K "Name")) "levels" = some (some (.ref (He.fAd K ("Term", some "levels")))))) rfl)),
    (of_decide_eq_true (allAt hex 57 (b := decide (PySem.W.findIn K (.ref (He.ga K "Name")) "told" = some (some (.ref (He.fAd K ("Name", some "told")))))) rfl)),
    (He.glo_ok X G (c.fact 49 (f := .glo "Value") rfl)),
    (allAt hex 58 (b := tcB K (He.ga K "Value") ["amount"]) rfl),
    (of_decide_eq_true (allAt hex 59 (b := decide (PySem.W.findIn K (.ref (He.ga K "Value")) "__init__" = some (some (.ref (He.fAd K ("Value", some "__init__")))))) rfl)),
    (of_decide_eq_true (allAt hex 60 (b := decide (PySem.W.findIn K (.ref (He.ga K "Value")) "parts" = some (some (.ref (He.fAd K ("Term", some "parts")))))) rfl)),
    (of_decide_eq_true (allAt hex 61 (b := decide (PySem.W.findIn K (.ref (He.ga K "Value")) "names" = some (some (.ref (He.fAd K ("Term", some "names")))))) rfl)),
    (of_decide_eq_true (allAt hex 62 (b := decide (PySem.W.findIn K (.ref (He.ga K "Value")) "levels" = some (some (.ref (He.fAd K ("Term", some "levels")))))) rfl)),
    (of_decide_eq_true (allAt hex 63 (b := decide (PySem.W.findIn K (.ref (He.ga K "Value")) "told" = some (some (.ref (He.fAd K ("Value", some "told")))))) rfl)),
    (He.glo_ok X G (c.fact 50 (f := .glo "Two") rfl)),
    (allAt hex 64 (b := tcB K (He.ga K "Two") ["op", "one", "second"]) rfl),
    (of_decide_eq_true (allAt hex 65 (b := decide (PySem.W.findIn K (.ref (He.ga K "Two")) "__init__" = some (some (.ref (He.fAd K ("Two", some "__init__")))))) rfl)),
    (of_decide_eq_true (allAt hex 66 (b := decide (PySem.W.findIn K (.ref (He.ga K "Two")) "parts" = some (some (.ref (He.fAd K ("Two", some "parts")))))) rfl)),
    (of_decide_eq_true (allAt hex 67 (b := decide (PySem.W.findIn K (.ref (He.ga K "Two")) "names" = some (some (.ref (He.fAd K ("Term", some "names")))))) rfl)),
    (of_decide_eq_true (allAt hex 68 (b := decide (PySem.W.findIn K (.ref (He.ga K "Two")) "levels" = some (some (.ref (He.fAd K ("Term", some "levels")))))) rfl)),
    (of_decide_eq_true (allAt hex 69 (b := decide (PySem.W.findIn K (.ref (He.ga K "Two")) "told" = some (some (.ref (He.fAd K ("Two", some "told")))))) rfl)),
    (He.glo_ok X G (c.fact 51 (f := .glo "Not") rfl)),
    (allAt hex 70 (b := tcB K (He.ga K "Not") ["one"]) rfl),
    (of_decide_eq_true (allAt hex 71 (b := decide (PySem.W.findIn K (.ref (He.ga K "Not")) "__init__" = some (some (.ref (He.fAd K ("Not", some "__init__")))))) rfl)),
    (of_decide_eq_true (allAt hex 72 (b := decide (PySem.W.findIn K (.ref (He.ga K "Not")) "parts" = some (some (.ref (He.fAd K ("Not", some "parts")))))) rfl)),
    (of_decide_eq_true (allAt hex 73 (b := decide (PySem.W.findIn K (.ref (He.ga K "Not")) "names" = some (some (.ref (He.fAd K ("Term", some "names")))))) rfl)),
    (of_decide_eq_true (allAt hex 74 (b := decide (PySem.W.findIn K (.ref (He.ga K "Not")) "levels" = some (some (.ref (He.fAd K ("Term", some "levels")))))) rfl)),
    (of_decide_eq_true (allAt hex 75 (b := decide (PySem.W.findIn K (.ref (He.ga K "Not")) "told" = some (some (.ref (He.fAd K ("Not", some "told")))))) rfl)),
    (He.glo_ok X G (c.fact 52 (f := .glo "Pick") rfl)),
    (allAt hex 76 (b := tcB K (He.ga K "Pick") ["by", "one", "second"]) rfl),
    (of_decide_eq_true (allAt hex 77 (b := decide (PySem.W.findIn K (.ref (He.ga K "Pick")) "__init__" = some (some (.ref (He.fAd K ("Pick", some "__init__")))))) rfl)),
    (of_decide_eq_true (allAt hex 78 (b := decide (PySem.W.findIn K (.ref (He.ga K "Pick")) "parts" = some (some (.ref (He.fAd K ("Pick", some "parts")))))) rfl)),
    (of_decide_eq_true (allAt hex 79 (b := decide (PySem.W.findIn K (.ref (He.ga K "Pick")) "names" = some (some (.ref (He.fAd K ("Term", some "names")))))) rfl)),
    (of_decide_eq_true (allAt hex 80 (b := decide (PySem.W.findIn K (.ref (He.ga K "Pick")) "levels" = some (some (.ref (He.fAd K ("Term", some "levels")))))) rfl)),
    (of_decide_eq_true (allAt hex 81 (b := decide (PySem.W.findIn K (.ref (He.ga K "Pick")) "told" = some (some (.ref (He.fAd K ("Pick", some "told")))))) rfl)),
    (He.glo_ok X G (c.fact 53 (f := .glo "Equation") rfl)),
    (allAt hex 82 (b := tcB K (He.ga K "Equation") ["told_row"]) rfl),
    (of_decide_eq_true (allAt hex 83 (b := decide (PySem.W.findIn K (.ref (He.ga K "Equation")) "__init__" = some (some (.ref (He.fAd K ("Equation", some "__init__")))))) rfl)),
    (of_decide_eq_true (allAt hex 84 (b := decide (PySem.W.findIn K (.ref (He.ga K "Equation")) "names" = some (some (.ref (He.fAd K ("Equation", some "names")))))) rfl)),
    (of_decide_eq_true (allAt hex 85 (b := decide (PySem.W.findIn K (.ref (He.ga K "Equation")) "told" = some (some (.ref (He.fAd K ("Equation", some "told")))))) rfl)),
    (of_decide_eq_true (allAt hex 86 (b := decide (PySem.W.findIn K (.ref (He.ga K "Equation")) "tells" = some (some (.ref (He.fAd K ("Equation", some "tells")))))) rfl)),
    (of_decide_eq_true (allAt hex 87 (b := decide (PySem.W.findIn K (.ref (He.ga K "Equation")) "term" = some (some (.ref (He.fAd K ("Equation", some "term")))))) rfl)),
    (of_decide_eq_true (allAt hex 88 (b := decide (PySem.W.findIn K (.ref (He.ga K "Equation")) "is_call" = some (some (.ref (He.fAd K ("Equation", some "is_call")))))) rfl)),
    (He.glo_ok X G (c.fact 54 (f := .glo "Plain") rfl)),
    (allAt hex 89 (b := tcB K (He.ga K "Plain") ["told_row", "kept_term"]) rfl),
    (of_decide_eq_true (allAt hex 90 (b := decide (PySem.W.findIn K (.ref (He.ga K "Plain")) "__init__" = some (some (.ref (He.fAd K ("Plain", some "__init__")))))) rfl)),
    (of_decide_eq_true (allAt hex 91 (b := decide (PySem.W.findIn K (.ref (He.ga K "Plain")) "names" = some (some (.ref (He.fAd K ("Plain", some "names")))))) rfl)),
    (of_decide_eq_true (allAt hex 92 (b := decide (PySem.W.findIn K (.ref (He.ga K "Plain")) "told" = some (some (.ref (He.fAd K ("Equation", some "told")))))) rfl)),
    (of_decide_eq_true (allAt hex 93 (b := decide (PySem.W.findIn K (.ref (He.ga K "Plain")) "tells" = some (some (.ref (He.fAd K ("Equation", some "tells")))))) rfl)),
    (of_decide_eq_true (allAt hex 94 (b := decide (PySem.W.findIn K (.ref (He.ga K "Plain")) "term" = some (some (.ref (He.fAd K ("Plain", some "term")))))) rfl)),
    (of_decide_eq_true (allAt hex 95 (b := decide (PySem.W.findIn K (.ref (He.ga K "Plain")) "is_call" = some (some (.ref (He.fAd K ("Equation", some "is_call")))))) rfl)),
    (He.glo_ok X G (c.fact 55 (f := .glo "Before") rfl)),
    (allAt hex 96 (b := tcB K (He.ga K "Before") ["told_row"]) rfl),
    (of_decide_eq_true (allAt hex 97 (b := decide (PySem.W.findIn K (.ref (He.ga K "Before")) "__init__" = some (some (.ref (He.fAd K ("Equation", some "__init__")))))) rfl)),
    (of_decide_eq_true (allAt hex 98 (b := decide (PySem.W.findIn K (.ref (He.ga K "Before")) "names" = some (some (.ref (He.fAd K ("Equation", some "names")))))) rfl)),
    (of_decide_eq_true (allAt hex 99 (b := decide (PySem.W.findIn K (.ref (He.ga K "Before")) "told" = some (some (.ref (He.fAd K ("Equation", some "told")))))) rfl)),
    (of_decide_eq_true (allAt hex 100 (b := decide (PySem.W.findIn K (.ref (He.ga K "Before")) "tells" = some (some (.ref (He.fAd K ("Equation", some "tells")))))) rfl)),
    (of_decide_eq_true (allAt hex 101 (b := decide (PySem.W.findIn K (.ref (He.ga K "Before")) "term" = some (some (.ref (He.fAd K ("Equation", some "term")))))) rfl)),
    (of_decide_eq_true (allAt hex 102 (b := decide (PySem.W.findIn K (.ref (He.ga K "Before")) "is_call" = some (some (.ref (He.fAd K ("Equation", some "is_call")))))) rfl)),
    (He.glo_ok X G (c.fact 56 (f := .glo "When") rfl)),
    (allAt hex 103 (b := tcB K (He.ga K "When") ["told_row"]) rfl),
    (of_decide_eq_true (allAt hex 104 (b := decide (PySem.W.findIn K (.ref (He.ga K "When")) "__init__" = some (some (.ref (He.fAd K ("Equation", some "__init__")))))) rfl)),
    (of_decide_eq_true (allAt hex 105 (b := decide (PySem.W.findIn K (.ref (He.ga K "When")) "names" = some (some (.ref (He.fAd K ("When", some "names")))))) rfl)),
    (of_decide_eq_true (allAt hex 106 (b := decide (PySem.W.findIn K (.ref (He.ga K "When")) "told" = some (some (.ref (He.fAd K ("Equation", some "told")))))) rfl)),
    (of_decide_eq_true (allAt hex 107 (b := decide (PySem.W.findIn K (.ref (He.ga K "When")) "tells" = some (some (.ref (He.fAd K ("Equation", some "tells")))))) rfl)),
    (of_decide_eq_true (allAt hex 108 (b := decide (PySem.W.findIn K (.ref (He.ga K "When")) "term" = some (some (.ref (He.fAd K ("Equation", some "term")))))) rfl)),
    (of_decide_eq_true (allAt hex 109 (b := decide (PySem.W.findIn K (.ref (He.ga K "When")) "is_call" = some (some (.ref (He.fAd K ("Equation", some "is_call")))))) rfl)),
    (He.glo_ok X G (c.fact 57 (f := .glo "Hold") rfl)),
    (allAt hex 110 (b := tcB K (He.ga K "Hold") ["told_row"]) rfl),
    (of_decide_eq_true (allAt hex 111 (b := decide (PySem.W.findIn K (.ref (He.ga K "Hold")) "__init__" = some (some (.ref (He.fAd K ("Equation", some "__init__")))))) rfl)),
    (of_decide_eq_true (allAt hex 112 (b := decide (PySem.W.findIn K (.ref (He.ga K "Hold")) "names" = some (some (.ref (He.fAd K ("Equation", some "names")))))) rfl)),
    (of_decide_eq_true (allAt hex 113 (b := decide (PySem.W.findIn K (.ref (He.ga K "Hold")) "told" = some (some (.ref (He.fAd K ("Equation", some "told")))))) rfl)),
    (of_decide_eq_true (allAt hex 114 (b := decide (PySem.W.findIn K (.ref (He.ga K "Hold")) "tells" = some (some (.ref (He.fAd K ("Equation", some "tells")))))) rfl)),
    (of_decide_eq_true (allAt hex 115 (b := decide (PySem.W.findIn K (.ref (He.ga K "Hold")) "term" = some (some (.ref (He.fAd K ("Equation", some "term")))))) rfl)),
    (of_decide_eq_true (allAt hex 116 (b := decide (PySem.W.findIn K (.ref (He.ga K "Hold")) "is_call" = some (some (.ref (He.fAd K ("Equation", some "is_call")))))) rfl)),
    (He.glo_ok X G (c.fact 58 (f := .glo "Like") rfl)),
    (allAt hex 117 (b := tcB K (He.ga K "Like") ["told_row"]) rfl),
    (of_decide_eq_true (allAt hex 118 (b := decide (PySem.W.findIn K (.ref (He.ga K "Like")) "__init__" = some (some (.ref (He.fAd K ("Equation", some "__init__")))))) rfl)),
    (of_decide_eq_true (allAt hex 119 (b := decide (PySem.W.findIn K (.ref (He.ga K "Like")) "names" = some (some (.ref (He.fAd K ("Equation", some "names")))))) rfl)),
    (of_decide_eq_true (allAt hex 120 (b := decide (PySem.W.findIn K (.ref (He.ga K "Like")) "told" = some (some (.ref (He.fAd K ("Equation", some "told")))))) rfl)),
    (of_decide_eq_true (allAt hex 121 (b := decide (PySem.W.findIn K (.ref (He.ga K "Like")) "tells" = some (some (.ref (He.fAd K ("Equation", some "tells")))))) rfl)),
    (of_decide_eq_true (allAt hex 122 (b := decide (PySem.W.findIn K (.ref (He.ga K "Like")) "term" = some (some (.ref (He.fAd K ("Equation", some "term")))))) rfl)),
    (of_decide_eq_true (allAt hex 123 (b := decide (PySem.W.findIn K (.ref (He.ga K "Like")) "is_call" = some (some (.ref (He.fAd K ("Equation", some "is_call")))))) rfl)),
    (He.glo_ok X G (c.fact 59 (f := .glo "Same") rfl)),
    (allAt hex 124 (b := tcB K (He.ga K "Same") ["told_row"]) rfl),
    (of_decide_eq_true (allAt hex 125 (b := decide (PySem.W.findIn K (.ref (He.ga K "Same")) "__init__" = some (some (.ref (He.fAd K ("Equation", some "__init__")))))) rfl)),
    (of_decide_eq_true (allAt hex 126 (b := decide (PySem.W.findIn K (.ref (He.ga K "Same")) "names" = some (some (.ref (He.fAd K ("Same", some "names")))))) rfl)),
    (of_decide_eq_true (allAt hex 127 (b := decide (PySem.W.findIn K (.ref (He.ga K "Same")) "told" = some (some (.ref (He.fAd K ("Equation", some "told")))))) rfl)),
    (of_decide_eq_true (allAt hex 128 (b := decide (PySem.W.findIn K (.ref (He.ga K "Same")) "tells" = some (some (.ref (He.fAd K ("Same", some "tells")))))) rfl)),
    (of_decide_eq_true (allAt hex 129 (b := decide (PySem.W.findIn K (.ref (He.ga K "Same")) "term" = some (some (.ref (He.fAd K ("Equation", some "term")))))) rfl)),
    (of_decide_eq_true (allAt hex 130 (b := decide (PySem.W.findIn K (.ref (He.ga K "Same")) "is_call" = some (some (.ref (He.fAd K ("Equation", some "is_call")))))) rfl)),
    (He.glo_ok X G (c.fact 60 (f := .glo "Call") rfl)),
    (allAt hex 131 (b := tcB K (He.ga K "Call") ["told_row"]) rfl),
    (of_decide_eq_true (allAt hex 132 (b := decide (PySem.W.findIn K (.ref (He.ga K "Call")) "__init__" = some (some (.ref (He.fAd K ("Equation", some "__init__")))))) rfl)),
    (of_decide_eq_true (allAt hex 133 (b := decide (PySem.W.findIn K (.ref (He.ga K "Call")) "names" = some (some (.ref (He.fAd K ("Call", some "names")))))) rfl)),
    (of_decide_eq_true (allAt hex 134 (b := decide (PySem.W.findIn K (.ref (He.ga K "Call")) "told" = some (some (.ref (He.fAd K ("Equation", some "told")))))) rfl)),
    (of_decide_eq_true (allAt hex 135 (b := decide (PySem.W.findIn K (.ref (He.ga K "Call")) "tells" = some (some (.ref (He.fAd K ("Call", some "tells")))))) rfl)),
    (of_decide_eq_true (allAt hex 136 (b := decide (PySem.W.findIn K (.ref (He.ga K "Call")) "term" = some (some (.ref (He.fAd K ("Equation", some "term")))))) rfl)),
    (of_decide_eq_true (allAt hex 137 (b := decide (PySem.W.findIn K (.ref (He.ga K "Call")) "is_call" = some (some (.ref (He.fAd K ("Call", some "is_call")))))) rfl)),
    (He.glo_ok X G (c.fact 61 (f := .glo "Node") rfl)),
    (allAt hex 138 (b := tcB K (He.ga K "Node") ["name", "kept_inputs", "kept_outs", "kept_rows", "tellers"]) rfl),
    (of_decide_eq_true (allAt hex 139 (b := decide (PySem.W.findIn K (.ref (He.ga K "Node")) "__init__" = some (some (.ref (He.fAd K ("Node", some "__init__")))))) rfl)),
    (of_decide_eq_true (allAt hex 140 (b := decide (PySem.W.findIn K (.ref (He.ga K "Node")) "names" = some (some (.ref (He.fAd K ("Node", some "names")))))) rfl)),
    (of_decide_eq_true (allAt hex 141 (b := decide (PySem.W.findIn K (.ref (He.ga K "Node")) "told" = some (some (.ref (He.fAd K ("Node", some "told")))))) rfl)),
    (of_decide_eq_true (allAt hex 142 (b := decide (PySem.W.findIn K (.ref (He.ga K "Node")) "take_tellers" = some (some (.ref (He.fAd K ("Node", some "take_tellers")))))) rfl)),
    (of_decide_eq_true (allAt hex 143 (b := decide (PySem.W.findIn K (.ref (He.ga K "Node")) "need_told" = some (some (.ref (He.fAd K ("Node", some "need_told")))))) rfl)),
    (of_decide_eq_true (allAt hex 144 (b := decide (PySem.W.findIn K (.ref (He.ga K "Node")) "inputs" = some (some (.ref (He.fAd K ("Node", some "inputs")))))) rfl)),
    (of_decide_eq_true (allAt hex 145 (b := decide (PySem.W.findIn K (.ref (He.ga K "Node")) "outs" = some (some (.ref (He.fAd K ("Node", some "outs")))))) rfl)),
    (of_decide_eq_true (allAt hex 146 (b := decide (PySem.W.findIn K (.ref (He.ga K "Node")) "rows" = some (some (.ref (He.fAd K ("Node", some "rows")))))) rfl)),
    (of_decide_eq_true (allAt hex 147 (b := decide (PySem.W.findIn K (.ref (He.ga K "Node")) "teller" = some (some (.ref (He.fAd K ("Node", some "teller")))))) rfl)),
    (of_decide_eq_true (allAt hex 148 (b := decide (PySem.W.findIn K (.ref (He.ga K "Node")) "has_calls" = some (some (.ref (He.fAd K ("Node", some "has_calls")))))) rfl)),
    (allAt hex 149 (b := difB [(He.ga K "Name"), (He.ga K "Value"), (He.ga K "Two"), (He.ga K "Not"), (He.ga K "Pick")]) rfl),
    (allAt hex 150 (b := subB K (He.ga K "Name") (He.ga K "Term")) rfl),
    (allAt hex 151 (b := subB K (He.ga K "Value") (He.ga K "Term")) rfl),
    (allAt hex 152 (b := subB K (He.ga K "Two") (He.ga K "Term")) rfl),
    (allAt hex 153 (b := subB K (He.ga K "Not") (He.ga K "Term")) rfl),
    (allAt hex 154 (b := subB K (He.ga K "Pick") (He.ga K "Term")) rfl),
    (allAt hex 155 (b := difB [(He.ga K "Plain"), (He.ga K "Name"), (He.ga K "Value"), (He.ga K "Two"), (He.ga K "Not"), (He.ga K "Pick")]) rfl),
    (allAt hex 156 (b := difB [(He.ga K "Plain"), (He.ga K "Before"), (He.ga K "Hold"), (He.ga K "Like"), (He.ga K "When"), (He.ga K "Same"), (He.ga K "Call")]) rfl),
    (allAt hex 157 (b := kitTab K [(He.ga K "Plain"), (He.ga K "Before"), (He.ga K "Hold"), (He.ga K "Like"), (He.ga K "When"), (He.ga K "Same"), (He.ga K "Call")] (He.ga K "Equation")) rfl),
    (allAt hex 158 (b := cmB K (He.ga K "Equation") (He.fAd K ("Equation", some "__init__")) "__init__") rfl),
    (allAt hex 159 (b := difB [(He.ga K "Node"), (He.ga K "Name"), (He.ga K "Value"), (He.ga K "Two"), (He.ga K "Not"), (He.ga K "Pick")]) rfl),
    (allAt hex 160 (b := difB [(He.ga K "Node"), (He.ga K "Plain"), (He.ga K "Before"), (He.ga K "Hold"), (He.ga K "Like"), (He.ga K "When"), (He.ga K "Same"), (He.ga K "Call")]) rfl),
    (of_decide_eq_true (allAt hex 161 (b := decide (PySem.W.kitOne K (.ref (He.ga K "Unknown")) (.ref (He.ga K "NoName")) = some false)) rfl)),
    (of_decide_eq_true (allAt hex 162 (b := decide (PySem.W.kitOne K (.ref (He.ga K "Unknown")) (.ref (He.ga K "BeatError")) = some true)) rfl)),
    (of_decide_eq_true (allAt hex 163 (b := decide (PySem.W.exmOne K (.ref (He.ga K "Unknown")) (.ref (He.ga K "Unknown")) = some true)) rfl)),
    (He.free_ok X G (c.fact 62 (f := .free "all") rfl)),
    (He.free_ok X G (c.fact 63 (f := .free "any") rfl)),
    (He.free_ok X G (c.fact 64 (f := .free "bool") rfl)),
    (He.free_ok X G (c.fact 65 (f := .free "int") rfl)),
    (He.free_ok X G (c.fact 66 (f := .free "isinstance") rfl)),
    (He.free_ok X G (c.fact 67 (f := .free "len") rfl)),
    (He.free_ok X G (c.fact 68 (f := .free "list") rfl)),
    (He.free_ok X G (c.fact 69 (f := .free "max") rfl)),
    (He.free_ok X G (c.fact 70 (f := .free "min") rfl)),
    (He.free_ok X G (c.fact 71 (f := .free "range") rfl)),
    (He.free_ok X G (c.fact 72 (f := .free "repr") rfl)),
    (He.free_ok X G (c.fact 73 (f := .free "str") rfl)),
    (He.free_ok X G (c.fact 74 (f := .free "tuple") rfl)),
    ⟨_, k_LETTERS, ⟨_, rfl⟩⟩,
    ⟨_, k_LONGEST, ⟨_, rfl⟩⟩,
    ⟨_, k_MOST, ⟨_, rfl⟩⟩,
    ⟨_, k_MOST_LEVELS, ⟨_, rfl⟩⟩,
    ⟨_, k_MOST_SIGNS, ⟨_, rfl⟩⟩,
    ⟨_, He.glo_ok X G (c.fact 80 (f := .glo "OPS") rfl), rfl⟩,
    (tupB_ok (allAt hex 164 (b := tupB K (He.ga K "OPS") ["+", "-", "*", "/", "mod", "<", "=", "&", "|"]) rfl)),
    ⟨_, He.glo_ok X G (c.fact 81 (f := .glo "OWN") rfl), rfl⟩,
    (tupB_ok (allAt hex 165 (b := tupB K (He.ga K "OWN") ["node", "in", "out", "before", "when", "hold", "like", "same", "call", "true", "false", "mod", "beat", "desk"]) rfl)),
    ⟨_, k_TOLD_THINGS, ⟨_, rfl⟩⟩⟩
  have bb := FunD.bindsA (ps := ["_law_script"]) D87 fun _ _ _ _ _ _ us hl => match us, hl with | [_], _ => rfl
  exact ⟨_, fun s v => bb s [v] rfl, fun base _ _ => ok_law T⟩
end Toy
open PySem PySem.W PySem.Calls PyProof.Rows in
set_option maxHeartbeats 0 in
theorem PySem.Challenge.cw_beatrows_k34_nodes_told_holds : PySem.Challenge.rw_beatrows_k34_nodes_told.Holds := by
  w_on; o_law
  refine HandSHeadRun.head_any (r := Toy.RW) (q := view Toy.RW.prog [85]) (H := Toy.hk) (ob := Toy.ob) (M := 20000) (loose := Toy.loose) (d := HandSHeadRun.topDef Toy.RW.prog 85) (kwd := []) Toy.ob_eq
    (by kernel_rfl) (fun s => by kernel_rfl) Toy.run (by kernel_rfl) (by kernel_rfl) (by kernel_rfl) (by rfl)
    (by first | assumption | decide +kernel) (by decide +kernel) ⟨rfl, rfl, rfl, rfl, rfl, by decide +kernel⟩ ?hw ?hc
  case hw => w_witness2
  case hc =>
    refine L2.walk_ofEG (l := PySem.Challenge.rw_beatrows_k34_nodes_told) (n := 63) (k := 40) (x := "_law_script") (CX := L2.CX0) rfl (by decide) (by kernel_rfl) ⟨rfl, by decide, by decide⟩ ?F (fun _ _ _ _ z => z)
    intro w mg fa h Y G hmg0
    obtain ⟨K, KX, c⟩ := Y
    have hmg : mg ("law" : PySem.Str) = some (.ref fa) := by
      have e : (HandSHeadRun.topDef Toy.RW.prog 85).name = ("law" : PySem.Str) := by kernel_rfl
      rw [← e]
      exact hmg0
    obtain ⟨fd, hb, hF⟩ := Toy.facts2 (P := PySem.Challenge.rw_beatrows_k34_nodes_told.prog) (w := w) KX G hmg c.1 c.2
    exact ⟨K, fd, Toy.sp_law K, KX, hb, fun H a ns hl _ hS => ⟨a, ns, rfl, hS, hl, fun _ => rfl⟩, hF⟩
