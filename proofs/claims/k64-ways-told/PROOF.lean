import PyProof.Rows.All
import Wide.All
import OpenK.AllK
import Wide.FinOn
import KE.KExcIs
import HandS.ForMost
import HandS.IsInst
import HandS.Flow
import HandS.Evl
import HandS.Walk
import HandS.Replace
import HandS.Deep
import HandS.SortKw
import HandS.Wide
import HandS.ExcOwn
import HandS.WordsExc
import HandS.TryMany
import HandS.More
import KE.DatumOrd
import HandS.DeepEq
import KE.KEqDict
import HandS.Exc
import HandS.ExcField
import HandS.ExcInit
import HandS.ExcValue
import HandS.Defaults
import HandS.ListItems
import HandS.TupAny
import HandS.SetKeys
import HandS.Style
import HandS.Finally
import HandS.SuiteRaise
import HandS.Head0
import HandS.Head1
import HandS.Head2
import HandS.HeadEnd
import HandS.HeadHook1
import HandS.HeadHook2
import HandS.HeadHook3
import HandS.HeadHook4
import PySem.Challenge.RW_beatrows_k64_ways_told
set_option Elab.async false
set_option linter.all false
set_option maxRecDepth 100000
set_option maxHeartbeats 4000000
/-! ### own small rules -/
namespace L2
open PySem PySem.Spec PyProof.Rows
section
variable {X : Cx}
theorem pe_gcst {x : Str} {v : V} {pos : Pos} (hg : Gl X x) (h : ∃ u, X.mg x = some u ∧ RelV v u) (hd : (x == ("__debug__" : Str)) = false := by decide) : PE X (.Name x pos) (tC v) :=
  let ⟨_, hm, r⟩ := h
  pe_glob hg hm r hd
/-- divmod by any divisor but nought, below 2^30 -/
theorem call_divmodN : CallR X (.builtin "divmod") (fun xs H Q => ∃ i j : Int, xs = [.int i, .int j] ∧ CDivN i j ∧ ∀ p, H p = none → Q (.ref p) (upd H p (.tup [.int (i.fdiv j), .int (i.fmod j)]))) := by
  intro pins s σ H xs us Q I r h
  obtain ⟨i, j, rfl, ⟨h1, h2⟩, q⟩ := h
  obtain ⟨u, w', rfl, ⟨t, rfl⟩, ⟨t', rfl⟩⟩ := vals2 r
  refine divmod_int h1 ?_ (.inl (PyProof.noPylong_small h2))
  have hn := I.hok.fresh (Nat.le_refl s.heap.objs.size)
  refine ⟨.ref s.heap.objs.size, upd H s.heap.objs.size (.tup [.int (i.fdiv j), .int (i.fmod j)]), ?_, rfl, q _ hn⟩
  refine I.laid (fun b o e => Heap.get?_push_of_some _ e) (Nat.le_refl _) ?_
  refine ⟨by show 2 ≤ sizeLine; decide, [.int (i.fdiv j) s.toks, .int (i.fmod j) (s.toks + 1)], ?_, ?_⟩
  · exact .cons ⟨_, rfl⟩ (.cons ⟨_, rfl⟩ .nil)
  · exact ⟨_, Heap.get?_push_size s.heap rfl, rfl, 0, rfl⟩
end
/-- a new tuple, a new list of these, all else kept -/
def RetT (xs : List V) (H : Hp) (Q : VK) : Prop := ∀ p H2, H p = none → Evl.Ex H H2 → H2 p = some (.tup xs) → Q (.ref p) H2
def RetL (xs : List V) (H : Hp) (Q : VK) : Prop := ∀ p H2, H p = none → Evl.Ex H H2 → H2 p = some (.lst xs) → Q (.ref p) H2
def RetV (v : V) (H : Hp) (Q : VK) : Prop := ∀ H2, Evl.Ex H H2 → Q v H2
theorem RetT.up {xs : List V} {H0 H : Hp} {Q : VK} (k : RetT xs H0 Q) (e : Evl.Ex H0 H) : RetT xs H Q := fun p H2 hp e2 h2 => k p H2 (Evl.fresh_back e hp) (e.trans e2) h2
theorem RetL.up {xs : List V} {H0 H : Hp} {Q : VK} (k : RetL xs H0 Q) (e : Evl.Ex H0 H) : RetL xs H Q := fun p H2 hp e2 h2 => k p H2 (Evl.fresh_back e hp) (e.trans e2) h2
theorem RetV.up {v : V} {H0 H : Hp} {Q : VK} (k : RetV v H0 Q) (e : Evl.Ex H0 H) : RetV v H Q := fun H2 e2 => k H2 (e.trans e2)
def NewT (xs : List V) (H : Hp) (Q : VK) : Prop := xs.length ≤ sizeLine ∧ ∀ p, H p = none → Q (.ref p) (upd H p (.tup xs))
def NewL (xs : List V) (H : Hp) (Q : VK) : Prop := xs.length ≤ sizeLine ∧ ∀ p, H p = none → Q (.ref p) (upd H p (.lst xs))
theorem newT {xs : List V} {H : Hp} {Q : VK} (k : RetT xs H Q) (hz : xs.length ≤ 100000 := by exact Nat.le_of_ble_eq_true rfl) : NewT xs H Q := ⟨Evl.sz_of hz, fun p hp => k p _ hp (Evl.Ex.new hp) upd_same⟩
theorem newL {xs : List V} {H : Hp} {Q : VK} (k : RetL xs H Q) (hz : xs.length ≤ 100000 := by exact Nat.le_of_ble_eq_true rfl) : NewL xs H Q := ⟨Evl.sz_of hz, fun p hp => k p _ hp (Evl.Ex.new hp) upd_same⟩
theorem if_tt {c : Bool} {A B : Prop} (hc : c = true) (h : A) : if c = true then A else B := by rw [if_pos hc]; exact h
theorem if_ff {c : Bool} {A B : Prop} (hc : c = false) (h : B) : if c = true then A else B := by rw [hc]; exact iteF h
theorem if_nt {A B : Prop} (h : B) : if (!true) = true then A else B := iteF h
theorem if_nf {A B : Prop} (h : A) : if (!false) = true then A else B := iteT h
theorem if_cs {c : Bool} {A B : Prop} (h1 : c = true → A) (h2 : c = false → B) : if c = true then A else B := by
  cases c with
  | true => exact iteT (h1 rfl)
  | false => exact iteF (h2 rfl)
theorem kb_ii : kitB "int" "int" = some true := by decide +kernel
theorem kb_bi : kitB "bool" "int" = some true := by decide +kernel
theorem kb_ib : kitB "int" "bool" = some false := by decide +kernel
theorem kb_bb : kitB "bool" "bool" = some true := by decide +kernel
theorem ty_int {K : PySem.W.Frag} {H : Hp} (i : Int) : TyX K H (.int i) (.type "int") := .base (.int i)
theorem ty_bl {K : PySem.W.Frag} {H : Hp} (b : Bool) : TyX K H (.bl b) (.type "bool") := .base (.bl b)
theorem ty_str {K : PySem.W.Frag} {H : Hp} (b : Str) : TyX K H (.str b) (.type "str") := .base (.str b)
theorem ty_non {K : PySem.W.Frag} {H : Hp} : TyX K H .non (.type "NoneType") := .base .non
theorem ty_tup {K : PySem.W.Frag} {H : Hp} {a : Addr} {xs : List V} (h : H a = some (.tup xs)) : TyX K H (.ref a) (.type "tuple") := .base (.tup h)
theorem ty_lst {K : PySem.W.Frag} {H : Hp} {a : Addr} {xs : List V} (h : H a = some (.lst xs)) : TyX K H (.ref a) (.type "list") := .base (.lst h)
/-- isinstance of a thing of a built-in type -/
theorem isi {K : PySem.W.Frag} {H : Hp} {Q : VK} {x : V} {a b : String} {r : Bool} (h : TyX K H x (.type a)) (e : kitB a b = some r) (q : Q (.bl r) H) : rIsi K [x, .ty b] H Q :=
  ⟨x, .ty b, .type a, .type b, r, rfl, .ty b, h, kit_ty e, q⟩
end L2

/-! ### readings, one step each (the goal's head tells which) -/
namespace L2
open PySem PySem.Spec PyProof.Rows
section
variable {K : PySem.W.Frag} {σ : St} {H : Hp} {Q : VK} {B : Bool → Hp → Prop} {ta tb tc te : TE} {t u : TT} {tA : TA} {D : Ends} {s1 s2 : TS} {g : TG} {gs : TGs} {v : V} {r : R2}
theorem c_var {i : Nat} (h : σ[i]? = some (some v)) (q : Q v H) : tVar i σ H Q := ⟨v, h, q⟩
theorem c_c (q : Q v H) : tC v σ H Q := q
theorem c_op (h : ta σ H fun x H1 => tb σ H1 fun y H2 => r x y H2 Q) : tOp r ta tb σ H Q := h
theorem c_un {f : V → Hp → VK → Prop} (h : ta σ H fun x H1 => f x H1 Q) : tUn f ta σ H Q := h
theorem c_test (h : te σ H fun x H1 => ∃ k, x = .bl k ∧ B k H1) : tTest te σ H B := h
theorem c_b (h : te σ H fun x H1 => ∃ k, x = .bl k ∧ B k H1) : tB te σ H B := h
theorem c_and (h : t σ H fun c H1 => if c = true then u σ H1 B else B false H1) : tAnd t u σ H B := h
theorem c_or (h : t σ H fun c H1 => if c = true then B true H1 else u σ H1 B) : tOr t u σ H B := h
theorem c_not (h : t σ H fun c H1 => B (!c) H1) : tNot t σ H B := h
theorem c_andV (h : ta σ H fun x H1 => ∃ c, x = .bl c ∧ if c = true then tb σ H1 Q else Q (.bl false) H1) : tAndV ta tb σ H Q := h
theorem c_orV (h : ta σ H fun x H1 => ∃ c, x = .bl c ∧ if c = true then Q (.bl true) H1 else tb σ H1 Q) : tOrV ta tb σ H Q := h
theorem c_notV (h : ta σ H fun x H1 => ∃ c, x = .bl c ∧ Q (.bl (!c)) H1) : tNotV ta σ H Q := h
theorem c_if (h : t σ H fun c H1 => if c = true then ta σ H1 Q else tb σ H1 Q) : tIf t ta tb σ H Q := h
theorem c_orT (h : ta σ H fun x H1 => ∃ k, TruV K x H1 k ∧ if k = true then Q x H1 else tb σ H1 Q) : tOrT K ta tb σ H Q := h
theorem c_andT (h : ta σ H fun x H1 => ∃ k, TruV K x H1 k ∧ if k = true then tb σ H1 Q else Q x H1) : tAndT K ta tb σ H Q := h
theorem c_notT (h : ta σ H fun x H1 => ∃ k, TruV K x H1 k ∧ Q (.bl (!k)) H1) : tNotT K ta σ H Q := h
theorem c_yes (h : B true H) : tYes σ H B := h
theorem c_nil {q : List V → Hp → Prop} (h : q [] H) : tNil σ H q := h
theorem c_cons {q : List V → Hp → Prop} (h : ta σ H fun x H1 => tA σ H1 fun xs H2 => q (x :: xs) H2) : tCons ta tA σ H q := h
theorem c_tup (h : tA σ H fun xs H1 => NewT xs H1 Q) : tTup tA σ H Q := h
theorem c_lst (h : tA σ H fun xs H1 => NewL xs H1 Q) : tLst tA σ H Q := h
theorem c_call {sp : Sp} {E : XK} (h : tA σ H fun vs H1 => sp vs H1 Q E) : tCall sp [] E tA σ H Q := by
  show tA σ H fun vs H1 => sp (vs ++ []) H1 Q E
  simp only [List.append_nil]
  exact h
theorem c_cb {f : List V → Hp → VK → Prop} (h : tA σ H fun vs H1 => f vs H1 Q) : tCB f tA σ H Q := h
theorem c_sl {f : V → Option Int → Option Int → Hp → VK → Prop} {tl th : TO} (h : te σ H fun x H1 => tl σ H1 fun l H2 => th σ H2 fun u H3 => f x l u H3 Q) : tSl f te tl th σ H Q := h
theorem c_noPart {q : Option Int → Hp → Prop} (h : q none H) : tNoPart σ H q := h
theorem c_part {q : Option Int → Hp → Prop} (h : te σ H fun x H1 => ∃ i, x = .int i ∧ q (some i) H1) : tPart te σ H q := h
theorem c_bm {T : String} {f : V → List V → Hp → VK → Prop} (h : te σ H fun x H1 => tyV K T x H1 ∧ tA σ H1 fun xs H2 => f x xs H2 Q) : tBM K T f te tA σ H Q := h
theorem c_bm0 {T : String} {f : V → List V → Hp → VK → Prop} (h : te σ H fun x H1 => tyV K T x H1 ∧ f x [] H1 Q) : tBM0 K T f te σ H Q := h
theorem c_m0 {f : V → List V → Hp → VK → Prop} (h : te σ H fun x H1 => (∃ a, x = .str a) ∧ f x [] H1 Q) : tM0 f te σ H Q := h
theorem c_m1 {f : V → List V → Hp → VK → Prop} (h : ta σ H fun x H1 => (∃ a, x = .str a) ∧ tb σ H1 fun y H2 => f x [y] H2 Q) : tM1 f ta tb σ H Q := h
theorem c_chain {r' : R2} (h : ta σ H fun x H1 => tb σ H1 fun y H2 => r x y H2 fun z H3 => ∃ k, z = .bl k ∧ (if k = true then tc σ H3 fun w' H4 => r' y w' H4 Q else Q (.bl false) H3)) : tChain r r' ta tb tc σ H Q := h
/-! statements -/
theorem c_next (h : D.nx σ H) : tNext D σ H := h
theorem c_seq (h : s1 { D with nx := s2 D } σ H) : tSeq s1 s2 D σ H := h
theorem c_asg (h : te σ H fun x H1 => g x σ H1 D.nx) : tAsg te g D σ H := h
theorem c_ret (h : te σ H D.rt) : tRet te D σ H := h
theorem c_retN (h : D.rt .non H) : tRetN D σ H := h
theorem c_ifS (h : t σ H fun b H1 => if b = true then s1 D σ H1 else s2 D σ H1) : tIfS t s1 s2 D σ H := h
theorem c_drop (h : te σ H fun _ H1 => D.nx σ H1) : tDrop te D σ H := h
theorem c_break (h : D.bk σ H) : tBreak D σ H := h
theorem c_cont (h : D.ct σ H) : tCont D σ H := h
theorem c_nx {nx : St → Hp → Prop} {rt : VK} {bk ct : St → Hp → Prop} (h : nx σ H) : Ends.nx ⟨nx, rt, bk, ct⟩ σ H := h
theorem c_rt {nx : St → Hp → Prop} {rt : VK} {bk ct : St → Hp → Prop} (h : rt v H) : Ends.rt ⟨nx, rt, bk, ct⟩ v H := h
theorem c_bk {nx : St → Hp → Prop} {rt : VK} {bk ct : St → Hp → Prop} (h : bk σ H) : Ends.bk ⟨nx, rt, bk, ct⟩ σ H := h
theorem c_ct {nx : St → Hp → Prop} {rt : VK} {bk ct : St → Hp → Prop} (h : ct σ H) : Ends.ct ⟨nx, rt, bk, ct⟩ σ H := h
theorem c_gName {i : Nat} {q : St → Hp → Prop} (h : q (σ.set i (some v)) H) : gName i v σ H q := h
theorem c_gTup {n : Nat} {a : Addr} {xs : List V} {q : St → Hp → Prop} (hs : SqT K H a xs) (hl : xs.length = n) (h : gs xs σ H q) : gTup K n gs (.ref a) σ H q := ⟨a, xs, rfl, hs, hl, h⟩
theorem c_gCons {vs : List V} {q : St → Hp → Prop} (h : g v σ H fun σ' H' => gs vs σ' H' q) : gCons g gs (v :: vs) σ H q := ⟨v, vs, rfl, h⟩
theorem c_gNil {q : St → Hp → Prop} (h : q σ H) : gNil [] σ H q := ⟨rfl, h⟩
theorem c_gSub {to ti : TE} {f : TSet} {q : St → Hp → Prop} (h : to σ H fun o H1 => ti σ H1 fun i H2 => f o i v H2 fun H3 => q σ H3) : gSub to ti f v σ H q := h
theorem c_cut {M : St → Hp → Prop} (h : s1 { D with nx := M } σ H) (k : ∀ σ' H', M σ' H' → s2 D σ' H') : Evl.tCut s1 s2 D σ H := ⟨M, h, k⟩
/-! operations on values -/
theorem c_I0 {f : Int → Int → V} {i j : Int} (q : Q (f i j) H) : rI0 f (.int i) (.int j) H Q := ⟨i, j, rfl, rfl, q⟩
theorem c_I {C : Int → Int → Prop} {f : Int → Int → V} {i j : Int} (hc : C i j) (q : Q (f i j) H) : rI C f (.int i) (.int j) H Q := ⟨i, j, rfl, rfl, hc, q⟩
theorem c_U {f : Int → V} {i : Int} (q : Q (f i) H) : rU f (.int i) H Q := ⟨i, rfl, q⟩
theorem c_eq {x y : V} (h : scal x y = true) (q : Q (.bl (decide (x = y))) H) : rEq x y H Q := ⟨h, q⟩
theorem c_ne {x y : V} (h : scal x y = true) (q : Q (.bl (!decide (x = y))) H) : rNe x y H Q := ⟨h, q⟩
theorem c_ixL {p : Addr} {xs : List V} {i : Int} (h : SqL K H p xs) (ha : atI xs i = some v) (q : Q v H) : rIxL K (.ref p) (.int i) H Q := ⟨p, xs, i, v, rfl, rfl, h, ha, q⟩
theorem c_ixT {p : Addr} {xs : List V} {i : Int} (h : SqT K H p xs) (ha : atI xs i = some v) (q : Q v H) : rIxT K (.ref p) (.int i) H Q := ⟨p, xs, i, v, rfl, rfl, h, ha, q⟩
theorem c_setL {p : Addr} {xs : List V} {k : Int} {j : Nat} {q : Hp → Prop} (h : H p = some (.lst xs)) (hj : ixN xs.length k = some j) (h2 : q (upd H p (.lst (xs.set j v)))) : rSetL (.ref p) (.int k) v H q := ⟨p, xs, k, j, rfl, rfl, h, hj, h2⟩
theorem c_in {x : V} {p : Addr} {xs : List V} (h : SqL K H p xs ∨ SqT K H p xs) (hx : flatV x = true) (ha : xs.all flatV = true) (q : Q (.bl (inV x xs)) H) : rIn K false x (.ref p) H Q := ⟨p, xs, rfl, h, hx, ha, q⟩
theorem c_notin {x : V} {p : Addr} {xs : List V} (h : SqL K H p xs ∨ SqT K H p xs) (hx : flatV x = true) (ha : xs.all flatV = true) (q : Q (.bl (!inV x xs)) H) : rIn K true x (.ref p) H Q := ⟨p, xs, rfl, h, hx, ha, q⟩
theorem c_cat {l b : Addr} {xs zs : List V} (h : H l = some (.lst xs)) (h' : H b = some (.lst zs)) (k : RetL (xs ++ zs) H Q) (hz : xs.length + zs.length ≤ 100000 := by exact Nat.le_of_ble_eq_true rfl) : rCat (.ref l) (.ref b) H Q :=
  ⟨l, b, xs, zs, rfl, rfl, h, h', Evl.sz_of hz, fun p hp => k p _ hp (Evl.Ex.new hp) upd_same⟩
end
end L2

/-! ### == of tuples and lists of flat things -/
namespace L2
open PySem PySem.Spec PyProof.Rows
def dOf : V → PyData
  | .non => .none
  | .bl b => .bool b
  | .int i => .int i
  | .str x => .str x
  | _ => .none
/-- flat, its signs within the line -/
def okV : V → Bool
  | .non => true
  | .bl _ => true
  | .int _ => true
  | .str x => PyData.strOk x
  | _ => false
theorem okV_flat {v : V} (h : okV v = true) : flatV v = true := by
  cases v <;> first | rfl | exact absurd h Bool.false_ne_true
theorem okL_flat {xs : List V} (h : xs.all okV = true) : xs.all flatV = true := by
  rw [List.all_eq_true] at h ⊢
  exact fun x hx => okV_flat (h x hx)
def eqL : List V → List V → Bool
  | [], [] => true
  | x :: xs, y :: ys => eqV x y && eqL xs ys
  | _, _ => false
theorem dp_flat {K : PySem.W.Frag} {H : Hp} {v : V} (h : flatV v = true) : Dp K H v (dOf v) := by
  cases v with
  | non => exact .non
  | bl b => exact .bl b
  | int i => exact .int i
  | str x => exact .str x
  | _ => exact absurd h Bool.false_ne_true
theorem dpAll_flat {K : PySem.W.Frag} {H : Hp} : ∀ {xs : List V}, xs.all flatV = true → DpAll K H xs (xs.map dOf)
  | [], _ => .nil
  | x :: xs, h => by
    rw [List.all_cons, Bool.and_eq_true] at h
    exact .cons (dp_flat h.1) (dpAll_flat h.2)
theorem eqv_flat {a b : V} (ha : flatV a = true) (hb : flatV b = true) : PyData.eqv (dOf a) (dOf b) = eqV a b := by
  cases a <;> first | exact absurd ha Bool.false_ne_true | (cases b <;> first | exact absurd hb Bool.false_ne_true | simp [dOf, PyData.eqv, eqV])
theorem eqvAll_flat : ∀ {xs ys : List V}, xs.all flatV = true → ys.all flatV = true → PyData.eqvAll (xs.map dOf) (ys.map dOf) = eqL xs ys
  | [], [], _, _ => by simp [PyData.eqvAll, eqL]
  | [], _ :: _, _, _ => by simp [PyData.eqvAll, eqL]
  | _ :: _, [], _, _ => by simp [PyData.eqvAll, eqL]
  | x :: xs, y :: ys, h, h' => by
    rw [List.all_cons, Bool.and_eq_true] at h h'
    rw [List.map_cons, List.map_cons, PyData.eqvAll, eqv_flat h.1 h'.1, eqvAll_flat h.2 h'.2] <;> rfl
theorem flat_lay {v : V} (ho : okV v = true) : (dOf v).canLay0 = true ∧ (dOf v).depth ≤ 1 := by
  cases v <;> first | exact absurd ho Bool.false_ne_true | (simp [okV] at ho; simp [dOf, PyData.canLay0, PyData.depth, ho]) | simp [dOf, PyData.canLay0, PyData.depth]
theorem flat_layAll : ∀ {xs : List V}, xs.all okV = true → PyData.canLayAll0 (xs.map dOf) = true ∧ PyData.depthAll (xs.map dOf) ≤ 1
  | [], _ => by simp [PyData.canLayAll0, PyData.depthAll]
  | x :: xs, ho => by
    rw [List.all_cons, Bool.and_eq_true] at ho
    have h := flat_lay (v := x) ho.1
    have h2 := flat_layAll (xs := xs) ho.2
    rw [List.map_cons, PyData.canLayAll0, PyData.depthAll, h.1, h2.1]
    refine ⟨rfl, ?_⟩
    have := h.2
    have := h2.2
    omega
theorem shaped_tup {xs : List V} (ho : xs.all okV = true) : SeqAt.shaped (.tuple (xs.map dOf)) = true := by
  have h := flat_layAll (xs := xs) ho
  have h2 := h.2
  unfold SeqAt.shaped
  rw [PyData.canLay0, PyData.depth, h.1, Bool.true_and, decide_eq_true_eq]
  omega
theorem shaped_lst {xs : List V} (ho : xs.all okV = true) : SeqAt.shaped (.list (xs.map dOf)) = true := by
  have h := flat_layAll (xs := xs) ho
  have h2 := h.2
  unfold SeqAt.shaped
  rw [PyData.canLay0, PyData.depth, h.1, Bool.true_and, decide_eq_true_eq]
  omega
section
variable {K : PySem.W.Frag} {H : Hp} {Q : VK} {p q : Addr} {xs ys : List V}
theorem c_eqT (h : SqT K H p xs) (h' : SqT K H q ys) (f : xs.all okV = true) (f' : ys.all okV = true) (k : Q (.bl (eqL xs ys)) H) : rEqD K (.ref p) (.ref q) H Q :=
  ⟨_, _, .tup h (dpAll_flat (okL_flat f)), .tup h' (dpAll_flat (okL_flat f')), shaped_tup f, shaped_tup f', by rw [PyData.eqv, eqvAll_flat (okL_flat f) (okL_flat f')]; exact k⟩
theorem c_neT (h : SqT K H p xs) (h' : SqT K H q ys) (f : xs.all okV = true) (f' : ys.all okV = true) (k : Q (.bl (!eqL xs ys)) H) : rNeD K (.ref p) (.ref q) H Q :=
  ⟨_, _, .tup h (dpAll_flat (okL_flat f)), .tup h' (dpAll_flat (okL_flat f')), shaped_tup f, shaped_tup f', by rw [PyData.eqv, eqvAll_flat (okL_flat f) (okL_flat f')]; exact k⟩
theorem c_eqLs (h : SqL K H p xs) (h' : SqL K H q ys) (f : xs.all okV = true) (f' : ys.all okV = true) (k : Q (.bl (eqL xs ys)) H) : rEqD K (.ref p) (.ref q) H Q :=
  ⟨_, _, .lst h (dpAll_flat (okL_flat f)), .lst h' (dpAll_flat (okL_flat f')), shaped_lst f, shaped_lst f', by rw [PyData.eqv, eqvAll_flat (okL_flat f) (okL_flat f')]; exact k⟩
theorem c_neLs (h : SqL K H p xs) (h' : SqL K H q ys) (f : xs.all okV = true) (f' : ys.all okV = true) (k : Q (.bl (!eqL xs ys)) H) : rNeD K (.ref p) (.ref q) H Q :=
  ⟨_, _, .lst h (dpAll_flat (okL_flat f)), .lst h' (dpAll_flat (okL_flat f')), shaped_lst f, shaped_lst f', by rw [PyData.eqv, eqvAll_flat (okL_flat f) (okL_flat f')]; exact k⟩
theorem eqV_refl {v : V} (h : flatV v = true) : eqV v v = true := by
  cases v <;> first | exact absurd h Bool.false_ne_true | simp [eqV]
theorem eqL_refl : ∀ {xs : List V}, xs.all flatV = true → eqL xs xs = true
  | [], _ => rfl
  | x :: xs, h => by
    rw [List.all_cons, Bool.and_eq_true] at h
    rw [eqL, eqV_refl h.1, eqL_refl h.2] <;> rfl
end
/-! ### the law's box -/
def BoxAt (H : Hp) (b : Addr) : Prop := ∃ x y z : Int, 0 ≤ x ∧ H b = some (.lst [.int x, .int y, .int z])
/-- all but b is kept -/
def ExB (b : Addr) (H H' : Hp) : Prop := ∀ a o, a ≠ b → H a = some o → H' a = some o
theorem ExB.refl (b : Addr) (H : Hp) : ExB b H H := fun _ _ _ h => h
theorem ExB.trans {b : Addr} {H H1 H2 : Hp} (e : ExB b H H1) (e2 : ExB b H1 H2) : ExB b H H2 := fun a o n h => e2 a o n (e a o n h)
theorem ExB.ex {b : Addr} {H H1 H2 : Hp} (e : ExB b H H1) (e2 : Evl.Ex H1 H2) : ExB b H H2 := fun a o n h => e2 a o (e a o n h)
theorem ExB.of {b : Addr} {H H1 : Hp} (e : Evl.Ex H H1) : ExB b H H1 := fun a o _ h => e a o h
theorem ExB.upd {b : Addr} {H : Hp} {o : HO} : ExB b H (upd H b o) := fun a u n h => by rw [upd_ne n]; exact h
theorem BoxAt.ex {H H' : Hp} {b : Addr} (h : BoxAt H b) (e : Evl.Ex H H') : BoxAt H' b := let ⟨x, y, z, p, q⟩ := h; ⟨x, y, z, p, e _ _ q⟩
/-- what did not stand before b was made is kept through ExB b -/
theorem ExB.tot {b : Addr} {H0 H H' : Hp} (e : Evl.Ex H0 H) (n : H0 b = none) (e2 : ExB b H H') : Evl.Ex H0 H' := fun a o h => e2 a o (ne_of_none h n) (e a o h)
theorem ExB.lst {K : PySem.W.Frag} {b a : Addr} {H H' : Hp} {xs : List V} (e : ExB b H H') (n : a ≠ b) (h : SqL K H a xs) : SqL K H' a xs := by
  rcases h with (h | ⟨o, h⟩) | h
  · exact .inl (.inl (e _ _ n h))
  · exact .inl (.inr ⟨o, e _ _ n h⟩)
  · exact .inr h
end L2
namespace L2
open PySem PySem.Spec PyProof.Rows
theorem shaped_flat {v : V} (h : okV v = true) : SeqAt.shaped (dOf v) = true := by
  have q := flat_lay h
  unfold SeqAt.shaped
  rw [q.1, Bool.true_and, decide_eq_true_eq]
  have := q.2
  omega
theorem c_eqF {K : PySem.W.Frag} {H : Hp} {Q : VK} {x y : V} (f : okV x = true) (f' : okV y = true) (k : Q (.bl (eqV x y)) H) : rEqD K x y H Q :=
  ⟨_, _, dp_flat (okV_flat f), dp_flat (okV_flat f'), shaped_flat f, shaped_flat f', by rw [eqv_flat (okV_flat f) (okV_flat f')]; exact k⟩
theorem c_neF {K : PySem.W.Frag} {H : Hp} {Q : VK} {x y : V} (f : okV x = true) (f' : okV y = true) (k : Q (.bl (!eqV x y)) H) : rNeD K x y H Q :=
  ⟨_, _, dp_flat (okV_flat f), dp_flat (okV_flat f'), shaped_flat f, shaped_flat f', by rw [eqv_flat (okV_flat f) (okV_flat f')]; exact k⟩
end L2
namespace L2
open PySem PySem.Spec PyProof.Rows
theorem dec_s {x y : Str} : decide (V.str x = V.str y) = decide (x = y) := by
  by_cases h : x = y
  · subst h; simp
  · rw [decide_eq_false h, decide_eq_false fun e => h (V.str.inj e)]
theorem str_ne {x y : Str} (h : x ≠ y) : decide (V.str x = V.str y) = false := by rw [dec_s]; exact decide_eq_false h
theorem str_eq {x y : Str} (h : x = y) : decide (V.str x = V.str y) = true := by rw [dec_s]; exact decide_eq_true h
end L2

/-! ### list.count of flat things -/
namespace L2
open PySem PySem.Spec PyProof.Rows
theorem countP_eqU {x : V} : ∀ {xs : List V} {us : List Value}, Vals xs us → xs.all flatV = true → us.countP (eqU x) = xs.countP fun y => eqV y x
  | _, _, .nil, _ => rfl
  | y :: xs, u :: us, .cons r t, h => by
    rw [List.all_cons, Bool.and_eq_true] at h
    rw [List.countP_cons, List.countP_cons, countP_eqU t h.2, eqU_of r h.1]
def rCntF (K : PySem.W.Frag) : V → List V → Hp → VK → Prop := fun x xs H Q => ∃ (p : Addr) (ys : List V) (y : V), x = .ref p ∧ xs = [y] ∧ SqL K H p ys ∧ flatV y = true ∧ ys.all flatV = true ∧ Q (.int ((ys.countP fun z => eqV z y : Nat) : Int)) H
theorem mt_countF {X : Cx} : MtR X "list.count" (rCntF X.K) := by
  intro pins s σ H x xs v us Q I rx rxs h
  obtain ⟨p, ys, y, rfl, rfl, hs, fy, fl, q⟩ := h
  cases rx
  obtain ⟨u, rfl, ru⟩ := rxs.one
  obtain ⟨its, rv, ⟨⟨cls, dd, data, sl⟩, n, ho, hc, hdn, hd⟩, hlen⟩ := I.list hs
  simp only at hc hd
  subst hc hd
  have ec : its.toArray.toList.countP (eqU y) = ys.countP fun z => eqV z y := countP_eqU rv fl
  refine call_meets PySem.F.slot_list_count ⟨_, ho, rfl⟩ PySem.F.entry_list_count (PySem.F.args_list_count_2 _ _)
    (SeqAt.list_countAt p its.toArray n dd sl u (eqU y)) ⟨ho, fun z hz => mem_eqAt ru fy rv fl z (by simpa using hz), ?_⟩
  refine ⟨.int ((ys.countP fun z => eqV z y : Nat) : Int), H, I.tok _, ⟨s.toks, ?_⟩, q⟩
  rw [ec]
end L2

/-! ### a list comprehension whose element and test are told by the turn -/
namespace L2
open PySem PySem.Spec PyProof.Rows
theorem range_fm {f : Nat → Option V} {n : Nat} : (List.range (n + 1)).filterMap f = (List.range n).filterMap f ++ (f n).toList := by
  rw [List.range_succ, List.filterMap_append]
  cases h : f n <;> simp [List.filterMap_cons, h]
theorem fm_len {f : Nat → Option V} {n : Nat} : ((List.range n).filterMap f).length ≤ n := by
  have h := List.length_filterMap_le f (List.range n)
  rw [List.length_range] at h
  exact h
section
variable {K : PySem.W.Frag} {σ : St} {H : Hp} {Q : VK} {g : TG} {tt : TT} {te : TE} {vs : List Nat}
/-- one turn: the target, the test, the element come to f i, all that stood kept -/
def LcTurn (g : TG) (tt : TT) (te : TE) (vs : List Nat) (σ : St) (H : Hp) (x : V) (y : Option V) : Prop :=
  ∀ H2, Evl.Ex H H2 → ∀ R : Option V → Hp → Prop, (∀ H3, Evl.Ex H2 H3 → R y H3) →
    g x (wipe σ vs) H2 fun σ2 H3 => wipe σ2 vs = wipe σ vs ∧ tt σ2 H3 fun b H4 => if b = true then te σ2 H4 fun y H5 => R (some y) H5 else R none H4
theorem lc_of {n : Nat} {D : Addr} {H1 : Hp} {f : Nat → Option V} {i : Nat} {H' : Hp} (hn : n ≤ 50000) (hi : i < n) (p1 : H1 D = none) (p2 : Evl.Ex H1 H') (p3 : H' D = some (.lst ((List.range i).filterMap f))) {x : V} (ht : LcTurn g tt te vs σ H1 x (f i)) :
    g x (wipe σ vs) H' fun σ2 H2 => wipe σ2 vs = wipe σ vs ∧ tt σ2 H2 fun b H3 =>
      if b = true then te σ2 H3 fun y H4 => ∃ acc, H4 D = some (.lst acc) ∧ acc.length < sizeLine ∧ (H1 D = none ∧ Evl.Ex H1 (upd H4 D (.lst (acc ++ [y]))) ∧ upd H4 D (.lst (acc ++ [y])) D = some (.lst ((List.range (i + 1)).filterMap f))) else (H1 D = none ∧ Evl.Ex H1 H3 ∧ H3 D = some (.lst ((List.range (i + 1)).filterMap f))) := by
  refine ht H' p2 (fun o H4 => match o with
    | some y => ∃ acc, H4 D = some (.lst acc) ∧ acc.length < sizeLine ∧ (H1 D = none ∧ Evl.Ex H1 (upd H4 D (.lst (acc ++ [y]))) ∧ upd H4 D (.lst (acc ++ [y])) D = some (.lst ((List.range (i + 1)).filterMap f)))
    | none => (H1 D = none ∧ Evl.Ex H1 H4 ∧ H4 D = some (.lst ((List.range (i + 1)).filterMap f)))) (fun H3 e3 => ?_)
  cases hf : f i with
  | some y =>
    refine ⟨_, e3 _ _ p3, ?_, p1, Evl.Ex.mut (p2.trans e3) p1, ?_⟩
    · have := fm_len (f := f) (n := i)
      exact Evl.sz_lt (by omega)
    · rw [upd_same, range_fm, hf] <;> rfl
  | none =>
    refine ⟨p1, p2.trans e3, ?_⟩
    rw [range_fm, hf]
    show H3 D = some (.lst (_ ++ []))
    rw [List.append_nil]
    exact e3 _ _ p3
end
end L2

/-! ### loops -/
namespace L2
open PySem PySem.Spec PyProof.Rows
/-- a loop over what is walked already -/
def ForI (J : It) (g : TG) (tb : TS) (D : Ends) (σ : St) (H : Hp) : Prop := tFor (fun _ H1 R => R J H1) g tb D σ H
section
variable {K : PySem.W.Frag} {σ : St} {H : Hp} {D : Ends} {g : TG} {tb : TS} {ta : TA} {tl : TE}
theorem c_forR1 (h : ta σ H fun vs H1 => ∃ j : Int, vs = [.int j] ∧ -(2 ^ 62) ≤ j ∧ j < 2 ^ 62 ∧ ForI (Itr 0 j.toNat) g tb D σ H1) : tFor (iRng1 ta) g tb D σ H := h
theorem c_forR2 (h : ta σ H fun vs H1 => ∃ i j : Int, vs = [.int i, .int j] ∧ (-(2 ^ 62) ≤ i ∧ i < 2 ^ 62 ∧ -(2 ^ 62) ≤ j ∧ j < 2 ^ 62) ∧ ForI (Itr i (j - i).toNat) g tb D σ H1) : tFor (iRng2 ta) g tb D σ H := h
theorem c_forL (h : tl σ H fun x H1 => ∃ a, x = .ref a ∧ (∃ xs, SqL K H1 a xs) ∧ ForI (Itl K a) g tb D σ H1) : tFor (iList K tl) g tb D σ H := h
theorem c_forT (h : tl σ H fun x H1 => ∃ a, x = .ref a ∧ (∃ xs, SqT K H1 a xs) ∧ ForI (Itt K a) g tb D σ H1) : tFor (iTup K tl) g tb D σ H := h
/-- range(n), n whole and not below 0 or below it -/
theorem forR {n : Nat} {j : Nat} (Pv : Nat → St → Hp → Prop) (h0 : Pv 0 σ H) (hs : ∀ (i : Nat) σ' H', i < n → Pv i σ' H' → tb { D with nx := Pv (i + 1), ct := Pv (i + 1), bk := D.nx } (σ'.set j (some (.int (i : Int)))) H') (hd : ∀ σ' H', Pv n σ' H' → D.nx σ' H') : ForI (Itr 0 n) (gName j) tb D σ H :=
  for_range (lo := 0) (n := n) Pv h0 (fun i σ' H' hi p => by
    have e0 : (0 : Int) + (i : Int) = (i : Int) := Int.zero_add _
    show tb { D with nx := Pv (i + 1), ct := Pv (i + 1), bk := D.nx } (σ'.set j (some (.int ((0 : Int) + (i : Int))))) H'
    rw [e0]
    exact hs i σ' H' hi p) hd
theorem forL {a : Addr} {xs : List V} {j : Nat} (Pv : Nat → St → Hp → Prop) (h0 : Pv 0 σ H) (hl : ∀ i σ' H', i ≤ xs.length → Pv i σ' H' → SqL K H' a xs)
    (hs : ∀ i x σ' H', xs[i]? = some x → Pv i σ' H' → tb { D with nx := Pv (i + 1), ct := Pv (i + 1), bk := D.nx } (σ'.set j (some x)) H') (hd : ∀ σ' H', Pv xs.length σ' H' → D.nx σ' H') : ForI (Itl K a) (gName j) tb D σ H := for_list Pv h0 hl hs hd
theorem forT {a : Addr} {xs : List V} {j : Nat} (Pv : Nat → St → Hp → Prop) (h0 : Pv 0 σ H) (hl : ∀ i σ' H', i ≤ xs.length → Pv i σ' H' → SqT K H' a xs)
    (hs : ∀ i x σ' H', xs[i]? = some x → Pv i σ' H' → tb { D with nx := Pv (i + 1), ct := Pv (i + 1), bk := D.nx } (σ'.set j (some x)) H') (hd : ∀ σ' H', Pv xs.length σ' H' → D.nx σ' H') : ForI (Itt K a) (gName j) tb D σ H := for_tup Pv h0 hl hs hd
end
/-- a comprehension over what is walked already -/
def LcI (J : It) (g : TG) (tt : TT) (te : TE) (vs : List Nat) (σ : St) (H : Hp) (Q : VK) : Prop := tLc (fun _ H1 R => R J H1) g tt te vs σ H Q
section
variable {K : PySem.W.Frag} {σ : St} {H : Hp} {Q : VK} {g : TG} {tt : TT} {te : TE} {vs : List Nat} {ta : TA} {tl : TE}
theorem c_lcR1 (h : ta σ H fun ws H1 => ∃ j : Int, ws = [.int j] ∧ -(2 ^ 62) ≤ j ∧ j < 2 ^ 62 ∧ LcI (Itr 0 j.toNat) g tt te vs σ H1 Q) : tLc (iRng1 ta) g tt te vs σ H Q := h
theorem c_lcLi (h : tl σ H fun x H1 => ∃ a, x = .ref a ∧ (∃ xs, SqL K H1 a xs) ∧ LcI (Itl K a) g tt te vs σ H1 Q) : tLc (iList K tl) g tt te vs σ H Q := h
theorem c_lcTi (h : tl σ H fun x H1 => ∃ a, x = .ref a ∧ (∃ xs, SqT K H1 a xs) ∧ LcI (Itt K a) g tt te vs σ H1 Q) : tLc (iTup K tl) g tt te vs σ H Q := h
theorem lcL {a : Addr} {xs : List V} (f : Nat → Option V) (hs : SqL K H a xs) (hl : xs.length ≤ 50000) (ht : ∀ (i : Nat) (x : V), xs[i]? = some x → LcTurn g tt te vs σ H x (f i)) (k : RetL ((List.range xs.length).filterMap f) H Q) : LcI (Itl K a) g tt te vs σ H Q := by
  refine fun D hD => ?_
  refine lc_list (xs := xs) (fun i H' => H D = none ∧ Evl.Ex H H' ∧ H' D = some (.lst ((List.range i).filterMap f))) ⟨hD, Evl.Ex.new hD, upd_same⟩ (fun i H' _ p => Evl.ex_l p.2.1 hs) (fun i x H' hi p => ?_) (fun H' p => k D H' p.1 p.2.1 p.2.2)
  exact lc_of hl (List.getElem?_eq_some_iff.mp hi).1 p.1 p.2.1 p.2.2 (ht i x hi)
theorem lcT {a : Addr} {xs : List V} (f : Nat → Option V) (hs : SqT K H a xs) (hl : xs.length ≤ 50000) (ht : ∀ (i : Nat) (x : V), xs[i]? = some x → LcTurn g tt te vs σ H x (f i)) (k : RetL ((List.range xs.length).filterMap f) H Q) : LcI (Itt K a) g tt te vs σ H Q := by
  refine fun D hD => ?_
  refine lc_tup (xs := xs) (fun i H' => H D = none ∧ Evl.Ex H H' ∧ H' D = some (.lst ((List.range i).filterMap f))) ⟨hD, Evl.Ex.new hD, upd_same⟩ (fun i H' _ p => Evl.ex_t p.2.1 hs) (fun i x H' hi p => ?_) (fun H' p => k D H' p.1 p.2.1 p.2.2)
  exact lc_of hl (List.getElem?_eq_some_iff.mp hi).1 p.1 p.2.1 p.2.2 (ht i x hi)
theorem lcR {n : Nat} (f : Nat → Option V) (hl : n ≤ 50000) (ht : ∀ (i : Nat), i < n → LcTurn g tt te vs σ H (.int (i : Int)) (f i)) (k : RetL ((List.range n).filterMap f) H Q) : LcI (Itr 0 n) g tt te vs σ H Q := by
  refine fun D hD => ?_
  refine lc_range (lo := 0) (n := n) (fun i H' => H D = none ∧ Evl.Ex H H' ∧ H' D = some (.lst ((List.range i).filterMap f))) ⟨hD, Evl.Ex.new hD, upd_same⟩ (fun i H' hi p => ?_) (fun H' p => k D H' p.1 p.2.1 p.2.2)
  have e0 : (0 : Int) + (i : Int) = (i : Int) := Int.zero_add _
  rw [e0]
  exact lc_of hl hi p.1 p.2.1 p.2.2 (ht i hi)
end
end L2

/-! ### texts -/
namespace L2
open PySem PySem.Spec PyProof.Rows
open TL (tl)
/-- x is b, x is not b, b True or False, x a flat thing -/
def rIsV : R2 := fun x y H Q => ∃ b : Bool, y = .bl b ∧ Q (.bl (decide (x = .bl b))) H
def rNotV : R2 := fun x y H Q => ∃ b : Bool, y = .bl b ∧ Q (.bl (!decide (x = .bl b))) H
section
variable {X : Cx}
theorem isV_plain {x : V} {v : Value} {b : Bool} (rx : RelV x v) : plainIs v (.bool b) = true ∧ (v == Value.bool b) = decide (x = .bl b) := by
  cases x with
  | non => cases (show v = Value.none from rx); exact ⟨rfl, rfl⟩
  | bl c =>
    cases (show v = Value.bool c from rx)
    refine ⟨rfl, ?_⟩
    cases c <;> cases b <;> rfl
  | int i => obtain ⟨t, e⟩ := (show ∃ t, v = Value.int i t from rx); cases e; exact ⟨rfl, rfl⟩
  | str z => obtain ⟨t, e⟩ := (show ∃ t, v = Value.str z t from rx); cases e; exact ⟨rfl, rfl⟩
  | byt z => obtain ⟨t, e⟩ := (show ∃ t, v = Value.bytes z t from rx); cases e; exact ⟨rfl, rfl⟩
  | flt z => obtain ⟨t, e⟩ := (show ∃ t, v = Value.float z t from rx); cases e; exact ⟨rfl, rfl⟩
  | ref a => cases (show v = Value.ref a from rx); exact ⟨rfl, rfl⟩
  | ty n => cases (show v = Value.type n from rx); exact ⟨rfl, rfl⟩
theorem op_isB : OpR X (compareOp .Is) rIsV := by
  intro pins s σ H x y v u Q I rx ry h
  obtain ⟨b, rfl, q⟩ := h
  cases (show u = Value.bool b from ry)
  have z := isV_plain (b := b) rx
  refine wpAny_is_plain z.1 ?_
  rw [z.2]
  exact ⟨.bl _, H, I, rfl, q⟩
theorem op_notB : OpR X (compareOp .IsNot) rNotV := by
  intro pins s σ H x y v u Q I rx ry h
  obtain ⟨b, rfl, q⟩ := h
  cases (show u = Value.bool b from ry)
  have z := isV_plain (b := b) rx
  refine wpAny_isNot_plain z.1 ?_
  rw [z.2]
  exact ⟨.bl _, H, I, rfl, q⟩
end
/-- s * n, n two at least -/
def repS (x : Str) (n : Nat) : Str := ⟨(List.replicate n x.cps).foldl (· ++ ·) #[]⟩
theorem rep_size (a : Array Nat) : ∀ (n : Nat) (acc : Array Nat), ((List.replicate n a).foldl (· ++ ·) acc).size = acc.size + n * a.size
  | 0, acc => by simp
  | n + 1, acc => by
    rw [List.replicate_succ, List.foldl_cons, rep_size a n, Array.size_append, Nat.succ_mul]
    omega
theorem repS_len (x : Str) (n : Nat) : (repS x n).length = n * x.length := by
  show ((List.replicate n x.cps).foldl (· ++ ·) #[]).size = _
  rw [rep_size]
  simp [Str.length]
section
variable {X : Cx}
theorem op_rep_str : OpR X (binaryOp .Mult) (fun x y H Q => ∃ (z : Str) (n : Int), x = .str z ∧ y = .int n ∧ 2 ≤ n ∧ n ≤ 100000 ∧ 0 < z.length ∧ z.length ≤ 100 ∧ Q (.str (repS z n.toNat)) H) := by
  intro pins s σ H x y v u Q I rx ry h
  obtain ⟨z, n, rfl, rfl, h2, h1, z0, z1, q⟩ := h
  obtain ⟨t, rfl⟩ := rx
  obtain ⟨t', rfl⟩ := ry
  have hs : sizeLine = 16777216 := sizeLine_eq
  have hp : z.length * n.toNat ≤ 100 * 100000 := Nat.mul_le_mul z1 (by omega)
  refine PySem.P.mul_str ?_ (fun _ _ => ?_) (fun _ _ => ?_) ?_
  · rw [decide_eq_false (by omega), decide_eq_false (by omega)]; rfl
  · have : (100 : Int) ≤ (2 ^ 63 - 1) / n := by
      rw [Int.le_ediv_iff_mul_le (by omega)]
      omega
    omega
  · unfold Builtin.Str.tooLong
    rw [decide_eq_false (by omega)]
  · rw [if_neg (by omega), if_neg (by
      rw [Bool.or_eq_true, beq_iff_eq, beq_iff_eq]
      omega)]
    refine ⟨?_, .str (repS z n.toNat), H, I.tok _, ⟨_, rfl⟩, q⟩
    have e := repS_len z n.toNat
    rw [Nat.mul_comm] at e
    show (repS z n.toNat).length ≤ sizeLine
    omega
end
/-! loops over a text -/
section
variable {K : PySem.W.Frag} {σ : St} {H : Hp} {D : Ends} {Q : VK} {g : TG} {tb : TS} {tl' : TE} {tt : TT} {te : TE} {vs : List Nat}
theorem c_forS (h : tl' σ H fun v H1 => ∃ x, v = .str x ∧ ForI (Its x) g tb D σ H1) : tFor (iStr tl') g tb D σ H := h
theorem c_lcSi (h : tl' σ H fun v H1 => ∃ x, v = .str x ∧ LcI (Its x) g tt te vs σ H1 Q) : tLc (iStr tl') g tt te vs σ H Q := h
theorem tl_get {x : Str} {i c : Nat} : x.cps[i]? = some c ↔ (tl x)[i]? = some c := by
  show _ ↔ x.cps.toList[i]? = some c
  rw [Array.getElem?_toList]
theorem tl_len (x : Str) : (tl x).length = x.length := by simp [tl, Str.length]
theorem forS {x : Str} {j : Nat} (Pv : Nat → St → Hp → Prop) (h0 : Pv 0 σ H)
    (hs : ∀ i c σ' H', (tl x)[i]? = some c → Pv i σ' H' → tb { D with nx := Pv (i + 1), ct := Pv (i + 1), bk := D.nx } (σ'.set j (some (.str ⟨#[c]⟩))) H') (hd : ∀ σ' H', Pv (tl x).length σ' H' → D.nx σ' H') : ForI (Its x) (gName j) tb D σ H :=
  for_it walk_str Pv h0 (fun _ _ _ _ _ => trivial) (fun i v σ' H' H'' hi p y => by
    obtain ⟨rfl, c, hc, rfl⟩ := y
    exact hs i c σ' H'' (tl_get.mp hc) p) (by
    have e : x.cps.size = (tl x).length := by simp [tl]
    rw [e]
    exact hd)
theorem fm_range {α : Type} {F : α → Option V} : ∀ {l : List α}, (List.range l.length).filterMap (fun i => (l[i]?).bind F) = l.filterMap F
  | [] => rfl
  | a :: l => by
    rw [List.length_cons, List.range_succ_eq_map, List.filterMap_cons, List.filterMap_map, List.filterMap_cons]
    have ih := fm_range (F := F) (l := l)
    rw [List.getElem?_cons_zero, Option.bind_some]
    have e : ((fun i => ((a :: l)[i]?).bind F) ∘ Nat.succ) = fun i => (l[i]?).bind F := by
      funext i
      simp
    rw [e, ih] <;> rfl
theorem lcS {x : Str} (F : Nat → Option V) (hl : x.length ≤ 50000) (ht : ∀ c, c ∈ tl x → LcTurn g tt te vs σ H (.str ⟨#[c]⟩) (F c)) (k : RetL ((tl x).filterMap F) H Q) : LcI (Its x) g tt te vs σ H Q := by
  refine fun D hD => ?_
  have e : x.cps.size = (tl x).length := by simp [tl]
  refine lc_it walk_str (fun i H' => H D = none ∧ Evl.Ex H H' ∧ H' D = some (.lst ((List.range i).filterMap fun i => ((tl x)[i]?).bind F))) ⟨hD, Evl.Ex.new hD, upd_same⟩ (fun _ _ _ _ => trivial) (fun i v H' H'' hi p y => ?_) (fun H' p => k D H' p.1 p.2.1 ?_)
  · obtain ⟨rfl, c, hc, rfl⟩ := y
    have hc2 := tl_get.mp hc
    refine lc_of (n := x.cps.size) (f := fun i => ((tl x)[i]?).bind F) hl hi p.1 p.2.1 p.2.2 ?_
    rw [hc2]
    exact ht c (List.mem_of_getElem? hc2)
  · have q := p.2.2
    rw [e, fm_range] at q
    exact q
/-- the same of a list, by what its things are -/
theorem lcLv {a : Addr} {xs : List V} (F : V → Option V) (hs : SqL K H a xs) (hl : xs.length ≤ 50000) (ht : ∀ x, x ∈ xs → LcTurn g tt te vs σ H x (F x)) (k : RetL (xs.filterMap F) H Q) : LcI (Itl K a) g tt te vs σ H Q := by
  refine lcL (fun i => (xs[i]?).bind F) hs hl (fun i x hi => ?_) ?_
  · rw [hi]
    exact ht x (List.mem_of_getElem? hi)
  · rw [fm_range]
    exact k
end
theorem fm_some {α : Type} {F : α → V} : ∀ (l : List α), l.filterMap (fun c => some (F c)) = l.map F
  | [] => rfl
  | a :: l => by rw [List.filterMap_cons, List.map_cons, fm_some l]
theorem tl_ext {x y : Str} : x = y ↔ tl x = tl y := ⟨fun h => by rw [h], TL.ext_tl⟩
theorem starts_is (x y : Str) : Txt.startswith x y = ((tl x).take (tl y).length == tl y) := by
  unfold Txt.startswith
  rw [StrLaws.subAt_eq]
  show (decide (0 + y.length ≤ x.length) && (((tl x).drop 0).take y.length == tl y)) = _
  rw [List.drop_zero, tl_len]
  cases h : (List.take y.length (tl x) == tl y) with
  | false => rw [Bool.and_false]
  | true =>
    rw [Bool.and_true, decide_eq_true_eq]
    have e := congrArg List.length (beq_iff_eq.mp h)
    rw [List.length_take, tl_len, tl_len] at e
    omega
theorem tl_cut (z : Str) (lo hi : Option Int) : tl (cutS z lo hi) = ((tl z).drop (HT.sIx z.length 0 lo)).take (HT.sIx z.length z.length hi - HT.sIx z.length 0 lo) := rfl
theorem tl_one (c : Nat) : tl ⟨#[c]⟩ = [c] := rfl
end L2
namespace L2
open PySem PySem.Spec PyProof.Rows
open TL (tl)
theorem c_ixS {H : Hp} {Q : VK} {z : Str} {i : Int} {c : Nat} (hz : z.length ≤ 100000) (ha : atI (tl z) i = some c) (q : Q (.str ⟨#[c]⟩) H) : rIxS (.str z) (.int i) H Q := ⟨z, i, c, rfl, rfl, Evl.sz_of hz, ha, q⟩
theorem c_slS {H : Hp} {Q : VK} {z : Str} {lo hi : Option Int} (hz : z.length ≤ 100000) (q : Q (.str (cutS z lo hi)) H) : rSlS (.str z) lo hi H Q := ⟨z, rfl, Evl.sz_of hz, q⟩
theorem sIx_le' (n d : Nat) (hd : d ≤ n) (o : Option Int) : HT.sIx n d o ≤ n := HT.sIx_le n d hd o
theorem add_len (a b : Str) : (a ++ b).length = a.length + b.length := by
  rw [← tl_len, TL.tl_append, List.length_append, tl_len, tl_len]
end L2
namespace L2
open PySem PySem.Spec PyProof.Rows
open TL (tl)
/-- a text whose signs lie within the line -/
def OkT (t : Str) : Prop := ∀ c, c ∈ tl t → c < 1114112
theorem okT_V {t : Str} (h : OkT t) : okV (.str t) = true := by
  show PyData.strOk t = true
  unfold PyData.strOk
  rw [Array.all_eq_true']
  intro c hc
  exact decide_eq_true (h c (Array.mem_toList_iff.mpr hc))
theorem okT_one {c : Nat} (h : c < 1114112) : okV (.str ⟨#[c]⟩) = true := okT_V fun d hd => by
  have : d = c := by simpa [tl] using hd
  omega
theorem OkT.app {a b : Str} (ha : OkT a) (hb : OkT b) : OkT (a ++ b) := fun c hc => by
  rw [TL.tl_append] at hc
  rcases List.mem_append.mp hc with h | h
  · exact ha c h
  · exact hb c h
theorem OkT.cut {a : Str} (ha : OkT a) (lo hi : Option Int) : OkT (cutS a lo hi) := fun c hc => ha c (List.mem_of_mem_drop (List.mem_of_mem_take hc))
theorem OkT.lit {t : Str} (h : (tl t).all (fun c => decide (c < 1114112)) = true) : OkT t := fun c hc => of_decide_eq_true (List.all_eq_true.mp h c hc)
end L2

/-! ### draws within a comprehension; joined texts -/
namespace L2
open PySem PySem.Spec PyProof.Rows
open TL (tl)
section
variable {K : PySem.W.Frag} {σ : St} {H : Hp} {Q : VK} {g : TG} {tt : TT} {te : TE} {vs : List Nat}
theorem BoxAt.some {H : Hp} {b : Addr} (h : BoxAt H b) : ∃ o, H b = Option.some o := let ⟨_, _, _, _, q⟩ := h; ⟨_, q⟩
theorem lcRB {n : Nat} {b : Addr} (good : V → Prop) (hn : n ≤ 1000) (hB : BoxAt H b)
    (ht : ∀ (i : Nat), i < n → ∀ H2, BoxAt H2 b → ExB b H H2 → ∀ (R : V → Hp → Prop) (N : Hp → Prop), (∀ y H3, good y → BoxAt H3 b → ExB b H2 H3 → R y H3) →
      g (.int (i : Int)) (wipe σ vs) H2 fun σ2 H3 => wipe σ2 vs = wipe σ vs ∧ tt σ2 H3 fun c H4 => if c = true then te σ2 H4 fun y H5 => R y H5 else N H4)
    (k : ∀ ys p H2, ys.length = n → (∀ y ∈ ys, good y) → H p = none → ExB b H H2 → BoxAt H2 b → H2 p = some (.lst ys) → Q (.ref p) H2) : LcI (Itr 0 n) g tt te vs σ H Q := by
  refine fun D hD => ?_
  obtain ⟨ob, hob⟩ := hB.some
  have nDb : D ≠ b := (ne_of_none hob hD).symm
  have bx : ∀ {G : Hp} {o : HO}, BoxAt G b → BoxAt (upd G D o) b := fun ⟨x, y, z, p, q⟩ => ⟨x, y, z, p, by rw [upd_ne nDb.symm]; exact q⟩
  have ex : ∀ {G : Hp} {o : HO}, ExB b H G → ExB b H (upd G D o) := fun e a u na ha => by rw [upd_ne (ne_of_none ha hD)]; exact e a u na ha
  refine lc_range (lo := 0) (n := n) (fun i H' => i ≤ n ∧ ExB b H H' ∧ BoxAt H' b ∧ ∃ ys, ys.length = i ∧ (∀ y ∈ ys, good y) ∧ H' D = some (.lst ys)) ⟨Nat.zero_le _, ex (ExB.refl _ _), bx hB, [], rfl, (fun _ h => by cases h), upd_same⟩ (fun i H' hi p => ?_) (fun H' p => ?_)
  · obtain ⟨_, e1, b1, ys, hl, hg, hy⟩ := p
    have e0 : (0 : Int) + (i : Int) = (i : Int) := Int.zero_add _
    rw [e0]
    refine ht i hi H' b1 e1 (fun y H4 => ∃ acc, H4 D = some (.lst acc) ∧ acc.length < sizeLine ∧ (i + 1 ≤ n ∧ ExB b H (upd H4 D (.lst (acc ++ [y]))) ∧ BoxAt (upd H4 D (.lst (acc ++ [y]))) b ∧ ∃ zs, zs.length = i + 1 ∧ (∀ y ∈ zs, good y) ∧ upd H4 D (.lst (acc ++ [y])) D = some (.lst zs))) _ (fun y H3 gy b3 e3 => ?_)
    refine ⟨ys, e3 D _ nDb hy, Evl.sz_lt (by omega), hi, ex (e1.trans e3), bx b3, ys ++ [y], by rw [List.length_append, hl]; rfl, fun z hz => ?_, upd_same⟩
    rcases List.mem_append.mp hz with h | h
    · exact hg z h
    · have : z = y := by simpa using h
      rw [this]
      exact gy
  · obtain ⟨_, e1, b1, ys, hl, hg, hy⟩ := p
    exact k ys D H' hl hg hD e1 b1 hy
end
theorem strs_of {P : Str → Prop} : ∀ {l : List V}, (∀ y ∈ l, ∃ s, y = .str s ∧ P s) → ∃ ss : List Str, l = ss.map V.str ∧ ∀ s ∈ ss, P s
  | [], _ => ⟨[], rfl, fun _ h => by cases h⟩
  | y :: l, h => by
    obtain ⟨s, rfl, hs⟩ := h y List.mem_cons_self
    obtain ⟨ss, rfl, hss⟩ := strs_of fun z hz => h z (List.mem_cons_of_mem _ hz)
    exact ⟨s :: ss, rfl, fun z hz => (List.mem_cons.mp hz).elim (fun e => e ▸ hs) (hss z)⟩
theorem joinL_in {S : List Nat} : ∀ {ps : List (List Nat)} {c : Nat}, c ∈ TL.joinL S ps → c ∈ S ∨ ∃ p ∈ ps, c ∈ p
  | [], c, h => by cases h
  | [p], c, h => .inr ⟨p, List.mem_cons_self, h⟩
  | p :: q :: ps, c, h => by
    have h' : c ∈ p ++ S ++ TL.joinL S (q :: ps) := by first | exact h | simpa [TL.joinL] using h
    rcases List.mem_append.mp h' with h | h
    · rcases List.mem_append.mp h with h | h
      · exact .inr ⟨p, List.mem_cons_self, h⟩
      · exact .inl h
    · rcases joinL_in h with h | ⟨r, hr, hc⟩
      · exact .inl h
      · exact .inr ⟨r, List.mem_cons_of_mem _ hr, hc⟩
theorem joinL_len {S : List Nat} {m : Nat} : ∀ {ps : List (List Nat)}, (∀ p ∈ ps, p.length ≤ m) → (TL.joinL S ps).length ≤ ps.length * (m + S.length)
  | [], _ => by simp [TL.joinL]
  | [p], h => by
    have := h p List.mem_cons_self
    show p.length ≤ _
    simp
    omega
  | p :: q :: ps, h => by
    have h1 := h p List.mem_cons_self
    have ih := joinL_len (S := S) (ps := q :: ps) fun r hr => h r (List.mem_cons_of_mem _ hr)
    have e : TL.joinL S (p :: q :: ps) = p ++ S ++ TL.joinL S (q :: ps) := by first | rfl | simp [TL.joinL]
    rw [e, List.length_append, List.length_append, List.length_cons, Nat.succ_mul]
    omega
theorem join_ok {sep : Str} {ss : List Str} {m : Nat} (ho : OkT sep) (hs : ∀ s ∈ ss, OkT s ∧ s.length ≤ m) : OkT (Txt.join sep ss) ∧ (Txt.join sep ss).length ≤ ss.length * (m + sep.length) := by
  rw [TL.join_eq]
  constructor
  · intro c hc
    rw [TL.tl_join] at hc
    rcases joinL_in hc with h | ⟨p, hp, h⟩
    · exact ho c h
    · obtain ⟨s, hs', rfl⟩ := List.mem_map.mp hp
      exact (hs s hs').1 c h
  · rw [← tl_len, TL.tl_join, ← tl_len sep]
    have := joinL_len (S := tl sep) (m := m) (ps := ss.map tl) fun p hp => by
      obtain ⟨s, hs', rfl⟩ := List.mem_map.mp hp
      rw [tl_len]
      exact (hs s hs').2
    rw [List.length_map] at this
    exact this
theorem sum_len {ss : List Str} {m : Nat} (h : ∀ s ∈ ss, s.length ≤ m) : (ss.map (·.length)).sum ≤ ss.length * m := by
  induction ss with
  | nil => simp
  | cons a l ih =>
    rw [List.map_cons, List.sum_cons, List.length_cons, Nat.succ_mul]
    have := h a List.mem_cons_self
    have := ih fun s hs => h s (List.mem_cons_of_mem _ hs)
    omega
end L2
namespace L2
open PySem PySem.Spec PyProof.Rows
theorem forLg {K : PySem.W.Frag} {σ : St} {H : Hp} {D : Ends} {g : TG} {tb : TS} {a : Addr} {xs : List V} (Pv : Nat → St → Hp → Prop) (h0 : Pv 0 σ H) (hl : ∀ i σ' H', i ≤ xs.length → Pv i σ' H' → SqL K H' a xs)
    (hs : ∀ i x σ' H', xs[i]? = some x → Pv i σ' H' → g x σ' H' fun σ2 H2 => tb { D with nx := Pv (i + 1), ct := Pv (i + 1), bk := D.nx } σ2 H2) (hd : ∀ σ' H', Pv xs.length σ' H' → D.nx σ' H') : ForI (Itl K a) g tb D σ H := for_list Pv h0 hl hs hd
theorem hu65 {A : Around} {k : Nat} (hr : Room k A) : A.units + 65 < cLine := by have := hr.un; omega
end L2

/-! ### own errors: made, held as values, read, asked for their class -/
namespace L2
open PySem PySem.Spec PyProof.Rows
def cBody (st : Stmt) : List Stmt := match st with
  | .ClassDef (body := l) .. => l
  | _ => []
/-- the class at C is an own error class over ValueError -/
def xcB (K : PySem.W.Frag) (C : Addr) : Bool := match K.lookup C with
  | some ⟨.type "type", _, .cls cd, sl⟩ => (match cd.mro, sl.toList with
    | .ref D :: bm, [_, _, _, _, some (.builtin n), _] => (D == C && n == "ValueError.__new__") && ((!cd.hasDel && cd.hasDict) && PySem.HandSPX.refsVE bm)
    | _, _ => false)
  | _ => false
def oxB (K : PySem.W.Frag) (C : Addr) : Bool :=
  (xcB K C && PySem.W.keepIn K (.ref C)) && (decide (PySem.W.findIn K (.ref C) "__setattr__" = some (some (.builtin "object.__setattr__"))) && decide (PySem.W.typeIn K (.ref C) = some (.type "type")))
def icB (K : PySem.W.Frag) (C : Addr) : Bool :=
  ((PySem.W.clsIn K C).isSome && xfB K C) && ((decide (PySem.W.findIn K (.ref C) "__class__" = some (some (.builtin "object.__class__"))) && decide (PySem.W.specialIn K (.builtin "object.__class__") "__get__" = some (some (.builtin "getset_descriptor.__get__")))) &&
    (decide (PySem.W.takesIn K (.builtin "object.__class__") = some true) && decide (PySem.W.mroIn K C (.type "object") = some true)))
def exB (K : PySem.W.Frag) (C : Addr) (fs : List Str) : Bool := (oxB K C && icB K C) && fs.all fun f => decide (PySem.W.findIn K (.ref C) f = some none)
structure IcC (K : PySem.W.Frag) (C : Addr) : Prop where
  cl : (PySem.W.clsIn K C).isSome = true
  xf : XfC K C
  ha : PySem.W.findIn K (.ref C) "__class__" = some (some (.builtin "object.__class__"))
  hn : PySem.W.specialIn K (.builtin "object.__class__") "__get__" = some (some (.builtin "getset_descriptor.__get__"))
  ht : PySem.W.takesIn K (.builtin "object.__class__") = some true
  hm : PySem.W.mroIn K C (.type "object") = some true
theorem icB_ok {K : PySem.W.Frag} {C : Addr} (h : icB K C = true) : IcC K C := by
  unfold icB at h
  simp only [Bool.and_eq_true, decide_eq_true_eq] at h
  obtain ⟨⟨h1, h2⟩, ⟨h3, h4⟩, h5, h6⟩ := h
  exact ⟨h1, xfB_ok h2, h3, h4, h5, h6⟩
structure ExF (K : PySem.W.Frag) (C : Addr) (fs : List Str) : Prop where
  ox : OexC K C
  ic : IcC K C
  no : ∀ f ∈ fs, PySem.W.findIn K (.ref C) f = some none
theorem exB_ok {K : PySem.W.Frag} {C : Addr} {fs : List Str} (h : exB K C fs = true) : ExF K C fs := by
  unfold exB at h
  rw [Bool.and_eq_true, Bool.and_eq_true] at h
  obtain ⟨⟨h1, h2⟩, h3⟩ := h
  have I := icB_ok h2
  refine ⟨?_, I, fun f hf => of_decide_eq_true (List.all_eq_true.mp h3 f hf)⟩
  unfold oxB at h1
  simp only [Bool.and_eq_true, decide_eq_true_eq] at h1
  obtain ⟨⟨q, hk⟩, hs, ht⟩ := h1
  refine ⟨?_, hs, I.xf.exC, ht, hk⟩
  unfold xcB at q
  split at q
  · rename_i dd cd sl ho
    split at q
    · rename_i D bm m0 m1 m2 m3 n m5 hm hl
      simp only [Bool.and_eq_true, beq_iff_eq, Bool.not_eq_true'] at q
      obtain ⟨⟨rfl, rfl⟩, ⟨hdel, hdct⟩, hr⟩ := q
      obtain ⟨nm, bs, mro, ns, qn, hd, sn, sub, ab, col, del⟩ := cd
      dsimp only at hm hdel hdct
      subst hm hdel hdct
      have e : sl = #[m0, m1, m2, m3, some (.builtin "ValueError.__new__"), m5] := by
        obtain ⟨l⟩ := sl
        simp only at hl
        rw [hl]
      subst e
      exact ⟨nm, qn, ns, bs, bm, sn, sub, ab, col, dd, m0, m1, m2, m3, m5, ho, hr⟩
    · cases q
  · cases q
/-- the class at B over which they stand -/
structure BaseC (K : PySem.W.Frag) (B : Addr) : Prop where
  rd : PySem.W.readsIn K B (.type "type") = true
  ga : PySem.W.specialIn K (.ref B) "__getattribute__" = some (some (.builtin "type.__getattribute__"))
  at_ : PySem.W.findCls K (.ref B) (.type "type") "__init__" = some (.val (.builtin "ValueError.__init__"))
def baseB (K : PySem.W.Frag) (B : Addr) : Bool := PySem.W.readsIn K B (.type "type") && (decide (PySem.W.specialIn K (.ref B) "__getattribute__" = some (some (.builtin "type.__getattribute__"))) && (match PySem.W.findCls K (.ref B) (.type "type") "__init__" with | some (.val (.builtin n)) => n == "ValueError.__init__" | _ => false))
theorem baseB_ok {K : PySem.W.Frag} {B : Addr} (h : baseB K B = true) : BaseC K B := by
  unfold baseB at h
  simp only [Bool.and_eq_true, decide_eq_true_eq] at h
  obtain ⟨h1, h2, h3⟩ := h
  split at h3
  · rename_i n e
    rw [beq_iff_eq] at h3
    subst h3
    exact ⟨h1, h2, e⟩
  · cases h3
section
variable {X : Cx} {a1 : Expr} {ar : List Expr} {ta : TA} {x : Str} {q1 q2 qc : Pos} {B : Addr}
theorem pe_binit {pl : Sem Bool} (hg : Gl X x) (hm : X.mg x = some (.ref B)) (T : BaseC X.K B) (ha : PA X (a1 :: ar) ta)
    (hcal : eval (.Call (.Attribute (.Name x q1) "__init__" q2) (a1 :: ar) [] qc) X.env = (eval (.Name x q1) X.env >>= fun ov => standAt q2.atName >>= fun _ => holding [ov] (getMethod ov "__init__" pl) >>= fun r => callWith qc r.1 r.2 (backTo qc (starEach (a1 :: ar) X.env)) (backToKw qc (keywordEach [] X.env))) := by rfl)
    (hst : starEach (a1 :: ar) X.env = (false, eval a1 X.env) :: starEach ar X.env := by rfl) (hps : (backTo qc (starEach ar X.env)).any (·.1) = false := by rfl) (hdb : (x == ("__debug__" : Str)) = false := by decide) :
    PE X (.Call (.Attribute (.Name x q1) "__init__" q2) (a1 :: ar) [] qc) (tVeI X.K ta) := by
  refine ⟨fun pins s σ H Q I h => ?_⟩
  refine PySem.W.methodCall_KW (ld_glob I hg hm ?_ hdb) hcal
  refine PySem.W.method_cls I.kIn T.ga (PySem.W.cls_value I.kIn T.rd T.at_ (by decide +kernel) ?_)
  show wpAny _ _ (callWith qc (Value.builtin "ValueError.__init__") [] (backTo qc (starEach (a1 :: ar) X.env)) []) _ _ _
  refine PyProof.Rows.callWith_method1 (thn (ha.run qc pins _ σ H _ (I.tok _) h) fun us s1 hh => ?_) hst hps
  obtain ⟨vs, H1, I1, r1, a, C, ws, ev, hl, OC, ea, q⟩ := hh
  subst ev
  cases r1 with
  | @cons _ u0 _ ur ra rr =>
    obtain rfl : u0 = Value.ref a := ra
    exact oinit_ok OC I1 ea (by rw [← Paired.length rr, sizeLine_eq]; omega) fun s' J => ⟨.non, H1, J, rfl, q⟩
/-- C(e, ..) as a value, its own __init__ keeping sp -/
def tMkV (C : Addr) (sp : Sp) (ta : TA) : TE := fun σ H Q => ta σ H fun vs H1 => vs.length ≤ 1000 ∧ ∀ a, H1 a = none → sp (.ref a :: vs) (upd H1 a (exo a C none)) (fun v H2 => v = .non ∧ Q (.ref a) H2) (fun _ _ _ => False)
theorem pe_mkv {CX : CXT} {C fI : Addr} {k : Nat} {fd : FuncData} {ps : List Str} {sp : Sp} (T : OexC X.K C) (iC : PySem.W.findIn X.K (.ref C) "__init__" = some (some (.ref fI))) (tI : PySem.W.typeIn X.K (.ref fI) = some (.type "function"))
    (F1 : FnOk X.prog X.w X.K X.mg X.base CX k fI fd ps sp) (hr : Room (k + 1) X.A) (hb : Binds X.K fd ps []) (hx : Passes CX X (fun _ _ _ => False)) (hg : Gl X x) (hm : X.mg x = some (.ref C)) (ha : PA X (a1 :: ar) ta)
    (hdb : (x == ("__debug__" : Str)) = false := by decide) (hst : starEach (a1 :: ar) X.env = (false, eval a1 X.env) :: starEach ar X.env := by rfl) (hps : (backTo qc (starEach ar X.env)).any (·.1) = false := by rfl) :
    PE X (.Call (.Name x q1) (a1 :: ar) [] qc) (tMkV C sp ta) := by
  refine ⟨fun pins s σ H Q I h => ?_⟩
  obtain ⟨nm, q, N, bs, bm, sn, sub, ab, col, dd, k0, k1, k2, k3, k5, hC, hbm⟩ := T.cls
  refine wpAny_Call_Name_kw (ld_glob I hg hm ?_ hdb)
  refine PySem.W.callWith_K (h₀ := X.base) I.ok.mod.kin T.kC (thn (ha.run qc pins s σ H _ I h) fun us s1 hh => ?_) hst hps
  obtain ⟨vs, H1, I1, r1, hz, qq⟩ := hh
  refine ⟨I1.kIn, ?_⟩
  show wpAny _ _ (call (.ref C) us) _ _ _
  obtain ⟨hp, g, dr, tk, os⟩ := s1
  have le1 : hp.objs.size ≤ hp.objs.size + 1 := Nat.le_succ _
  have hn : H1 (hp.objs.size + 1) = none := I1.hok.fresh le1
  have hq := qq (hp.objs.size + 1) hn
  have kep : ∀ b o, hp.get? b = some o → ((hp.push (PySem.W.kdv_tup us)).push (PySem.HandSPX.excO C hp.objs.size)).get? b = some o := fun b o z => Heap.get?_push_of_some _ (Heap.get?_push_of_some _ z)
  have hget : ((hp.push (PySem.W.kdv_tup us)).push (PySem.HandSPX.excO C hp.objs.size)).get? (hp.objs.size + 1) = some (PySem.HandSPX.excO C hp.objs.size) := by heap_get
  have J2 : Inv X pins σ (upd H1 (hp.objs.size + 1) (exo (hp.objs.size + 1) C none)) ⟨(hp.push (PySem.W.kdv_tup us)).push (PySem.HandSPX.excO C hp.objs.size), g, dr, tk, os⟩ :=
    I1.laid (t' := tk) (a := hp.objs.size + 1) (o := exo (hp.objs.size + 1) C none) (h' := (hp.push (PySem.W.kdv_tup us)).push (PySem.HandSPX.excO C hp.objs.size)) kep le1 (exo_ok hget)
  have rv2 : Vals (V.ref (hp.objs.size + 1) :: vs) (Value.ref (hp.objs.size + 1) :: us) := .cons rfl r1
  have hlen : (Value.ref (hp.objs.size + 1) :: us ++ []).length = ps.length := by
    have z := rv2.length
    rw [F1.len _ _ _ _ hq] at z
    rw [List.append_nil]
    exact z.symm
  have hus : us.length ≤ sizeLine := by
    rw [← Paired.length r1, sizeLine_eq]
    omega
  refine wpAny_call (PySem.HandSPX.call_own F.excBase_ValueError (fun Y => PySem.HandSPX.refsVE_contains Y bm hbm) (I1.kIn _ _ hC) (PySem.W.looks_findIn I1.kIn iC) (fun self => PySem.W.bind_fn I1.kIn self tI) hus ?_)
  have hbb := hb _ (Value.ref (hp.objs.size + 1) :: us) J2.kIn hlen
  rw [List.append_nil] at hbb
  refine codeAny_mono (F1.run _ X.stack _ _ ⟨Value.ref (hp.objs.size + 1) :: us, []⟩ (Value.ref (hp.objs.size + 1) :: us) _ _ (fun _ _ _ => False) (hr.make C us []) (J2.env0.make C us []) hbb rv2 hq) fun r s' hq' => ?_
  cases r with
  | error er => exact hx pins σ _ _ er s' J2 hq'
  | ok fl =>
    cases fl with
    | ret u =>
      obtain ⟨v, H2, os2, bare2, un2, hok2, rv, ev, q2⟩ := hq'
      subst ev
      exact ⟨rv, .ref _, H2, J2.call' (ch := []) os2 un2 hok2 bare2 (fun b z => absurd z (by simp)), rfl, q2⟩
    | next => exact False.elim hq'
    | brk => exact False.elim hq'
    | cont => exact False.elim hq'
/-- an error of the class at D stands at a -/
def ErrAt (H : Hp) (a D : Addr) : Prop := (∃ (d : Addr) (fs : List (Str × V)), H a = some (exo a D (some d)) ∧ H d = some (exd d fs)) ∨ H a = some (ExO (.ref D) a)
theorem err_inst {pins : List (Addr × Obj)} {σ : St} {H : Hp} {s : Shared} {a D : Addr} (I : Inv X pins σ H s) (h : ErrAt H a D) : ∃ ox od, PySem.W.InstAt s.heap a ox D od := by
  rcases h with ⟨d, fs, h1, h2⟩ | h1
  · obtain ⟨t1, ho⟩ := exo_at I.hok h1
    obtain ⟨mA, hns, _⟩ := exd_at I.hok h2
    obtain ⟨od, hod, _⟩ := lookIn_ns hns
    exact ⟨_, some od, ho, rfl, rfl, hod⟩
  · have z : ObjOk X.prog X.w H s.heap a (ExO (.ref D) a) := I.hok a _ h1
    obtain ⟨⟨oe, vs, e, zc, d, _⟩, _⟩ := z
    refine ⟨oe, none, e, zc.1, by unfold PySem.W.notCls; rw [d] <;> rfl, ?_⟩
    rw [zc.2]
    trivial
/-- isinstance(e, c) of such an error -/
def rIsX (K : PySem.W.Frag) : List V → Hp → VK → Prop := fun xs H Q => ∃ (a D : Addr) (c : V) (cv : Value) (b : Bool), xs = [.ref a, c] ∧ ClsV c cv ∧ IcC K D ∧ ErrAt H a D ∧ PySem.W.kitOne K (.ref D) cv = some b ∧ Q (.bl b) H
theorem call_isX : CallR X (.builtin "isinstance") (rIsX X.K) := by
  intro pins s σ H xs us Q I r h
  obtain ⟨a, D, c, cv, b, rfl, hcv, C, he, e, q⟩ := h
  cases r with
  | cons rx rr =>
    cases rr with
    | cons rt rn =>
      cases rn
      cases rx
      have ec := hcv.eq rt
      subst ec
      obtain ⟨ox, od, J⟩ := err_inst I he
      exact PySem.W.kia_one (PySem.W.kitx_exc C.cl C.xf.ga C.xf.gg C.xf.exC C.ha C.hn C.ht C.hm) I.kIn J e (fun z => nomatch z) fun tk => ⟨.bl b, H, I.kept (t' := tk) fun _ _ z => z, rfl, q⟩
/-- e.f of such an error -/
def tXfV (K : PySem.W.Frag) (f : Str) (te : TE) : TE := fun σ H Q => te σ H fun x H1 => ∃ (a C d : Addr) (fs : List (Str × V)) (v : V), x = .ref a ∧ XfC K C ∧ PySem.W.findIn K (.ref C) f = some none ∧ H1 a = some (exo a C (some d)) ∧ H1 d = some (exd d fs) ∧ fs.lookup f = some v ∧ Q v H1
theorem pe_xfv {e : Expr} {te : TE} {f : Str} (he : PE X e te) (hb : attributeBase e f X.env (eval e X.env) = eval e X.env := by rfl) : PE X (.Attribute e f qc) (tXfV X.K f te) := by
  refine ⟨fun pins s σ H Q I h => ?_⟩
  refine attr_of hb (thn (he.run pins s σ H _ I h) fun u s1 hh => ?_)
  obtain ⟨x, H1, I1, rx, a, C, d, fs, v, rfl, T, hno, ea, ed, l, q⟩ := hh
  obtain rfl : u = Value.ref a := rx
  obtain ⟨t1, ho⟩ := exo_at I1.hok ea
  obtain ⟨mA, hns, hr⟩ := exd_at I1.hok ed
  obtain ⟨od, hod, hl⟩ := lookIn_ns hns
  obtain ⟨u, hu, ru⟩ := RelO.some_of (v := v) (o := mA f) (by rw [← l]; exact hr f)
  have J : PySem.W.InstAt s1.heap a _ C (some od) := ⟨ho, rfl, rfl, hod⟩
  exact HandSPX.exc_get I1.kIn J T.ga T.gg T.exC (PySem.W.findObj_own T.hdC hno rfl (by rw [hl, hu])) (handed_of ru) ⟨v, H1, I1.tok _, ru, q⟩
/-- one rule or the other -/
theorem op_or2 {f : Value → Value → Sem Value} {r r' : R2} (h : OpR X f r) (h' : OpR X f r') : OpR X f (fun x y H Q => r x y H Q ∨ r' x y H Q) := by
  intro pins s σ H x y v u Q I rx ry q
  rcases q with q | q
  · exact h pins s σ H x y v u Q I rx ry q
  · exact h' pins s σ H x y v u Q I rx ry q
end
end L2
namespace L2
open PySem PySem.Spec PyProof.Rows
/-- what __init__ of such a class keeps: one field, two fields -/
def sp_err1 (C : Addr) (f : Str) : Sp := fun vs H Q _ => ∃ (a : Addr) (v : V), vs = [.ref a, v] ∧ H a = some (exo a C none) ∧ ∀ d H2, H d = none → d ≠ a → (∀ b, b ≠ a → b ≠ d → H2 b = H b) → H2 a = some (exo a C (some d)) → H2 d = some (exd d [(f, v)]) → Q .non H2
def sp_err2 (C : Addr) (f g : Str) : Sp := fun vs H Q _ => ∃ (a : Addr) (v w : V), vs = [.ref a, v, w] ∧ H a = some (exo a C none) ∧ ∀ d H2, H d = none → d ≠ a → (∀ b, b ≠ a → b ≠ d → H2 b = H b) → H2 a = some (exo a C (some d)) → H2 d = some (exd d [(g, w), (f, v)]) → Q .non H2
section
variable {K : PySem.W.Frag} {C a : Addr} {f g z : Str} {v w : V} {H : Hp} {Q : VK}
theorem err1_run (T : OexC K C) (n1 : PySem.W.findIn K (.ref C) f = some none) (ha : H a = some (exo a C none)) (k : ∀ d H2, H d = none → d ≠ a → (∀ b, b ≠ a → b ≠ d → H2 b = H b) → H2 a = some (exo a C (some d)) → H2 d = some (exd d [(f, v)]) → Q .non H2) :
    tSeq (tDrop (tVeI K (tCons (tVar 0) (tCons (tC (.str z)) tNil)))) (tOst K f (tVar 0) (tVar 1)) { nx := fun _ H' => Q .non H', rt := Q } [some (.ref a), some v] H := by
  refine ⟨_, rfl, a, C, _, rfl, (by show 1 ≤ 1000; omega), T, ha, _, rfl, _, rfl, a, C, rfl, T, n1, .inl ⟨ha, fun d hd hne => ?_⟩⟩
  refine k d _ hd hne (fun b h1 h2 => by rw [upd_ne h1, upd_ne h2]) upd_same ?_
  rw [upd_ne hne, upd_same]
theorem err2_run (T : OexC K C) (n1 : PySem.W.findIn K (.ref C) f = some none) (n2 : PySem.W.findIn K (.ref C) g = some none) (ha : H a = some (exo a C none)) (k : ∀ d H2, H d = none → d ≠ a → (∀ b, b ≠ a → b ≠ d → H2 b = H b) → H2 a = some (exo a C (some d)) → H2 d = some (exd d [(g, w), (f, v)]) → Q .non H2) :
    tSeq (tDrop (tVeI K (tCons (tVar 0) (tCons (tC (.str z)) tNil)))) (tSeq (tOst K f (tVar 0) (tVar 1)) (tOst K g (tVar 0) (tVar 2))) { nx := fun _ H' => Q .non H', rt := Q } [some (.ref a), some v, some w] H := by
  refine ⟨_, rfl, a, C, _, rfl, (by show 1 ≤ 1000; omega), T, ha, _, rfl, _, rfl, a, C, rfl, T, n1, .inl ⟨ha, fun d hd hne => ?_⟩⟩
  have e1 : upd (upd H d (exd d [(f, v)])) a (exo a C (some d)) d = some (exd d [(f, v)]) := by rw [upd_ne hne, upd_same]
  refine ⟨_, rfl, _, rfl, a, C, rfl, T, n2, .inr ⟨d, _, upd_same, e1, (by show 1 ≤ 900; omega), ?_⟩⟩
  refine k d _ hd hne (fun b h1 h2 => by rw [upd_ne h2, upd_ne h1, upd_ne h2]) ?_ upd_same
  rw [upd_ne hne.symm, upd_same]
theorem c_xfv {te : TE} {σ : St} (h : te σ H fun x H1 => ∃ (a C d : Addr) (fs : List (Str × V)) (v : V), x = .ref a ∧ XfC K C ∧ PySem.W.findIn K (.ref C) f = some none ∧ H1 a = some (exo a C (some d)) ∧ H1 d = some (exd d fs) ∧ fs.lookup f = some v ∧ Q v H1) : tXfV K f te σ H Q := h
/-- the same, what is asked told by one word -/
def MkE (C : Addr) (sp : Sp) (vs : List V) (H : Hp) (Q : VK) : Prop := vs.length ≤ 1000 ∧ ∀ a, H a = none → sp (.ref a :: vs) (upd H a (exo a C none)) (fun v H2 => v = .non ∧ Q (.ref a) H2) (fun _ _ _ => False)
theorem c_mkv {sp : Sp} {ta : TA} {σ : St} (h : ta σ H fun vs H1 => MkE C sp vs H1 Q) : tMkV C sp ta σ H Q := h
/-- an error of the class at C with these fields, at a, its dict at d -/
def Er (H : Hp) (a C d : Addr) (fs : List (Str × V)) : Prop := H a = some (exo a C (some d)) ∧ H d = some (exd d fs)
theorem Er.up {H H2 : Hp} {a C d : Addr} {fs : List (Str × V)} (h : Er H a C d fs) (e : Evl.Ex H H2) : Er H2 a C d fs := ⟨e _ _ h.1, e _ _ h.2⟩
theorem Er.at {H : Hp} {a C d : Addr} {fs : List (Str × V)} (h : Er H a C d fs) : ErrAt H a C := .inl ⟨d, fs, h.1, h.2⟩
theorem mkv1 (k : ∀ a d H2, H a = none → H d = none → Evl.Ex H H2 → Er H2 a C d [(f, v)] → Q (.ref a) H2) : MkE C (sp_err1 C f) [v] H Q := by
  refine ⟨by show 1 ≤ 1000; omega, fun a ha => ⟨a, v, rfl, upd_same, fun d H2 hd hne hk h1 h2 => ⟨rfl, ?_⟩⟩⟩
  rw [upd_ne hne] at hd
  refine k a d H2 ha hd (fun b o hb => ?_) ⟨h1, h2⟩
  have nb := ne_of_none hb ha
  rw [hk b nb (ne_of_none hb hd), upd_ne nb]
  exact hb
theorem mkv2 (k : ∀ a d H2, H a = none → H d = none → Evl.Ex H H2 → Er H2 a C d [(g, w), (f, v)] → Q (.ref a) H2) : MkE C (sp_err2 C f g) [v, w] H Q := by
  refine ⟨by show 2 ≤ 1000; omega, fun a ha => ⟨a, v, w, rfl, upd_same, fun d H2 hd hne hk h1 h2 => ⟨rfl, ?_⟩⟩⟩
  rw [upd_ne hne] at hd
  refine k a d H2 ha hd (fun b o hb => ?_) ⟨h1, h2⟩
  have nb := ne_of_none hb ha
  rw [hk b nb (ne_of_none hb hd), upd_ne nb]
  exact hb
end
end L2
namespace L2
open PySem PySem.Spec PyProof.Rows
/-- of the error classes Cs each is of itself alone, of B, of ValueError -/
def kinB (K : PySem.W.Frag) (Cs : List Addr) : Bool := (List.range Cs.length).all fun i => (List.range Cs.length).all fun j => match Cs[i]?, Cs[j]? with
  | some D, some C => decide (PySem.W.kitOne K (.ref D) (.ref C) = some (decide (i = j)))
  | _, _ => true
def famB (K : PySem.W.Frag) (B : Addr) (Cs : List Addr) : Bool := (Cs.all fun D => decide (PySem.W.kitOne K (.ref D) (.ref B) = some true) && (decide (PySem.W.kitOne K (.ref D) (.type "ValueError") = some true) && decide (PySem.W.kitOne K (.ref B) (.ref D) = some false))) && (decide (PySem.W.kitOne K (.ref B) (.type "ValueError") = some true) && kinB K Cs)
structure Fam (K : PySem.W.Frag) (B : Addr) (Cs : List Addr) : Prop where
  b : ∀ D ∈ Cs, PySem.W.kitOne K (.ref D) (.ref B) = some true
  v : ∀ D ∈ Cs, PySem.W.kitOne K (.ref D) (.type "ValueError") = some true
  n : ∀ D ∈ Cs, PySem.W.kitOne K (.ref B) (.ref D) = some false
  bv : PySem.W.kitOne K (.ref B) (.type "ValueError") = some true
  k : ∀ (i j : Nat) (D C : Addr), Cs[i]? = some D → Cs[j]? = some C → PySem.W.kitOne K (.ref D) (.ref C) = some (decide (i = j))
theorem famB_ok {K : PySem.W.Frag} {B : Addr} {Cs : List Addr} (h : famB K B Cs = true) : Fam K B Cs := by
  unfold famB at h
  rw [Bool.and_eq_true, Bool.and_eq_true] at h
  obtain ⟨h1, h2, h3⟩ := h
  have h1' := List.all_eq_true.mp h1
  simp only [Bool.and_eq_true, decide_eq_true_eq] at h1'
  refine ⟨fun D hD => (h1' D hD).1, fun D hD => (h1' D hD).2.1, fun D hD => (h1' D hD).2.2, of_decide_eq_true h2, fun i j D C hi hj => ?_⟩
  unfold kinB at h3
  have q := List.all_eq_true.mp (List.all_eq_true.mp h3 i (List.mem_range.mpr (List.getElem?_eq_some_iff.mp hi).1)) j (List.mem_range.mpr (List.getElem?_eq_some_iff.mp hj).1)
  rw [hi, hj] at q
  exact of_decide_eq_true q
theorem ErrAt.up {H H2 : Hp} {a D : Addr} (h : ErrAt H a D) (e : Evl.Ex H H2) : ErrAt H2 a D := by
  rcases h with ⟨d, fs, h1, h2⟩ | h1
  · exact .inl ⟨d, fs, e _ _ h1, e _ _ h2⟩
  · exact .inr (e _ _ h1)
theorem is_x {K : PySem.W.Frag} {H : Hp} {Q : VK} {a D : Addr} {c : V} {cv : Value} {b : Bool} (hc : ClsV c cv) (ic : IcC K D) (h : ErrAt H a D) (e : PySem.W.kitOne K (.ref D) cv = some b) (q : Q (.bl b) H) : rIsX K [.ref a, c] H Q := ⟨a, D, c, cv, b, rfl, hc, ic, h, e, q⟩
end L2

/-! ### more loops, more comparisons -/
namespace L2
open PySem PySem.Spec PyProof.Rows
section
variable {K : PySem.W.Frag} {σ : St} {H : Hp} {D : Ends} {Q : VK} {g : TG} {tb : TS} {tt : TT} {te : TE} {vs : List Nat} {ta : TA}
theorem c_forE (h : ta σ H fun ws H1 => ∃ a xs, ws = [.ref a] ∧ SqL K H1 a xs ∧ ForI (Ite K a) g tb D σ H1) : tFor (iEnum K ta) g tb D σ H := h
theorem c_lcZi (h : ta σ H fun ws H1 => ∃ a b xs ys, ws = [.ref a, .ref b] ∧ SqL K H1 a xs ∧ SqL K H1 b ys ∧ LcI (Itz K a b) g tt te vs σ H1 Q) : tLc (iZip K ta) g tt te vs σ H Q := h
/-- for i, x in enumerate(l) -/
theorem forE {a : Addr} {xs : List V} (Pv : Nat → St → Hp → Prop) (h0 : Pv 0 σ H) (hl : ∀ i σ' H', i ≤ xs.length → Pv i σ' H' → SqL K H' a xs)
    (hs : ∀ i x T σ' H', xs[i]? = some x → Pv i σ' H' → H' T = none → g (.ref T) σ' (upd H' T (.tup [.int (i : Nat), x])) fun σ2 H2 => tb { D with nx := Pv (i + 1), ct := Pv (i + 1), bk := D.nx } σ2 H2)
    (hd : ∀ σ' H', Pv xs.length σ' H' → D.nx σ' H') : ForI (Ite K a) g tb D σ H :=
  for_it walk_enum Pv h0 (fun i σ' H' hi p => hl i σ' H' hi p) (fun i v σ' H' H'' hi p y => by
    obtain ⟨T, x, z, rfl, hT, rfl, ex, ez⟩ := y
    cases ex
    exact hs i z T σ' H' ez p hT) hd
/-- [.. for x in l], each thing made so that P holds of it, whatever is done to the list or made behind it -/
theorem lcLP {a : Addr} {xs : List V} (P : Addr → Nat → V → Hp → Prop) (hst : ∀ D i y G G2, ExB D G G2 → P D i y G → P D i y G2) (hs : SqL K H a xs) (hn : xs.length ≤ 1000)
    (ht : ∀ (D : Addr) (i : Nat) (x : V), H D = none → xs[i]? = some x → ∀ H2, Evl.Ex H H2 → (∃ o, H2 D = some o) → ∀ (R : V → Hp → Prop) (N : Hp → Prop), (∀ y H3, Evl.Ex H2 H3 → P D i y H3 → R y H3) →
      g x (wipe σ vs) H2 fun σ2 H3 => wipe σ2 vs = wipe σ vs ∧ tt σ2 H3 fun c H4 => if c = true then te σ2 H4 fun y H5 => R y H5 else N H4)
    (k : ∀ ys p H2, ys.length = xs.length → (∀ i y, ys[i]? = some y → P p i y H2) → H p = none → Evl.Ex H H2 → H2 p = some (.lst ys) → Q (.ref p) H2) : LcI (Itl K a) g tt te vs σ H Q := by
  refine fun D hD => ?_
  have ex : ∀ {G : Hp} {o : HO}, Evl.Ex H G → Evl.Ex H (upd G D o) := fun e b u hb => by rw [upd_ne (ne_of_none hb hD)]; exact e b u hb
  refine lc_list (xs := xs) (fun i H' => i ≤ xs.length ∧ Evl.Ex H H' ∧ ∃ ys, ys.length = i ∧ (∀ j y, ys[j]? = some y → P D j y H') ∧ H' D = some (.lst ys))
    ⟨Nat.zero_le _, ex (Evl.Ex.refl _), [], rfl, (fun j y h => by simp at h), upd_same⟩ (fun i H' _ p => Evl.ex_l p.2.1 hs) (fun i x H' hi p => ?_) (fun H' p => ?_)
  · obtain ⟨_, e1, ys, hl, hy, hD'⟩ := p
    have hil := (List.getElem?_eq_some_iff.mp hi).1
    refine ht D i x hD hi H' e1 ⟨_, hD'⟩ (fun y H4 => ∃ acc, H4 D = some (.lst acc) ∧ acc.length < sizeLine ∧ (i + 1 ≤ xs.length ∧ Evl.Ex H (upd H4 D (.lst (acc ++ [y]))) ∧ ∃ zs, zs.length = i + 1 ∧ (∀ j y2, zs[j]? = some y2 → P D j y2 (upd H4 D (.lst (acc ++ [y])))) ∧ upd H4 D (.lst (acc ++ [y])) D = some (.lst zs))) _ (fun y H3 e3 py => ?_)
    have eD : ExB D H3 (upd H3 D (.lst (ys ++ [y]))) := fun b o nb hb => by rw [upd_ne nb]; exact hb
    refine ⟨ys, e3 _ _ hD', Evl.sz_lt (by omega), hil, ex (e1.trans e3), ys ++ [y], by rw [List.length_append, hl]; rfl, fun j y2 hj => ?_, upd_same⟩
    rcases Nat.lt_or_ge j ys.length with h | h
    · rw [List.getElem?_append_left h] at hj
      exact hst _ _ _ _ _ eD (hst _ _ _ _ _ (fun b o _ hb => e3 b o hb) (hy j y2 hj))
    · rw [List.getElem?_append_right h] at hj
      have hj0 : j - ys.length = 0 := by
        have := (List.getElem?_eq_some_iff.mp hj).1
        rw [List.length_singleton] at this
        omega
      rw [hj0] at hj
      have hyy : y = y2 := by simpa using hj
      subst hyy
      have : j = i := by omega
      subst this
      exact hst _ _ _ _ _ eD py
  · obtain ⟨_, e1, ys, hl, hy, hD'⟩ := p
    exact k ys D H' hl hy hD e1 hD'
/-- what stands outside of S stays -/
def ExS (S : Addr → Prop) (H H2 : Hp) : Prop := ∀ a o, ¬ S a → H a = some o → H2 a = some o
theorem ExS.refl {S : Addr → Prop} (H : Hp) : ExS S H H := fun _ _ _ h => h
theorem ExS.trans {S : Addr → Prop} {H H2 H3 : Hp} (h : ExS S H H2) (k : ExS S H2 H3) : ExS S H H3 := fun a o n q => k a o n (h a o n q)
theorem ExS.of {S : Addr → Prop} {H H2 : Hp} (h : Evl.Ex H H2) : ExS S H H2 := fun a o _ q => h a o q
/-- [f(x, y) for x, y in zip(l, m)], where each answer is True, and only what is in S may change -/
theorem lcZ {S : Addr → Prop} {a b : Addr} {xs ys : List V} (J : Nat → Hp → Prop) (hab : xs.length = ys.length) (hn : xs.length ≤ 1000) (ha : ∀ G, ExS S H G → SqL K G a xs) (hb : ∀ G, ExS S H G → SqL K G b ys) (h0 : J 0 H) (hJ : ∀ i G D o, H D = none → J i G → J i (upd G D o)) (hS : ∀ z, S z → H z ≠ none)
    (ht : ∀ (i : Nat) (x y : V), xs[i]? = some x → ys[i]? = some y → ∀ H2 T, ExS S H H2 → J i H2 → H2 T = none → ∀ (R : V → Hp → Prop) (N : Hp → Prop), (∀ H3, ExS S (upd H2 T (.tup [x, y])) H3 → J (i + 1) H3 → R (.bl true) H3) →
      g (.ref T) (wipe σ vs) (upd H2 T (.tup [x, y])) fun σ2 H3 => wipe σ2 vs = wipe σ vs ∧ tt σ2 H3 fun c H4 => if c = true then te σ2 H4 fun y H5 => R y H5 else N H4)
    (k : ∀ p H2, H p = none → ExS S H H2 → J xs.length H2 → H2 p = some (.lst (List.replicate xs.length (.bl true))) → Q (.ref p) H2) : LcI (Itz K a b) g tt te vs σ H Q := by
  refine fun D hD => ?_
  have nSD : ¬ S D := fun z => hS D z hD
  have ex : ∀ {G : Hp} {o : HO}, ExS S H G → ExS S H (upd G D o) := fun e c u nc hc => by rw [upd_ne (ne_of_none hc hD)]; exact e c u nc hc
  refine lc_it (walk_zip (xs := xs) (ys := ys) (n := xs.length) (by omega)) (fun i H' => i ≤ xs.length ∧ ExS S H H' ∧ J i H' ∧ H' D = some (.lst (List.replicate i (.bl true)))) ⟨Nat.zero_le _, ex (ExS.refl _), hJ _ _ _ _ hD h0, upd_same⟩ (fun i H' _ p => ⟨ha _ p.2.1, hb _ p.2.1⟩) (fun i v H' H'' hi p y => ?_) (fun H' p => k D H' hD p.2.1 p.2.2.1 p.2.2.2)
  obtain ⟨T, x, z, rfl, hT, rfl, ex1, ez⟩ := y
  obtain ⟨_, e1, j1, hD'⟩ := p
  have nTD : D ≠ T := ne_of_none hD' hT
  refine ht i x z ex1 ez H' T e1 j1 hT (fun y H4 => ∃ acc, H4 D = some (.lst acc) ∧ acc.length < sizeLine ∧ (i + 1 ≤ xs.length ∧ ExS S H (upd H4 D (.lst (acc ++ [y]))) ∧ J (i + 1) (upd H4 D (.lst (acc ++ [y]))) ∧ upd H4 D (.lst (acc ++ [y])) D = some (.lst (List.replicate (i + 1) (.bl true))))) _ (fun H3 e3 j3 => ?_)
  refine ⟨_, e3 D _ nSD (by rw [upd_ne nTD]; exact hD'), ?_, hi, ex ?_, hJ _ _ _ _ hD j3, ?_⟩
  · rw [List.length_replicate]
    exact Evl.sz_lt (by omega)
  · refine fun c o nc hc => e3 c o nc ?_
    have h1 := e1 c o nc hc
    rw [upd_ne (ne_of_none h1 hT)]
    exact h1
  · rw [upd_same, List.replicate_succ'] <;> rfl
end
/-! == and != of dicts of flat things -/
def eqK (ks ls : List (Key × V)) : Bool := ks.length == ls.length && ks.all fun p => match valV ls p.1 with
  | some u => eqV p.2 u
  | none => false
section
variable {X : Cx} {pins : List (Addr × Obj)} {σ : St} {H : Hp} {s : Shared}
theorem hitsK (I : Inv X pins σ H s) (hu : X.A.units + 66 < cLine) {ls : List (Key × V)} {vb : List (Key × Value)} (rb : KV ls vb) (fl : ∀ k u, valV ls k = some u → okV u = true) {ks : List (Key × V)} {va : List (Key × Value)} (ra : KV ks va) (fk : ∀ p ∈ ks, okV p.2 = true) :
    PySem.W.KeqHits X.A.in1 s vb va (ks.all fun p => match valV ls p.1 with | some u => eqV p.2 u | none => false) := by
  unfold KV at ra
  induction ra with
  | nil => exact .nil
  | @cons p q ps qs h t ih =>
    obtain ⟨key, v⟩ := q
    obtain ⟨h1, h2⟩ := h
    have h1' : p.1 = key := h1
    have ih' := ih fun p' hm => fk p' (List.mem_cons_of_mem _ hm)
    rw [List.all_cons]
    have rr : RelO (valV ls p.1) (PySem.valueAt vb p.1) := rb.val p.1
    rw [h1'] at rr ⊢
    cases e : valV ls key with
    | none =>
      rw [e] at rr
      cases e2 : PySem.valueAt vb key with
      | none => exact .miss e2
      | some y =>
        rw [e2] at rr
        exact rr.elim
    | some u =>
      rw [e] at rr
      obtain ⟨y, hy, ry⟩ := rr.some_of
      have fp := fk p List.mem_cons_self
      have fu := fl key u e
      obtain ⟨as, r1⟩ := Dp.reads I (dOf p.2) p.2 v (dp_flat (okV_flat fp)) h2
      obtain ⟨bs, r2⟩ := Dp.reads I (dOf u) u y (dp_flat (okV_flat fu)) ry
      have z := PySem.W.keq_at (A := X.A) r1 r2 (shaped_flat fp) (shaped_flat fu) (by show X.A.units + 1 + 64 < cLine; omega)
      rw [eqv_flat (okV_flat fp) (okV_flat fu)] at z
      exact .hit hy z ih'
def rEqK : R2 := fun x y H Q => ∃ (a b : Addr) (ks ls : List (Key × V)), x = .ref a ∧ y = .ref b ∧ H a = some (.dK ks) ∧ H b = some (.dK ls) ∧ (∀ p ∈ ks, okV p.2 = true) ∧ (∀ k u, valV ls k = some u → okV u = true) ∧ Q (.bl (eqK ks ls)) H
def rNeK : R2 := fun x y H Q => ∃ (a b : Addr) (ks ls : List (Key × V)), x = .ref a ∧ y = .ref b ∧ H a = some (.dK ks) ∧ H b = some (.dK ls) ∧ (∀ p ∈ ks, okV p.2 = true) ∧ (∀ k u, valV ls k = some u → okV u = true) ∧ Q (.bl (!eqK ks ls)) H
theorem op_eqK (hu : X.A.units + 66 < cLine) : OpR X (compareOp .Eq) rEqK := by
  intro pins s σ H x y v u Q I rx ry h
  obtain ⟨a, b, ks, ls, rfl, rfl, ha, hb, fk, fl, q⟩ := h
  cases (show v = Value.ref a from rx)
  cases (show u = Value.ref b from ry)
  obtain ⟨_, ya, va, ra, da⟩ := (show ObjOk X.prog X.w H s.heap a (.dK ks) from I.hok a _ ha)
  obtain ⟨_, yb, vb, rb, db⟩ := (show ObjOk X.prog X.w H s.heap b (.dK ls) from I.hok b _ hb)
  refine PySem.W.keq_eq (knd := mixKind X.prog X.w) ya yb da db (by omega) (fun _ => hitsK I hu rb fl ra fk) ?_
  rw [← ra.length, ← rb.length]
  exact ⟨.bl _, H, I, rfl, q⟩
theorem op_neK (hu : X.A.units + 66 < cLine) : OpR X (compareOp .NotEq) rNeK := by
  intro pins s σ H x y v u Q I rx ry h
  obtain ⟨a, b, ks, ls, rfl, rfl, ha, hb, fk, fl, q⟩ := h
  cases (show v = Value.ref a from rx)
  cases (show u = Value.ref b from ry)
  obtain ⟨_, ya, va, ra, da⟩ := (show ObjOk X.prog X.w H s.heap a (.dK ks) from I.hok a _ ha)
  obtain ⟨_, yb, vb, rb, db⟩ := (show ObjOk X.prog X.w H s.heap b (.dK ls) from I.hok b _ hb)
  refine PySem.W.keq_ne (knd := mixKind X.prog X.w) ya yb da db (by omega) (fun _ => hitsK I hu rb fl ra fk) ?_
  rw [← ra.length, ← rb.length]
  exact ⟨.bl _, H, I, rfl, q⟩
end
theorem hu66 {A : Around} {k : Nat} (hr : Room k A) : A.units + 66 < cLine := by have := hr.un; omega
end L2

/-! ### defs that may show things by repr: no repr stands above them -/
namespace L2
open PySem PySem.Spec PyProof.Rows
/-- FnOk where nothing is being shown yet -/
structure FnG (P : Program) (w : World) (K : PySem.W.Frag) (mg : Str → Option Value) (base : Heap) (CX : CXT) (k : Nat) (f : Addr) (fd : FuncData) (ps : List Str) (sp : Sp) : Prop where
  len : ∀ vs H Q E, sp vs H Q E → vs.length = ps.length
  run : ∀ (A : Around) (outer : List Env) (s : Shared) (H : Hp) (args : Args) (us : List Value) (vs : List V) (Q : VK) (E : XK), A.guards = some [] → Room k A → Env0 P w K mg base A outer s H → BindsTo s fd args (ps.zip us) → Vals vs us → sp vs H Q E →
    codeAny (model P w) A (.call (.ref f) args) (CR CX outer P w H s Q E) s
section
variable {P : Program} {w : World} {K : PySem.W.Frag} {mg : Str → Option Value} {base : Heap} {CX : CXT} {k : Nat} {f : Addr} {fd : FuncData} {ps : List Str} {sp : Sp}
theorem FnOk.g (F : FnOk P w K mg base CX k f fd ps sp) : FnG P w K mg base CX k f fd ps sp := ⟨F.len, fun A o s H ar us vs Q E _ => F.run A o s H ar us vs Q E⟩
theorem deeper_guards {A : Around} {env : Env} : (A.deeper env).guards = A.guards := by
  first
    | rfl
    | simp [Around.deeper]
end
section
variable {P : Program} {w : World} {K : PySem.W.Frag} {mg : Str → Option Value} {base : Heap}
/-- a def by its body, as Fun.ok, the body told that nothing is being shown -/
theorem Fun.okG {x qual : Str} {st : Stmt} {f : Addr} {fd : FuncData} {N ps : List Str} {k : Nat} {sp : Sp} (F : Fun K x qual st f fd) (S : FnScope N ps (defScope st)) (len : ∀ vs H Q E, sp vs H Q E → vs.length = ps.length)
    (hb : ∀ (cdv : Value) (A : Around) (outer : List Env) (s : Shared) (H : Hp) (vs : List V) (Q : VK) (E : XK), A.guards = some [] → Room k (A.deeper (envOfC qual (defScope st) s.heap.objs.size f cdv)) → sp vs H Q E →
      ∃ t, PSs (cxOf CX0 P w K mg base N qual (defScope st) f cdv A outer s H E).nox (defBody st) t ∧ t { nx := fun _ H' => Q .non H', rt := Q } (start N vs) H) : FnG P w K mg base CX0 (k + 1) f fd ps sp := by
  obtain ⟨oc, od, kV, doc, pm, an, cdv, ct, osl, rfl, lk, hcd⟩ := F.ex
  refine ⟨len, fun A outer s H args us vs Q E hgd hr env0 bnd rel hsp => ?_⟩
  have hlv := len _ _ _ _ hsp
  have kin : K.In s.heap := env0.mod.kin.keeps fun b o z => (env0.bs b o z).1
  have nol : s.heap.NoLimit := env0.mod.nolimit.keeps fun b o z => (env0.bs b o z).1
  have knd : ∀ y ∈ ps.zip us, (defScope st).names.lookup y.1 = some .local ∨ ((defScope st).names.lookup y.1 = some .cell ∧ ((cellsFrom (s.heap.objs.size + 1) (defScope st).names []).lookup y.1).isSome = true) := by
    rintro ⟨n, v⟩ hy
    rcases S.par n (List.of_mem_zip hy).1 with q | q
    · exact .inl q
    · exact .inr ⟨q, PySem.W.cellsFrom_some _ _ _ (.inl q)⟩
  refine codeAny_call_function hr.depth (kin _ _ lk) rfl S.co S.gen rfl (PySem.W.codeRec_of kin hcd) (bnd _ _ _ _ ?_)
  refine wpAny_newFunctionEnv_cells S.kind knd fun env henv s1 ic => ?_
  subst henv
  refine ⟨nol.keeps ic.toInCall.keep, codeAny_func ?_⟩
  obtain ⟨t, ht0, hq⟩ := hb cdv A outer s H vs Q E hgd (hr.deeper _) hsp
  have ht := ht0.nox
  have J0 : Inv (cxOf CX0 P w K mg base N qual (defScope st) f cdv A outer s H E) [] (start N vs) H s1 := inv_start S hr.hd env0 hlv rel ic
  refine wpAny_mono (ht.run [] s1 (start N vs) H _ J0 hq) (fun fl s' hs => ?_) fun _ _ z => z
  have done : ∀ {σ' : St} {H' : Hp} {v : V} {u : Value}, Inv (cxOf CX0 P w K mg base N qual (defScope st) f cdv A outer s H E) [] σ' H' s' → RelV v u → Q v H' → CE outer P w H s Q u s' :=
    fun {σ' H' v u} J r q => ⟨v, H', J.os, J.bare, J.base, J.hok, r, q⟩
  cases fl with
  | ret u => obtain ⟨v, σ', H', J, r, q⟩ := hs; exact done J r q
  | next => obtain ⟨σ', H', J, q⟩ := hs; exact done (v := V.non) (u := Value.none) J rfl q
  | brk => obtain ⟨_, _, _, q⟩ := hs; exact False.elim q
  | cont => obtain ⟨_, _, _, q⟩ := hs; exact False.elim q
end
section
variable {X : Cx} {CX : CXT} {k : Nat} {f : Addr} {fd : FuncData} {ps : List Str} {sp : Sp} {E : XK} {x : Str} {a1 : Expr} {ar : List Expr} {ta : TA} {q1 qc : Pos}
theorem run_fnG {pins : List (Addr × Obj)} {σ : St} {H : Hp} {s : Shared} {Q : VK} {us : List Value} {vs : List V} (hgd : X.A.guards = some []) (F : FnG X.prog X.w X.K X.mg X.base CX k f fd ps sp) (hr : Room k X.A) (hb : Binds X.K fd ps []) (hx : Passes CX X E)
    (I : Inv X pins σ H s) (r : Vals vs us) (h : sp vs H Q E) : wpAny (model X.prog X.w) X.A (call (.ref f) us) (EP X pins σ Q) X.xe s := by
  have hl : (us ++ []).length = ps.length := by
    rw [List.append_nil, ← r.length]
    exact F.len _ _ _ _ h
  have bb := hb s us I.kIn hl
  rw [List.append_nil] at bb
  refine wpAny_call (codeAny_mono (F.run X.A X.stack s H ⟨us, []⟩ us vs Q E hgd hr I.env0 bb r h) fun rs s' hq => ?_)
  cases rs with
  | error er => exact hx pins σ H s er s' I hq
  | ok fl =>
    cases fl with
    | ret u => exact I.after hq
    | next => exact False.elim hq
    | brk => exact False.elim hq
    | cont => exact False.elim hq
theorem pe_callG (hgd : X.A.guards = some []) (F : FnG X.prog X.w X.K X.mg X.base CX k f fd ps sp) (hr : Room k X.A) (hg : Gl X x) (hm : X.mg x = some (.ref f)) (hk : PySem.W.keepIn X.K (.ref f) = true) (hb : Binds X.K fd ps []) (hx : Passes CX X E) (ha : PA X (a1 :: ar) ta)
    (hdb : (x == ("__debug__" : Str)) = false := by decide) (hst : starEach (a1 :: ar) X.env = (false, eval a1 X.env) :: starEach ar X.env := by rfl) (hps : (backTo qc (starEach ar X.env)).any (·.1) = false := by rfl) :
    PE X (.Call (.Name x q1) (a1 :: ar) [] qc) (tCall sp [] E ta) := by
  refine ⟨fun pins s σ H Q I h => ?_⟩
  refine wpAny_Call_Name_kw (ld_glob I hg hm ?_ hdb)
  refine PySem.W.callWith_K (h₀ := X.base) I.ok.mod.kin hk (thn (ha.run qc pins s σ H _ I h) fun us s1 hh => ?_) hst hps
  obtain ⟨vs, H1, I1, r, q⟩ := hh
  rw [List.append_nil] at q
  exact ⟨I1.kIn, run_fnG hgd F hr hb hx I1 r q⟩
/-- repr of a thing made of flat things, lists, tuples -/
def rRepr (K : PySem.W.Frag) : List V → Hp → VK → Prop := fun xs H Q => ∃ (a : Addr) (d : PyData), xs = [.ref a] ∧ Dp K H (.ref a) d ∧ d.showable = true ∧ d.hasDict = false ∧ d.depth ≤ 60 ∧ d.shown.length ≤ sizeLine ∧ Q (.str d.shown) H
theorem call_reprD {n : Nat} (hgd : X.A.guards = some []) (hr : Room n X.A) : CallR X (.builtin "repr") (rRepr X.K) := by
  intro pins s σ H xs us Q I r h
  obtain ⟨a, d, rfl, hd, hs, hnd, hdp, hz, q⟩ := h
  cases r with
  | cons ra rr =>
    cases rr
    rename_i u
    cases (show u = Value.ref a from ra)
    obtain ⟨as, rd⟩ := Dp.reads I d _ _ hd rfl
    have hun := hr.un
    refine repr_of_reads' rd hs (fun z => by rw [hnd] at z; cases z) hgd (by omega) (fun _ _ z => z) (fun h' u tk hk => ?_) hz
    exact ⟨.str d.shown, H, I.kept (t' := tk) hk, ⟨_, rfl⟩, q⟩
end
end L2
namespace L2
open PySem PySem.Spec PyProof.Rows
theorem caller_guards : callerA.guards = some [] := rfl
/-- the law's call, as law_call, the promise over A with nothing shown -/
theorem law_callG {P : Program} {w : World} {K : PySem.W.Frag} {mg mb : Str → Option Value} {CX : CXT} {k : Nat} {fa a : Addr} {fd : FuncData} {x : Str} {sp : Sp} {z1 : Shared} {vs : List Value} {ns : List Int}
    (kin : K.In z1.heap) (hns : z1.heap.Ns mainGlobals mg) (hbn : z1.heap.Ns builtinsNs mb) (hbb : ∀ y : Str, y ≠ "__name__" → mb y = bootBuiltins y) (hlim : z1.heap.NoLimit) (hgen : z1.gens = #[])
    (hscr : z1.heap.get? a = some { cls := .type "list", data := .seq vs.toArray }) (hi : IntsAre vs ns) (hl : ns.length ≤ sizeLine) (hr : Room k callerA)
    (F : ∀ base : Heap, K.In base → base.Ns mainGlobals mg → FnG P w K mg base CX k fa fd [x] sp) (hbind : ∀ (s : Shared) (u : Value), BindsTo s fd ⟨[u], []⟩ [(x, u)])
    (hsp : ∀ H : Hp, Only H → SqL K H a (ns.map V.int) → sp [.ref a] H (fun v _ => v = .bl true) fun _ _ _ => False) (hCX : ∀ H e s', CX [] H z1 (fun _ _ _ => False) e s' → False) :
    codeAny (model P w) callerA (.call (.ref fa) ⟨[.ref a], []⟩) (fun r s' => r = .ok (.ret (.bool true)) ∧ OldK z1.heap s'.heap ∧ s'.os = z1.os ∧ AllBare s'.gens) z1 := by
  have rel := vals_ints hi
  have lenV := hi.length
  have core : ∀ H : Hp, Only H → SqL K H a (ns.map V.int) → HOk P w H z1.heap → (∀ b, H b ≠ none → b = a) → (H a ≠ none → K.lookup a = none) →
      codeAny (model P w) callerA (.call (.ref fa) ⟨[.ref a], []⟩) (fun r s' => r = .ok (.ret (.bool true)) ∧ OldK z1.heap s'.heap ∧ s'.os = z1.os ∧ AllBare s'.gens) z1 := by
    intro H hO hS hok hA hK
    have below : ∀ {b : Addr} {o : Obj}, z1.heap.get? b = some o → H b = none → (hidT z1.heap H).get? b = some o := fun q n => hidT_get q n
    have noDict : ∀ {b : Addr} {o : Obj} {es : Array DictEntry} {ep : Nat}, z1.heap.get? b = some o → o.data = .dict es ep → H b = none := by
      intro b o es ep q d
      cases hq : H b with
      | none => rfl
      | some u =>
        obtain rfl : b = a := hA b (by rw [hq]; simp)
        rw [hscr] at q
        cases q
        cases (show Data.seq vs.toArray _ = Data.dict es ep from d)
    have nsUp : ∀ {b : Addr} {m : Str → Option Value}, z1.heap.Ns b m → (hidT z1.heap H).Ns b m := by
      rintro b m ⟨o, es, ep, q, d, r⟩
      exact ⟨o, es, ep, below q (noDict q d), d, r⟩
    have kinB : K.In (hidT z1.heap H) := by
      intro b o q
      refine below (kin b o q) ?_
      cases hq : H b with
      | none => rfl
      | some u =>
        obtain rfl : b = a := hA b (by rw [hq]; simp)
        rw [hK (by rw [hq]; simp)] at q
        cases q
    have md : Mod K mg (hidT z1.heap H) := ⟨kinB, nsUp hns, ⟨mb, nsUp hbn, hbb⟩, let ⟨mc, h1, h2⟩ := hlim; ⟨mc, nsUp h1, h2⟩⟩
    have en0 : Env0 P w K mg (hidT z1.heap H) callerA [] z1 H := ⟨rfl, md, fun b o q => of_hidT q, Nat.le_of_eq (hidT_size _ _), trivial, fun b hb => absurd (show b ∈ ([] : List Addr) from hb) (by simp), hok, .of_eq hgen⟩
    refine codeAny_mono ((F _ kinB (nsUp hns)).run callerA [] z1 H ⟨[.ref a], []⟩ [.ref a] [.ref a] _ _ caller_guards hr en0 (hbind z1 (.ref a)) (.cons rfl .nil) (hsp H hO hS)) fun r s' h => ?_
    cases r with
    | error er => exact (hCX H er s' h).elim
    | ok fl =>
      cases fl with
      | next => exact False.elim h
      | brk => exact False.elim h
      | cont => exact False.elim h
      | ret u =>
        obtain ⟨v, H', hos, bare, un, hok', r', hv⟩ := h
        obtain rfl : v = .bl true := hv
        obtain rfl : u = Value.bool true := r'
        refine ⟨rfl, OldK.of_keep fun b o q => ?_, hos, bare⟩
        cases hq : H b with
        | none => exact un.keep b o q hq (fun z => absurd (show b ∈ ([] : List Addr) from z) (by simp)) (by simp)
        | some u =>
          rcases hO b with z | ⟨ob, xs, z⟩
          · rw [hq] at z
            cases z
          · obtain ⟨e1, _⟩ := hok b _ z
            obtain ⟨e2, _⟩ := hok' b _ (un.frzs b ob _ z)
            rw [q] at e1
            cases e1
            exact e2
  cases hk : K.lookup a with
  | some o =>
    have q := kin a o hk
    rw [hscr] at q
    cases q
    exact core (fun _ => none) (fun _ => .inl rfl) (.inr ⟨_, vs.toArray, _, hk, rfl, rfl, rfl, by rw [List.size_toArray, lenV]; exact hl, by simpa using rel⟩) (fun b u z => nomatch (show (none : Option HO) = some u from z)) (fun b z => absurd rfl z) (fun z => absurd rfl z)
  | none =>
    have hH : ∀ b, (if b = a then some (HO.frz { cls := .type "list", data := .seq vs.toArray } (.lst (ns.map V.int))) else none) ≠ none → b = a := fun b z => by
      by_cases hb : b = a
      · exact hb
      · exact absurd (if_neg hb) z
    refine core (fun b => if b = a then some (.frz { cls := .type "list", data := .seq vs.toArray } (.lst (ns.map V.int))) else none) (fun b => ?_) (.inl (.inr ⟨{ cls := .type "list", data := .seq vs.toArray }, if_pos rfl⟩)) (fun b u z => ?_) hH (fun _ => hk)
    · by_cases hb : b = a
      · exact .inr ⟨_, _, if_pos hb⟩
      · exact .inl (if_neg hb)
    · by_cases hb : b = a
      · cases (if_pos hb).symm.trans z
        subst hb
        exact ⟨hscr, by rw [List.length_map]; exact hl, vs, _, rel, hscr⟩
      · cases (if_neg hb).symm.trans z
theorem walk_ofG {l : PySem.W.OpenLaw} {n k : Nat} {q : Program} {loose : List Str} {XP : (Str → Option Value) → Heap → Prop} {YP : World → Heap → Prop} {d : DefRec} {K : Params → PySem.W.Frag} {CX : CXT} {sp : PySem.W.Frag → Sp} {x : Str}
    (hn : l.most = some n) (hn2 : n ≤ sizeLine) (hdf : d.params.defaults = []) (hr : Room k callerA) (hY : ∀ (w : World) (h : Heap), YP w h → (K w.params).In h)
    (F : ∀ (w : World) (mg : Str → Option Value) (fa : Addr) (h : Heap), (K w.params).In h → h.Ns mainGlobals mg → mg d.name = some (.ref fa) → ∃ fd : FuncData, (∀ (s : Shared) (u : Value), BindsTo s fd ⟨[u], []⟩ [(x, u)]) ∧
        ∀ base : Heap, (K w.params).In base → base.Ns mainGlobals mg → FnG l.prog w (K w.params) mg base CX k fa fd [x] (sp (K w.params)))
    (hsp : ∀ (K : PySem.W.Frag) (H : Hp) (a : Addr) (ns : List Int), ns.length ≤ n → Only H → SqL K H a (ns.map V.int) → sp K [.ref a] H (fun v _ => v = .bl true) fun _ _ _ => False) (hCX : ∀ (H : Hp) (s : Shared) (e : Value) (s' : Shared), CX [] H s (fun _ _ _ => False) e s' → False) :
    PySem.W.WalkO q loose XP YP l.row.toRowW d [] (fun f vs => PySem.call f vs) := by
  refine Att.attach_call hn hdf fun w s0 z1 mg mb fa o pm cd doc a vs ns G Y ho hd hcd hmg hobj hints hlen hg => ?_
  obtain ⟨fd, hb, hF⟩ := F w mg fa _ (hY w _ Y) G.T.g hmg
  exact law_callG (hY w _ Y) G.T.g G.T.b G.T.builtins G.T.nolimit hg hobj hints (Nat.le_trans hlen hn2) hr hF hb (fun H hO hS => hsp (K w.params) H a ns hlen hO hS) fun H e s' => hCX H z1 e s'
end L2

/-! ### own objects whose class is found by the object -/
namespace L2
open PySem PySem.Spec PyProof.Rows
/-- the method m of the class at C keeps sp, by a def of level k -/
structure MOk (P : Program) (w : World) (K : PySem.W.Frag) (mg : Str → Option Value) (base : Heap) (CX : CXT) (k : Nat) (C : Addr) (m : Str) (sp : Sp) : Prop where
  cl : Cls K C
  ex : ∃ (f : Addr) (fd : FuncData) (ps : List Str), Meth K C m f ∧ FnOk P w K mg base CX k f fd ps sp ∧ Binds K fd ps []
section
variable {X : Cx} {CX : CXT} {k : Nat} {sp : Addr → Sp} {E : XK} {m : Str} {o a1 : Expr} {ar : List Expr} {te : TE} {ta : TA} {qa qc : Pos} {M : Addr → Prop}
/-- o.m(), o of one of the classes M -/
def tMP (M : Addr → Prop) (m : Str) (sp : Addr → Sp) (E : XK) (te : TE) (ta : TA) : TE := fun σ H Q => te σ H fun x H1 => ∃ a C dx fs, x = .ref a ∧ H1 a = some (.ins C dx fs) ∧ M C ∧ fs.lookup m = none ∧ ta σ H1 fun vs H2 => sp C (x :: vs) H2 Q E
theorem pe_methP0 {pl : Sem Bool} (he : PE X o te) (hM : ∀ C, M C → MOk X.prog X.w X.K X.mg X.base CX k C m (sp C)) (hr : Room k X.A) (hx : Passes CX X E)
    (hcal : eval (.Call (.Attribute o m qa) [] [] qc) X.env = (eval o X.env >>= fun ov => standAt qa.atName >>= fun _ => holding [ov] (getMethod ov m pl) >>= fun r => callWith qc r.1 r.2 (backTo qc (starEach [] X.env)) (backToKw qc (keywordEach [] X.env))) := by rfl) :
    PE X (.Call (.Attribute o m qa) [] [] qc) (tMP M m sp E te tNil) := by
  refine ⟨fun pins s σ H Q I h => ?_⟩
  refine PySem.W.methodCall_KW (pl := pl) (thn (he.run pins s σ H _ I h) fun u s1 hh => ?_) hcal
  obtain ⟨x, H1, I1, rx, a, C, dx, fs, rfl, ea, hC, l, q⟩ := hh
  obtain rfl : u = Value.ref a := rx
  obtain ⟨cl, f, fd, ps, hm, F, hb⟩ := hM C hC
  refine getmeth_ok I1 ea cl hm l ?_
  exact PySem.W.callWith_K0 (first := [.ref a]) I1.kIn hm.kp (run_fn (us := [.ref a]) (vs := [.ref a]) (dvs := []) F hr hb .nil hx I1 (.cons rfl .nil) q)
theorem pe_methP {pl : Sem Bool} (he : PE X o te) (hM : ∀ C, M C → MOk X.prog X.w X.K X.mg X.base CX k C m (sp C)) (hr : Room k X.A) (hx : Passes CX X E) (ha : PA X (a1 :: ar) ta)
    (hst : starEach (a1 :: ar) X.env = (false, eval a1 X.env) :: starEach ar X.env := by rfl) (hps : (backTo qc (starEach ar X.env)).any (·.1) = false := by rfl)
    (hcal : eval (.Call (.Attribute o m qa) (a1 :: ar) [] qc) X.env = (eval o X.env >>= fun ov => standAt qa.atName >>= fun _ => holding [ov] (getMethod ov m pl) >>= fun r => callWith qc r.1 r.2 (backTo qc (starEach (a1 :: ar) X.env)) (backToKw qc (keywordEach [] X.env))) := by rfl) :
    PE X (.Call (.Attribute o m qa) (a1 :: ar) [] qc) (tMP M m sp E te ta) := by
  refine ⟨fun pins s σ H Q I h => ?_⟩
  refine PySem.W.methodCall_KW (pl := pl) (thn (he.run pins s σ H _ I h) fun u s1 hh => ?_) hcal
  obtain ⟨x, H1, I1, rx, a, C, dx, fs, rfl, ea, hC, l, q⟩ := hh
  obtain rfl : u = Value.ref a := rx
  obtain ⟨cl, f, fd, ps, hm, F, hb⟩ := hM C hC
  refine getmeth_ok I1 ea cl hm l ?_
  refine PySem.W.callWith_K (first := [.ref a]) (h₀ := X.base) I.ok.mod.kin hm.kp (thn (ha.run qc pins s1 σ H1 _ I1 q) fun us s2 h2 => ?_) hst hps
  obtain ⟨vs, H2, I2, r, q2⟩ := h2
  exact ⟨I2.kIn, run_fn (us := .ref a :: us) (vs := .ref a :: vs) (dvs := []) F hr hb .nil hx I2 (.cons rfl r) (by rw [List.append_nil]; exact q2)⟩
theorem c_mp {σ : St} {H : Hp} {Q : VK} (h : te σ H fun x H1 => ∃ a C dx fs, x = .ref a ∧ H1 a = some (.ins C dx fs) ∧ M C ∧ fs.lookup m = none ∧ ta σ H1 fun vs H2 => sp C (x :: vs) H2 Q E) : tMP M m sp E te ta σ H Q := h
def tNeverE : TE := fun _ _ _ => False
theorem pe_never {e : Expr} : PE X e tNeverE := ⟨fun _ _ _ _ _ _ h => h.elim⟩
end
end L2
namespace L2
open PySem PySem.Spec PyProof.Rows
section
variable {X : Cx}
theorem dpAll_int {K : PySem.W.Frag} {H : Hp} : ∀ ns : List Int, DpAll K H (ns.map V.int) (ns.map PyData.int)
  | [] => .nil
  | n :: ns => .cons (.int n) (dpAll_int ns)
/-- the greatest of these, and of the last one -/
def maxL : List Int → Int
  | [] => 0
  | y :: ys => PySem.W.maxOf y ys
/-- max(l, default=z), l of whole numbers -/
theorem call_maxD {n : Nat} (hr : Room n X.A) : CallRK X (.builtin "max") ["default"] (fun xs zs H Q => ∃ (a : Addr) (ns : List Int) (z : V), xs = [.ref a] ∧ zs = [z] ∧ SqL X.K H a (ns.map V.int) ∧ (ns = [] → Q z H) ∧ ∀ y ys, ns = y :: ys → Q (.int (PySem.W.maxOf y ys)) H) := by
  intro pins s σ H xs zs us ws Q I r rz h
  obtain ⟨a, ns, z, rfl, rfl, hS, h0, h1⟩ := h
  cases r with
  | cons ra rr =>
    cases rr
    rename_i u
    cases (show u = Value.ref a from ra)
    cases rz with
    | cons rz1 rzz =>
      cases rzz
      rename_i zu
      obtain ⟨its, rv, hp, hlen⟩ := I.list hS
      obtain ⟨as, rds⟩ := Dp.readsAll I _ _ its (dpAll_int ns) rv
      have hun := hr.un
      have hD : PySem.W.HoldAll s.heap its.toArray.toList ns := ⟨as, rds⟩
      refine PySem.W.max_list_datum_default (α := Int) hr.hd hp.isList hD (by show X.A.units + 1 + 0 < cLine; omega) (fun e h' tk hk => ?_) (fun y ys i v h' tk e hi hv hk => ?_)
      · exact ⟨z, H, I.kept (t' := tk) hk, rz1, h0 e⟩
      · obtain ⟨bs, rd⟩ := hv
        have hv2 : ∃ t, v = Value.int (PySem.W.maxOf y ys) t := by
          have rd' : Reads h' v (.int (PySem.W.maxOf y ys)) bs := rd
          cases rd' with
          | int i t => exact ⟨t, rfl⟩
        exact ⟨.int (PySem.W.maxOf y ys), H, I.kept (t' := tk) hk, hv2, h1 y ys e⟩
end
end L2
namespace L2
open PySem PySem.Spec PyProof.Rows
/-- a plain class with these fields, that can be made -/
def tcB (K : PySem.W.Frag) (C : Addr) (fs : List Str) : Bool :=
  ((PySem.W.plainGet K C Str.empty && PySem.W.hasDictIn K C) && (PySem.W.plainOver K C && (PySem.W.makesIn K C && PySem.W.keepIn K (.ref C)))) &&
  ((decide (PySem.W.findIn K (.ref C) "__setattr__" = some (some (.builtin "object.__setattr__"))) && decide (PySem.W.findIn K (.ref C) "__class__" = some (some (.builtin "object.__class__")))) &&
  ((decide (PySem.W.specialIn K (.builtin "object.__class__") "__get__" = some (some (.builtin "getset_descriptor.__get__"))) && decide (PySem.W.takesIn K (.builtin "object.__class__") = some true)) &&
  (decide (PySem.W.mroIn K C (.type "object") = some true) && fs.all fun f => decide (PySem.W.findIn K (.ref C) f = some none))))
structure TcC (K : PySem.W.Frag) (C : Addr) (fs : List Str) : Prop where
  cl : Cls K C
  makes : PySem.W.makesIn K C = true
  kp : PySem.W.keepIn K (.ref C) = true
  ty : ∀ {H : Hp} {a dx : Addr} {gs : List (Str × V)}, H a = some (.ins C dx gs) → TyX K H (.ref a) (.ref C)
  no : ∀ f ∈ fs, NoAttr K C f
theorem tcB_ok {K : PySem.W.Frag} {C : Addr} {fs : List Str} (h : tcB K C fs = true) : TcC K C fs := by
  unfold tcB at h
  simp only [Bool.and_eq_true, decide_eq_true_eq, List.all_eq_true] at h
  obtain ⟨⟨⟨h1, h2⟩, h3, h4, h5⟩, ⟨h6, h7⟩, ⟨h8, h9⟩, h10, h11⟩ := h
  have cl : Cls K C := ⟨h1, h2, h3, h6⟩
  exact ⟨cl, h4, h5, fun e => .base (.ins e cl h7 h8 h9 h10), h11⟩
section
variable {K : PySem.W.Frag} {σ : St} {H : Hp} {Q : VK} {D : Ends} {te tv : TE} {f : Str} {ta tk : TA} {C : Addr} {sp : Sp} {E : XK}
theorem c_fld (h : te σ H fun x H1 => ∃ a C dx fs v, x = .ref a ∧ H1 a = some (.ins C dx fs) ∧ Cls K C ∧ NoAttr K C f ∧ fs.lookup f = some v ∧ Q v H1) : tFld K te f σ H Q := h
theorem c_sfld (h : tv σ H fun y H1 => te σ H1 fun x H2 => ∃ a C dx fs, x = .ref a ∧ H2 a = some (.ins C dx fs) ∧ Cls K C ∧ NoAttr K C f ∧ fs.length < 1000 ∧ D.nx σ (upd H2 a (.ins C dx (putF f y fs)))) : sFld K te tv f D σ H := h
/-- C(..): what is asked, by one word -/
def MkP2 (C : Addr) (sp : Sp) (vs : List V) (H : Hp) (Q : VK) (E : XK) : Prop := ∀ x dx, H x = none → H dx = none → dx ≠ x → sp (.ref x :: vs) (upd (upd H dx (.own x)) x (.ins C dx [])) (fun v H2 => v = .non ∧ Q (.ref x) H2) E
theorem c_make (h : ta σ H fun vs H1 => MkP2 C sp vs H1 Q E) : tMake C sp [] E ta σ H Q := by
  show ta σ H fun vs H1 => ∀ x dx, H1 x = none → H1 dx = none → dx ≠ x → sp (.ref x :: (vs ++ [])) (upd (upd H1 dx (.own x)) x (.ins C dx [])) (fun v H2 => v = .non ∧ Q (.ref x) H2) E
  simp only [List.append_nil]
  exact h
theorem c_ckw {r : List V → List V → Hp → VK → Prop} (h : ta σ H fun vs H1 => tk σ H1 fun zs H2 => r vs zs H2 Q) : tCKw r ta tk σ H Q := h
end
end L2

/-! facts of classes, as truths -/
namespace L2
open PySem
def difB : List Addr → Bool
  | [] => true
  | a :: as => as.all (fun b => !decide (a = b)) && difB as
theorem difB_ne {a b : Addr} : ∀ {l : List Addr} {i j : Nat}, difB l = true → l[i]? = some a → l[j]? = some b → i < j → a ≠ b
  | [], i, j, _, h, _, _ => by simp at h
  | c :: l, i, j, h, hi, hj, hij => by
    rw [difB, Bool.and_eq_true, List.all_eq_true] at h
    cases j with
    | zero => omega
    | succ j =>
      rw [List.getElem?_cons_succ] at hj
      cases i with
      | zero =>
        have : c = a := by simpa using hi
        subst this
        have := h.1 b (List.mem_of_getElem? hj)
        intro e
        subst e
        simp at this
      | succ i =>
        rw [List.getElem?_cons_succ] at hi
        exact difB_ne h.2 hi hj (by omega)
/-- of class c, and with the plain == -/
def subB (K : PySem.W.Frag) (C c : Addr) : Bool := decide (PySem.W.kitOne K (.ref C) (.ref c) = some true) && (decide (PySem.W.mroIn K C (.type "object") = some true) && decide (PySem.W.findIn K (.ref C) "__eq__" = some (some (.builtin "object.__eq__"))))
end L2
namespace L2
open PySem
/-- each of these is of its own class and of E alone -/
def kitTab (K : PySem.W.Frag) (cs : List Addr) (E : Addr) : Bool := cs.all fun c => decide (PySem.W.kitOne K (.ref c) (.ref E) = some true) && (decide (PySem.W.mroIn K c (.type "object") = some true) && (decide (PySem.W.findIn K (.ref c) "__eq__" = some (some (.builtin "object.__eq__"))) && cs.all fun c' => decide (PySem.W.kitOne K (.ref c) (.ref c') = some (decide (c = c')))))
end L2

/-! ### repr of nested things: the bounds; comprehensions that make things -/
namespace L2
open PySem PySem.Spec PyProof.Rows
open TL (tl)
/-- may be shown: nested at most D deep, its signs and things at most B -/
def RpOk (D B : Nat) (d : PyData) : Prop := d.showable = true ∧ d.canLay0 = true ∧ d.leavesShort 13 = true ∧ d.depth ≤ D ∧ d.bulk ≤ B
def RpAll (D B : Nat) (ds : List PyData) : Prop := PyData.showableAll ds = true ∧ PyData.canLayAll0 ds = true ∧ PyData.leavesShortAll 13 ds = true ∧ PyData.depthAll ds ≤ D ∧ PyData.bulkAll ds ≤ B
theorem RpOk.mono {D B D2 B2 : Nat} {d : PyData} (h : RpOk D B d) (hD : D ≤ D2) (hB : B ≤ B2) : RpOk D2 B2 d := ⟨h.1, h.2.1, h.2.2.1, Nat.le_trans h.2.2.2.1 hD, Nat.le_trans h.2.2.2.2 hB⟩
theorem rp_non : RpOk 0 0 .none := ⟨by simp only [PyData.showable], by simp only [PyData.canLay0], by simp only [PyData.leavesShort], by simp only [PyData.depth]; omega, by simp only [PyData.bulk]; omega⟩
theorem rp_bl (b : Bool) : RpOk 0 0 (.bool b) := ⟨by simp only [PyData.showable], by simp only [PyData.canLay0], by simp only [PyData.leavesShort], by simp only [PyData.depth]; omega, by simp only [PyData.bulk]; omega⟩
theorem rp_int {i : Int} (h : i.natAbs < 10 ^ 12) : RpOk 0 0 (.int i) := by
  refine ⟨?_, by simp only [PyData.canLay0], ?_, by simp only [PyData.depth]; omega, by simp only [PyData.bulk]; omega⟩
  · simp only [PyData.showable, decide_eq_true_eq]
    by_cases h0 : i.natAbs = 0
    · rw [h0]; decide
    · have h1 : i.natAbs.log2 < 40 := (Nat.log2_lt h0).mpr (Nat.lt_trans h (by decide))
      omega
  · simp only [PyData.leavesShort, decide_eq_true_eq]
    exact PyData.shown_int_le h
theorem rp_str {x : Str} (h : OkT x) : RpOk 0 x.length (.str x) := by
  refine ⟨by simp only [PyData.showable], by simp only [PyData.canLay0]; exact okT_V h, ?_, by simp only [PyData.depth]; omega, by simp only [PyData.bulk]; exact Nat.le_refl _⟩
  simp only [PyData.leavesShort, List.all_eq_true, decide_eq_true_eq]
  exact fun c hc => Nat.lt_trans (h c hc) (by decide)
theorem rp_nil : RpAll 0 0 [] := ⟨by simp only [PyData.showableAll], by simp only [PyData.canLayAll0], by simp only [PyData.leavesShortAll], by simp only [PyData.depthAll]; omega, by simp only [PyData.bulkAll]; omega⟩
theorem rp_cons {D B D2 B2 : Nat} {d : PyData} {ds : List PyData} (h : RpOk D B d) (k : RpAll D2 B2 ds) : RpAll (max D D2) (B + 1 + B2) (d :: ds) := by
  obtain ⟨h1, h2, h3, h4, h5⟩ := h
  obtain ⟨k1, k2, k3, k4, k5⟩ := k
  refine ⟨by simp only [PyData.showableAll, h1, k1, Bool.and_self], by simp only [PyData.canLayAll0, h2, k2, Bool.and_self], by simp only [PyData.leavesShortAll, h3, k3, Bool.and_self], by simp only [PyData.depthAll]; omega, by simp only [PyData.bulkAll]; omega⟩
theorem rp_tup {D B : Nat} {ds : List PyData} (h : RpAll D B ds) : RpOk (D + 1) B (.tuple ds) := by
  obtain ⟨h1, h2, h3, h4, h5⟩ := h
  exact ⟨by simp only [PyData.showable, h1], by simp only [PyData.canLay0, h2], by simp only [PyData.leavesShort, h3], by simp only [PyData.depth]; omega, by simp only [PyData.bulk]; omega⟩
theorem rp_lst {D B : Nat} {ds : List PyData} (h : RpAll D B ds) : RpOk (D + 1) B (.list ds) := by
  obtain ⟨h1, h2, h3, h4, h5⟩ := h
  exact ⟨by simp only [PyData.showable, h1], by simp only [PyData.canLay0, h2], by simp only [PyData.leavesShort, h3], by simp only [PyData.depth]; omega, by simp only [PyData.bulk]; omega⟩
theorem rp_all {D B : Nat} : ∀ {ds : List PyData}, (∀ d ∈ ds, RpOk D B d) → RpAll D (ds.length * (B + 1)) ds
  | [], _ => ⟨by simp only [PyData.showableAll], by simp only [PyData.canLayAll0], by simp only [PyData.leavesShortAll], by simp only [PyData.depthAll]; omega, by simp only [PyData.bulkAll]; omega⟩
  | d :: ds, h => by
    obtain ⟨h1, h2, h3, h4, h5⟩ := rp_cons (h d List.mem_cons_self) (rp_all (ds := ds) fun e he => h e (List.mem_cons_of_mem _ he))
    refine ⟨h1, h2, h3, by omega, ?_⟩
    rw [List.length_cons, Nat.succ_mul]
    omega
theorem c_repr {K : PySem.W.Frag} {H : Hp} {Q : VK} {a : Addr} {d : PyData} {D B : Nat} (h : Dp K H (.ref a) d) (r : RpOk D B d) (q : Q (.str d.shown) H) (hD : D ≤ 60 := by decide) (hB : B ≤ 2 ^ 20 := by decide) : rRepr K [.ref a] H Q :=
  ⟨a, d, rfl, h, r.1, PyData.hasDict_of_canLay d r.2.1, Nat.le_trans r.2.2.2.1 hD, PyData.shown_fits_bulk (B := 13) (by decide) (by decide) r.2.2.1 (Nat.le_trans r.2.2.2.2 hB), q⟩
theorem BoxAt.up {H H2 : Hp} {b : Addr} (h : BoxAt H b) (e : Evl.Ex H H2) : BoxAt H2 b := let ⟨x, y, z, p, q⟩ := h; ⟨x, y, z, p, e _ _ q⟩
theorem RpOk.shaped {D B : Nat} {d : PyData} (h : RpOk D B d) (hD : D ≤ 64 := by decide) : SeqAt.shaped d = true := by
  unfold SeqAt.shaped
  rw [h.2.1, Bool.true_and, decide_eq_true_eq]
  exact Nat.le_trans h.2.2.2.1 hD
/-- s * n, n nought or one -/
theorem op_rep_str01 {X : Cx} : OpR X (binaryOp .Mult) (fun x y H Q => ∃ (z : Str) (n : Int), x = .str z ∧ y = .int n ∧ ((n = 0 ∧ Q (.str Str.empty) H) ∨ (n = 1 ∧ Q (.str z) H))) := by
  intro pins s σ H x y v u Q I rx ry h
  obtain ⟨z, n, rfl, rfl, h⟩ := h
  obtain ⟨t, rfl⟩ := rx
  obtain ⟨t', rfl⟩ := ry
  rcases h with ⟨rfl, q⟩ | ⟨rfl, q⟩
  · exact PySem.P.mul_str_none (by decide) (by decide) ⟨.str Str.empty, H, I.tok _, ⟨_, rfl⟩, q⟩
  · refine PySem.P.mul_str (by decide) (fun _ h2 => absurd h2 (by simp)) (fun _ h2 => absurd h2 (by simp)) ?_
    rw [if_neg (by decide), if_pos (by rfl)]
    exact ⟨.str z, H, I, ⟨_, rfl⟩, q⟩
/-- all that is no list stays -/
def NL (H H2 : Hp) : Prop := ∀ a o, (∀ ys, o ≠ HO.lst ys) → H a = some o → H2 a = some o
theorem NL.of {H H2 : Hp} (e : Evl.Ex H H2) : NL H H2 := fun a o _ h => e a o h
theorem NL.trans {H H2 H3 : Hp} (e : NL H H2) (e2 : NL H2 H3) : NL H H3 := fun a o n h => e2 a o n (e a o n h)
theorem NL.upd {H : Hp} {f : Addr} {xs ys : List V} (h : H f = some (.lst xs)) : NL H (upd H f (.lst ys)) := fun a o n ha => by
  rw [upd_ne (ne_of ha h (n xs))]
  exact ha
theorem NL.box {H H2 : Hp} {b : Addr} (e : ExB b H H2) (h : BoxAt H b) : NL H H2 := fun a o n ha => by
  obtain ⟨x, y, z, _, q⟩ := h
  exact e a o (ne_of ha q (n _)) ha
section
variable {K : PySem.W.Frag} {σ : St} {H : Hp} {Q : VK} {g : TG} {tt : TT} {te : TE} {vs : List Nat}
theorem lcTN {a : Addr} {xs : List V} (P : Nat → V → Hp → Prop) (hst : ∀ i y G G2, NL G G2 → P i y G → P i y G2) (hs : SqT K H a xs) (hn : xs.length ≤ 1000)
    (ht : ∀ (i : Nat) (x : V), xs[i]? = some x → ∀ H2, Evl.Ex H H2 → ∀ (R : V → Hp → Prop) (N : Hp → Prop), (∀ y H3, Evl.Ex H2 H3 → P i y H3 → R y H3) →
      g x (wipe σ vs) H2 fun σ2 H3 => wipe σ2 vs = wipe σ vs ∧ tt σ2 H3 fun c H4 => if c = true then te σ2 H4 fun y H5 => R y H5 else N H4)
    (k : ∀ ys p H2, ys.length = xs.length → (∀ i y, ys[i]? = some y → P i y H2) → H p = none → Evl.Ex H H2 → H2 p = some (.lst ys) → Q (.ref p) H2) : LcI (Itt K a) g tt te vs σ H Q := by
  refine fun D hD => ?_
  have ex : ∀ {G : Hp} {o : HO}, Evl.Ex H G → Evl.Ex H (upd G D o) := fun e b u hb => by rw [upd_ne (ne_of_none hb hD)]; exact e b u hb
  refine lc_tup (xs := xs) (fun i H' => i ≤ xs.length ∧ Evl.Ex H H' ∧ ∃ ys, ys.length = i ∧ (∀ j y, ys[j]? = some y → P j y H') ∧ H' D = some (.lst ys))
    ⟨Nat.zero_le _, ex (Evl.Ex.refl _), [], rfl, (fun j y h => by simp at h), upd_same⟩ (fun i H' _ p => Evl.ex_t p.2.1 hs) (fun i x H' hi p => ?_) (fun H' p => ?_)
  · obtain ⟨_, e1, ys, hl, hy, hD'⟩ := p
    have hil := (List.getElem?_eq_some_iff.mp hi).1
    refine ht i x hi H' e1 (fun y H4 => ∃ acc, H4 D = some (.lst acc) ∧ acc.length < sizeLine ∧ (i + 1 ≤ xs.length ∧ Evl.Ex H (upd H4 D (.lst (acc ++ [y]))) ∧ ∃ zs, zs.length = i + 1 ∧ (∀ j y2, zs[j]? = some y2 → P j y2 (upd H4 D (.lst (acc ++ [y])))) ∧ upd H4 D (.lst (acc ++ [y])) D = some (.lst zs))) _ (fun y H3 e3 py => ?_)
    have hD3 := e3 _ _ hD'
    have eD : NL H3 (upd H3 D (.lst (ys ++ [y]))) := NL.upd hD3
    refine ⟨ys, hD3, Evl.sz_lt (by omega), hil, ex (e1.trans e3), ys ++ [y], by rw [List.length_append, hl]; rfl, fun j y2 hj => ?_, upd_same⟩
    rcases Nat.lt_or_ge j ys.length with h | h
    · rw [List.getElem?_append_left h] at hj
      exact hst _ _ _ _ eD (hst _ _ _ _ (NL.of e3) (hy j y2 hj))
    · rw [List.getElem?_append_right h] at hj
      have hj0 : j - ys.length = 0 := by
        have := (List.getElem?_eq_some_iff.mp hj).1
        rw [List.length_singleton] at this
        omega
      rw [hj0] at hj
      have hyy : y = y2 := by simpa using hj
      subst hyy
      have : j = i := by omega
      subst this
      exact hst _ _ _ _ eD py
  · obtain ⟨_, e1, ys, hl, hy, hD'⟩ := p
    exact k ys D H' hl hy hD e1 hD'
/-- the same over range(n), with draws -/
theorem lcRN {n : Nat} {b : Addr} (P : Nat → V → Hp → Prop) (hst : ∀ i y G G2, NL G G2 → P i y G → P i y G2) (hn : n ≤ 1000) (hB : BoxAt H b)
    (ht : ∀ (i : Nat), i < n → ∀ H2, BoxAt H2 b → ExB b H H2 → ∀ (R : V → Hp → Prop) (N : Hp → Prop), (∀ y H3, ExB b H2 H3 → BoxAt H3 b → P i y H3 → R y H3) →
      g (.int (i : Int)) (wipe σ vs) H2 fun σ2 H3 => wipe σ2 vs = wipe σ vs ∧ tt σ2 H3 fun c H4 => if c = true then te σ2 H4 fun y H5 => R y H5 else N H4)
    (k : ∀ ys p H2, ys.length = n → (∀ i y, ys[i]? = some y → P i y H2) → H p = none → ExB b H H2 → BoxAt H2 b → H2 p = some (.lst ys) → Q (.ref p) H2) : LcI (Itr 0 n) g tt te vs σ H Q := by
  refine fun D hD => ?_
  obtain ⟨ob, hob⟩ := hB.some
  have nDb : D ≠ b := (ne_of_none hob hD).symm
  have bx : ∀ {G : Hp} {o : HO}, BoxAt G b → BoxAt (upd G D o) b := fun ⟨x, y, z, p, q⟩ => ⟨x, y, z, p, by rw [upd_ne nDb.symm]; exact q⟩
  have ex : ∀ {G : Hp} {o : HO}, ExB b H G → ExB b H (upd G D o) := fun e a u na ha => by rw [upd_ne (ne_of_none ha hD)]; exact e a u na ha
  refine lc_range (lo := 0) (n := n) (fun i H' => i ≤ n ∧ ExB b H H' ∧ BoxAt H' b ∧ ∃ ys, ys.length = i ∧ (∀ j y, ys[j]? = some y → P j y H') ∧ H' D = some (.lst ys))
    ⟨Nat.zero_le _, ex (ExB.refl _ _), bx hB, [], rfl, (fun j y h => by simp at h), upd_same⟩ (fun i H' hi p => ?_) (fun H' p => ?_)
  · obtain ⟨_, e1, b1, ys, hl, hy, hD'⟩ := p
    have e0 : (0 : Int) + (i : Int) = (i : Int) := Int.zero_add _
    rw [e0]
    refine ht i hi H' b1 e1 (fun y H4 => ∃ acc, H4 D = some (.lst acc) ∧ acc.length < sizeLine ∧ (i + 1 ≤ n ∧ ExB b H (upd H4 D (.lst (acc ++ [y]))) ∧ BoxAt (upd H4 D (.lst (acc ++ [y]))) b ∧ ∃ zs, zs.length = i + 1 ∧ (∀ j y2, zs[j]? = some y2 → P j y2 (upd H4 D (.lst (acc ++ [y])))) ∧ upd H4 D (.lst (acc ++ [y])) D = some (.lst zs))) _ (fun y H3 e3 b3 py => ?_)
    have hD3 := e3 _ _ nDb hD'
    have eD : NL H3 (upd H3 D (.lst (ys ++ [y]))) := NL.upd hD3
    refine ⟨ys, hD3, Evl.sz_lt (by omega), hi, ex (e1.trans e3), bx b3, ys ++ [y], by rw [List.length_append, hl]; rfl, fun j y2 hj => ?_, upd_same⟩
    rcases Nat.lt_or_ge j ys.length with h | h
    · rw [List.getElem?_append_left h] at hj
      exact hst _ _ _ _ eD (hst _ _ _ _ (NL.box e3 b1) (hy j y2 hj))
    · rw [List.getElem?_append_right h] at hj
      have hj0 : j - ys.length = 0 := by
        have := (List.getElem?_eq_some_iff.mp hj).1
        rw [List.length_singleton] at this
        omega
      rw [hj0] at hj
      have hyy : y = y2 := by simpa using hj
      subst hyy
      have : j = i := by omega
      subst this
      exact hst _ _ _ _ eD py
  · obtain ⟨_, e1, b1, ys, hl, hy, hD'⟩ := p
    exact k ys D H' hl hy hD e1 b1 hD'
theorem c_noneIn {p : Addr} {xs : List V} (h : SqL K H p xs) (hn : ∀ z ∈ xs, NoneOr K H z) (hr : ∀ z ∈ xs, z ≠ .non) (q : Q (.bl false) H) : rNoneIn K false .non (.ref p) H Q := by
  refine ⟨p, xs, rfl, rfl, h, hn, ?_⟩
  have e : xs.any isNon = false := by
    rw [List.any_eq_false]
    intro z hz he
    cases z with
    | non => exact hr _ hz rfl
    | _ => cases he
  show Q (.bl (xs.any isNon)) H
  rw [e]
  exact q
end
end L2

/-! ### C.m(self, ..), m a def of the class -/
namespace L2
open PySem PySem.Spec PyProof.Rows
structure CmC (K : PySem.W.Frag) (B f : Addr) (m : Str) : Prop where
  rd : PySem.W.readsIn K B (.type "type") = true
  ga : PySem.W.specialIn K (.ref B) "__getattribute__" = some (some (.builtin "type.__getattribute__"))
  at_ : PySem.W.findCls K (.ref B) (.type "type") m = some (.val (.ref f))
def cmB (K : PySem.W.Frag) (B f : Addr) (m : Str) : Bool := PySem.W.readsIn K B (.type "type") && (decide (PySem.W.specialIn K (.ref B) "__getattribute__" = some (some (.builtin "type.__getattribute__"))) && (match PySem.W.findCls K (.ref B) (.type "type") m with | some (.val (.ref g)) => decide (g = f) | _ => false))
theorem cmB_ok {K : PySem.W.Frag} {B f : Addr} {m : Str} (h : cmB K B f m = true) : CmC K B f m := by
  unfold cmB at h
  simp only [Bool.and_eq_true, decide_eq_true_eq] at h
  obtain ⟨h1, h2, h3⟩ := h
  split at h3
  · rename_i g e
    rw [decide_eq_true_eq] at h3
    subst h3
    exact ⟨h1, h2, e⟩
  · cases h3
section
variable {X : Cx} {CX : CXT} {k : Nat} {B f : Addr} {fd : FuncData} {ps : List Str} {sp : Sp} {E : XK} {x m : Str} {a1 : Expr} {ar : List Expr} {ta : TA} {q1 q2 qc : Pos}
theorem pe_cm {pl : Sem Bool} (hg : Gl X x) (hm : X.mg x = some (.ref B)) (T : CmC X.K B f m) (F : FnOk X.prog X.w X.K X.mg X.base CX k f fd ps sp) (hr : Room k X.A) (hk : PySem.W.keepIn X.K (.ref f) = true) (hb : Binds X.K fd ps []) (hx : Passes CX X E) (ha : PA X (a1 :: ar) ta)
    (hcal : eval (.Call (.Attribute (.Name x q1) m q2) (a1 :: ar) [] qc) X.env = (eval (.Name x q1) X.env >>= fun ov => standAt q2.atName >>= fun _ => holding [ov] (getMethod ov m pl) >>= fun r => callWith qc r.1 r.2 (backTo qc (starEach (a1 :: ar) X.env)) (backToKw qc (keywordEach [] X.env))) := by rfl)
    (hst : starEach (a1 :: ar) X.env = (false, eval a1 X.env) :: starEach ar X.env := by rfl) (hps : (backTo qc (starEach ar X.env)).any (·.1) = false := by rfl) (hdb : (x == ("__debug__" : Str)) = false := by decide) :
    PE X (.Call (.Attribute (.Name x q1) m q2) (a1 :: ar) [] qc) (tCall sp [] E ta) := by
  refine ⟨fun pins s σ H Q I h => ?_⟩
  refine PySem.W.methodCall_KW (ld_glob I hg hm ?_ hdb) hcal
  refine PySem.W.method_cls I.kIn T.ga (PySem.W.cls_value I.kIn T.rd T.at_ (by rfl) ?_)
  refine PySem.W.callWith_K (first := []) (h₀ := X.base) I.ok.mod.kin hk (thn (ha.run qc pins _ σ H _ (I.tok _) h) fun us s2 h2 => ?_) hst hps
  obtain ⟨vs, H2, I2, r, q2⟩ := h2
  exact ⟨I2.kIn, run_fn (us := us) (vs := vs) (dvs := []) F hr hb .nil hx I2 r (by rw [List.append_nil]; rw [List.append_nil] at q2; exact q2)⟩
end
end L2
namespace L2
open PySem PySem.Spec PyProof.Rows
theorem c_sdput {σ : St} {H : Hp} {D : Ends} {td ty tv : TE} (h : tv σ H fun v H1 => td σ H1 fun x H2 => ty σ H2 fun y H3 => ∃ a H4, x = .ref a ∧ DPut H3 a y v H4 ∧ D.nx σ H4) : sDPut td ty tv D σ H := h
theorem c_dget {σ : St} {H : Hp} {Q : VK} {td ty : TE} (h : td σ H fun x H1 => ty σ H1 fun y H2 => ∃ a v, x = .ref a ∧ DGet H2 a y (some v) ∧ Q v H2) : tDGet td ty σ H Q := h
end L2
namespace L2
open PySem PySem.Spec PyProof.Rows
section
variable {σ : St} {H : Hp} {Q : VK} {ta : TA} {te : TE} {sp : Sp} {E : St → XK} {C a : Addr} {cls : Value} {d : Option Addr} {f : Str} {W : XK}
theorem c_callS (h : ta σ H fun vs H1 => sp vs H1 Q (E σ)) : tCallS sp E ta σ H Q := h
theorem c_xf (h : te σ H fun x H1 => x = .ref a ∧ cls = .ref C ∧ ∃ (dd : Addr) (fs : List (Str × V)) (v : V), d = some dd ∧ H1 dd = some (.xd fs) ∧ fs.lookup f = some v ∧ Q v H1) : tXf a cls d C f te σ H Q := h
/-- what the making of an error that is raised asks -/
def RaP (C : Addr) (sp : Sp) (vs : List V) (H1 : Hp) (W : XK) : Prop := vs.length ≤ 1000 ∧ ∀ a, H1 a = none → sp (.ref a :: (vs ++ [])) (upd H1 a (exo a C none))
  (fun v H2 => v = .non ∧ ∃ (d : Addr) (fs : List (Str × V)), H2 a = some (exo a C (some d)) ∧ H2 d = some (exd d fs) ∧ H1 d = none ∧ W (.ref C) (some d) (upd (del H2 a) d (.xd fs))) (fun _ _ _ => False)
theorem c_mko (h : ta σ H fun vs H1 => RaP C sp vs H1 W) : tMkO C sp [] ta σ H W := h
theorem raise1 {u : V} (k : ∀ d H2, H d = none → Evl.Ex H H2 → H2 d = some (.xd [(f, u)]) → W (.ref C) (some d) H2) : RaP C (sp_err1 C f) [u] H W := by
  refine ⟨by simp, fun a ha => ⟨a, u, rfl, upd_same, fun d H2 hd nda hk h2a h2d => ⟨rfl, d, _, h2a, h2d, ?_, k d _ ?_ (fun b o hb => ?_) upd_same⟩⟩⟩
  · rw [upd_ne nda] at hd; exact hd
  · rw [upd_ne nda] at hd; exact hd
  · have nba : b ≠ a := ne_of_none hb ha
    have nbd : b ≠ d := by
      rw [upd_ne nda] at hd
      exact ne_of_none hb hd
    rw [upd_ne nbd, del_ne nba, hk b nba nbd, upd_ne nba]
    exact hb
end
end L2

/-! ### dicts: in, get -/
namespace L2
open PySem PySem.Spec PyProof.Rows
section
variable {X : Cx}
def rInDk : R2 := fun y x H Q => ∃ a o, x = .ref a ∧ DGet H a y o ∧ Q (.bl o.isSome) H
def rNotInDk : R2 := fun y x H Q => ∃ a o, x = .ref a ∧ DGet H a y o ∧ Q (.bl (!o.isSome)) H
theorem op_inDk (hu : X.A.units + 1 < cLine) : OpR X (compareOp .In) rInDk := by
  intro pins s σ H y x v u Q I ry rx h
  obtain ⟨a, o, rfl, g, q⟩ := h
  cases (show u = Value.ref a from rx)
  exact d_in hu I g ry fun s3 I3 => ⟨.bl o.isSome, H, I3, rfl, q⟩
theorem op_notInDk (hu : X.A.units + 1 < cLine) : OpR X (compareOp .NotIn) rNotInDk := by
  intro pins s σ H y x v u Q I ry rx h
  obtain ⟨a, o, rfl, g, q⟩ := h
  cases (show u = Value.ref a from rx)
  exact d_notIn hu I g ry fun s3 I3 => ⟨.bl (!o.isSome), H, I3, rfl, q⟩
end
end L2
/-! ### o.m(..) in a try, where m may raise -/
namespace L2
open PySem PySem.Spec PyProof.Rows
section
variable {X : Cx} {CX : CXT} {k : Nat} {sp : Addr → Sp} {E : St → XK} {m : Str} {o a1 : Expr} {ar : List Expr} {te : TE} {ta : TA} {qa qc : Pos} {M : Addr → Prop}
def tMPS (M : Addr → Prop) (m : Str) (sp : Addr → Sp) (E : St → XK) (te : TE) (ta : TA) : TE := fun σ H Q => te σ H fun x H1 => ∃ a C dx fs, x = .ref a ∧ H1 a = some (.ins C dx fs) ∧ M C ∧ fs.lookup m = none ∧ ta σ H1 fun vs H2 => sp C (x :: vs) H2 Q (E σ)
theorem pe_methPS {pl : Sem Bool} (he : PE X o te) (hM : ∀ C, M C → MOk X.prog X.w X.K X.mg X.base CX k C m (sp C)) (hr : Room k X.A) (hx : ∀ σ, PassesAt CX X σ (E σ)) (ha : PA X (a1 :: ar) ta)
    (hst : starEach (a1 :: ar) X.env = (false, eval a1 X.env) :: starEach ar X.env := by rfl) (hps : (backTo qc (starEach ar X.env)).any (·.1) = false := by rfl)
    (hcal : eval (.Call (.Attribute o m qa) (a1 :: ar) [] qc) X.env = (eval o X.env >>= fun ov => standAt qa.atName >>= fun _ => holding [ov] (getMethod ov m pl) >>= fun r => callWith qc r.1 r.2 (backTo qc (starEach (a1 :: ar) X.env)) (backToKw qc (keywordEach [] X.env))) := by rfl) :
    PE X (.Call (.Attribute o m qa) (a1 :: ar) [] qc) (tMPS M m sp E te ta) := by
  refine ⟨fun pins s σ H Q I h => ?_⟩
  refine PySem.W.methodCall_KW (pl := pl) (thn (he.run pins s σ H _ I h) fun u s1 hh => ?_) hcal
  obtain ⟨x, H1, I1, rx, a, C, dx, fs, rfl, ea, hC, l, q⟩ := hh
  obtain rfl : u = Value.ref a := rx
  obtain ⟨cl, f, fd, ps, hm, F, hb⟩ := hM C hC
  refine getmeth_ok I1 ea cl hm l ?_
  refine PySem.W.callWith_K (first := [.ref a]) (h₀ := X.base) I.ok.mod.kin hm.kp (thn (ha.run qc pins s1 σ H1 _ I1 q) fun us s2 h2 => ?_) hst hps
  obtain ⟨vs, H2, I2, r, q2⟩ := h2
  exact ⟨I2.kIn, run_fnS (us := .ref a :: us) (vs := .ref a :: vs) F hr hb (hx σ) I2 (.cons rfl r) q2⟩
theorem c_mps {σ : St} {H : Hp} {Q : VK} (h : te σ H fun x H1 => ∃ a C dx fs, x = .ref a ∧ H1 a = some (.ins C dx fs) ∧ M C ∧ fs.lookup m = none ∧ ta σ H1 fun vs H2 => sp C (x :: vs) H2 Q (E σ)) : tMPS M m sp E te ta σ H Q := h
end
end L2

/-! ### the end over a head by facts -/
namespace HandSHeadRun
/-- a list of numbers, reckoned first -/
def frL {α : Type} : List Nat → (List Nat → α) → α
  | [], k => k []
  | a :: as, k => frNat a fun b => frL as fun bs => k (b :: bs)
end HandSHeadRun
namespace L2
open PySem PySem.Spec PyProof.Rows
/-- as walk_ofE, the promise over A with nothing shown -/
theorem walk_ofEG {l : PySem.W.OpenLaw} {n k : Nat} {q : Program} {loose : List Str} {XP : (Str → Option Value) → Heap → Prop} {YP : World → Heap → Prop} {d : DefRec} {CX : CXT} {x : Str} (hn : l.most = some n) (hn2 : n ≤ sizeLine) (hdf : d.params.defaults = []) (hr : Room k callerA)
    (F : ∀ (w : World) (mg : Str → Option Value) (fa : Addr) (h : Heap), YP w h → h.Ns mainGlobals mg → mg d.name = some (.ref fa) → ∃ (K : PySem.W.Frag) (fd : FuncData) (sp : Sp), K.In h ∧ (∀ (s : Shared) (u : Value), BindsTo s fd ⟨[u], []⟩ [(x, u)]) ∧
        (∀ (H : Hp) (a : Addr) (ns : List Int), ns.length ≤ n → Only H → SqL K H a (ns.map V.int) → sp [.ref a] H (fun v _ => v = .bl true) fun _ _ _ => False) ∧ ∀ base : Heap, K.In base → base.Ns mainGlobals mg → FnG l.prog w K mg base CX k fa fd [x] sp)
    (hCX : ∀ (H : Hp) (s : Shared) (e : Value) (s' : Shared), CX [] H s (fun _ _ _ => False) e s' → False) : PySem.W.WalkO q loose XP YP l.row.toRowW d [] (fun f vs => PySem.call f vs) := by
  refine Att.attach_call hn hdf fun w s0 z1 mg mb fa o pm cd doc a vs ns G Y ho hd hcd hmg hobj hints hlen hg => ?_
  obtain ⟨K, fd, sp, KX, hb, hsp, hF⟩ := F w mg fa _ Y G.T.g hmg
  exact law_callG KX G.T.g G.T.b G.T.builtins G.T.nolimit hg hobj hints (Nat.le_trans hlen hn2) hr hF hb (fun H hO hS => hsp H a ns hlen hO hS) fun H e s' => hCX H z1 e s'
theorem fun_ofD {K : PySem.W.Frag} {x qual : Str} {st : Stmt} {f : Addr} {fd : FuncData} (F : FunD K x qual (defArgs st) (defBody st) (defScope st) [] [] f fd) : Fun K x qual st f fd := by
  obtain ⟨oc, od, dV, kV, doc, pm, an, cdv, ct, osl, e, lk, hcd, hD, _⟩ := F.ex
  rcases hD with ⟨_, rfl⟩ | ⟨z, _⟩
  · exact ⟨⟨oc, od, kV, doc, pm, an, cdv, ct, osl, e, lk, hcd⟩, F.kp⟩
  · exact absurd rfl z
theorem allAt {l : List Bool} (h : l.all id = true) (i : Nat) {b : Bool} (e : l[i]? = some b) : b = true := List.all_eq_true.mp h b (List.mem_of_getElem? e)
def strB (v : Value) (s : Str) : Bool := match v with
  | .str t _ => decide (t = s)
  | _ => false
def strsB : List Value → List Str → Bool
  | [], [] => true
  | v :: vs, s :: ss => strB v s && strsB vs ss
  | _, _ => false
theorem strsB_ok : ∀ {vs : List Value} {ss : List Str}, strsB vs ss = true → Vals (ss.map V.str) vs
  | [], [], _ => .nil
  | v :: vs, s :: ss, h => by
    rw [strsB, Bool.and_eq_true] at h
    refine .cons ?_ (strsB_ok h.2)
    cases v with
    | str t tk => exact ⟨tk, by rw [of_decide_eq_true (show decide (t = s) = true from h.1)]⟩
    | _ => exact absurd h.1 Bool.false_ne_true
  | [], _ :: _, h => absurd h Bool.false_ne_true
  | _ :: _, [], h => absurd h Bool.false_ne_true
/-- a tuple of texts of the written part -/
def tupB (K : PySem.W.Frag) (a : Addr) (ss : List Str) : Bool := match K.lookup a with
  | some ⟨.type c, _, .seq its _, _⟩ => decide (c = "tuple") && (decide (its.size ≤ 1000) && strsB its.toList ss)
  | _ => false
theorem tupB_ok {K : PySem.W.Frag} {a : Addr} {ss : List Str} (h : tupB K a ss = true) (H : Hp) : SqT K H a (ss.map V.str) := by
  unfold tupB at h
  split at h
  · rename_i c d its n sl e
    simp only [Bool.and_eq_true, decide_eq_true_eq] at h
    refine .inr ⟨_, its, n, e, ?_, rfl, Nat.le_trans h.2.1 (by decide), strsB_ok h.2.2⟩
    rw [h.1]
  · cases h
end L2
namespace L2
open PySem PySem.Spec PyProof.Rows
/-- where the named things stand: the module's names, classes and their tables, defs and their code -/
def nsOf (g : Addr → Option Obj) (C : Addr) : Addr := match g C with
  | some ⟨_, _, .cls cd, _⟩ => cd.ns
  | _ => 0
def cdOf (g : Addr → Option Obj) (f : Addr) : Addr := match g f with
  | some ⟨_, _, .func fd, _⟩ => (match fd.code with
    | .ref c => c
    | _ => 0)
  | _ => 0
def adrK (g : Addr → Option Obj) (cs ts : List Str) (fs : List (Str × Option Str)) : List Addr :=
  HandSHeadRun.frL (cs.map (He.ga (He.frG g [mainGlobals]))) fun ca => HandSHeadRun.frL (ca.map (nsOf g)) fun na =>
    HandSHeadRun.frL (fs.map (He.fAd (He.frG g (mainGlobals :: (ca ++ na))))) fun fa => HandSHeadRun.frL (fa.map (cdOf g)) fun ka =>
      HandSHeadRun.frL (ts.map (He.ga (He.frG g [mainGlobals]))) fun ta => mainGlobals :: cStatics :: (ca ++ (na ++ (fa ++ (ka ++ ta))))
def hkObs (cs ts : List Str) (fa : List He.Fa) (fn : List He.DefD) (ex : PySem.W.Frag → Bool) (g : Addr → Option Obj) : He.AlD × Bool := (He.obsD fa fn (He.frG g (adrK g cs ts (fn.map (·.at_)))), ex (He.frG g (adrK g cs ts (fn.map (·.at_)))))
def hookK (cs ts : List Str) (fa : List He.Fa) (fn : List He.DefD) (ex : PySem.W.Frag → Bool) : PySem.W.Hook where
  α := He.AlD × Bool
  obs := fun s => hkObs cs ts fa fn ex s.heap.get?
  val := fun _ => (He.valD fn, true)
  says := fun _ h => ∃ K : PySem.W.Frag, K.In h ∧ He.SaysD fa fn K ∧ ex K = true
  of := fun _ s e => ⟨_, He.frG_in, congrArg (fun z : He.AlD × Bool => z.1) e, congrArg (fun z : He.AlD × Bool => z.2) e⟩
  keeps := fun _ _ _ ⟨K, hK, c⟩ k => ⟨K, PySem.W.Frag.In.keeps hK k, c⟩
theorem hkObs_eq {cs ts : List Str} {fa : List He.Fa} {fn : List He.DefD} {ex : PySem.W.Frag → Bool} {g : Addr → Option Obj} {s : Shared} (h : ∀ a, g a = s.heap.get? a) : hkObs cs ts fa fn ex g = (hookK cs ts fa fn ex).obs s := by
  have e : g = s.heap.get? := funext h
  rw [e] <;> rfl
end L2

/-! ### try: clauses with a name or without, and else -/
namespace L2
open PySem PySem.Spec PyProof.Rows
abbrev Sui := Addr → Value → Option Addr → TS
/-- what the clauses wish: a class, the slot of the name (if there is one), the suite -/
def wAll (K : PySem.W.Frag) (Wo : WX) (D : Ends) : List (Value × Option Nat × Sui) → WX
  | [] => Wo
  | (c, none, ts) :: r => fun k d σ H => ∃ b, PySem.W.exmOne K k c = some b ∧ (b = true → ∀ a, H a = none → ts a k d D σ H) ∧ (b = false → wAll K Wo D r k d σ H)
  | (c, some i, ts) :: r => fun k d σ H => ∃ b, PySem.W.exmOne K k c = some b ∧ (b = true → ∀ a, H a = none → ts a k d ⟨fun σ' H' => D.nx (σ'.set i none) H', D.rt, fun σ' H' => D.bk (σ'.set i none) H', fun σ' H' => D.ct (σ'.set i none) H'⟩ (σ.set i (some (.ref a))) H) ∧ (b = false → wAll K Wo D r k d σ H)
abbrev SuiOk (X : Cx) (ss : List Stmt) (ts : Sui) : Prop := ∀ (a : Addr) (oe : Obj) (k : Value) (d : Option Addr) (pn : List (Addr × Obj)), Zc k d oe → (∃ vs, oe.data = .fields vs) → PSs (X.suite a ((a, oe) :: pn)) ss (ts a k d)
inductive Hds (X : Cx) : List ExceptHandler → List (Value × Option Nat × Sui) → Prop
  | nil : Hds X [] []
  | anon {x : Str} {c : Value} {ts : Sui} {s0 : Stmt} {ss : List Stmt} {p1 p2 : Pos} {hs : List ExceptHandler} {l : List (Value × Option Nat × Sui)} (hc : Names X x c) (su : SuiOk X (s0 :: ss) ts) (r : Hds X hs l) : Hds X (.ExceptHandler (some (.Name x p1)) none (s0 :: ss) p2 :: hs) ((c, none, ts) :: l)
  | named {x n : Str} {i : Nat} {c : Value} {ts : Sui} {s0 : Stmt} {ss : List Stmt} {p1 p2 : Pos} {hs : List ExceptHandler} {l : List (Value × Option Nat × Sui)} (hi : X.N[i]? = some n) (hk : X.env.kindOf n = some .local) (hc : Names X x c) (su : SuiOk X (s0 :: ss) ts) (r : Hds X hs l) : Hds X (.ExceptHandler (some (.Name x p1)) (some n) (s0 :: ss) p2 :: hs) ((c, some i, ts) :: l)
section
variable {X : Cx}
theorem ps_try_all {bd el : List Stmt} {g0 : ExceptHandler} {gs : List ExceptHandler} {l : List (Value × Option Nat × Sui)} {p : Pos} {tb : WX → TS} {te : TS} {Wo : WX} (hN : X.N.Nodup) (hs : X.stack = X.env :: X.outer) (hf : X.env.frame = some X.env.locals) (tk : Takes X Wo)
    (hb : ∀ (W : WX) (pn : List (Addr × Obj)) (xe : Value → Shared → Prop), Takes (X.tr pn xe) W → PassesOwn (model X.prog X.w) X.A X.env xe → PSs (X.tr pn xe) bd (tb W)) (hh : Hds X (g0 :: gs) l) (he : PSs X el te) :
    PS X (.Try bd (g0 :: gs) el [] p) (fun D σ H => tb (wAll X.K Wo D l) { D with nx := te D } σ H) := by
  refine ⟨fun pins s σ H D I h => ?_⟩
  have ok := I.ok
  have fr : X.A.frames = some (X.env :: X.outer) := by rw [ok.frames, hs]
  let M := model X.prog X.w
  let catches : Value → Shared → Prop := fun e s1 => wpAny M X.A (noteFrame e X.env) (fun _ s2 => wpAny M X.A (setFlight e none) (fun _ s3 => wpAny M X.A (handleBy e X.env (g0 :: gs)) (SP X pins D) X.xe s3) X.xe s2) X.xe s1
  refine wpAny_Try_except ?_
  have run := (hb (wAll X.K Wo D l) (X.pn ++ pins) catches (fun u s' got => ?_) PassesOwn.looking).run [] s σ H { D with nx := te D } (I.toTry _) h
  refine wpAny_mono run (fun f s1 out => ?_) (fun e s1 z => z)
  · cases f with
    | next => obtain ⟨σ1, H1, J1, q⟩ := out; exact he.run pins s1 σ1 H1 D (J1.ofTry ok) q
    | brk => obtain ⟨σ1, H1, J1, q⟩ := out; exact ⟨σ1, H1, J1.ofTry ok, q⟩
    | cont => obtain ⟨σ1, H1, J1, q⟩ := out; exact ⟨σ1, H1, J1.ofTry ok, q⟩
    | ret u => obtain ⟨v, σ1, H1, J1, r, q⟩ := out; exact ⟨v, σ1, H1, J1.ofTry ok, r, q⟩
  · obtain ⟨a, B, sI, pins1, σ1, H1, k, d, rfl, J1, nb, up, sky, na, os, ag, wish⟩ := got
    have J : Inv X pins σ1 H1 sI := J1.ofTry ok
    have sk : Sky B (X.env :: X.outer) a (Zc k d) X.env.locals s'.heap := hs ▸ sky
    show wpAny M X.A (noteFrame (.ref a) X.env) _ _ _
    refine Sky.land Zc.steady fr hf sk fun hA flA upA => ?_
    have JA : Inv X pins σ1 H1 { s' with heap := hA } := J.landed nb flA.1 (up.trans upA) os ag
    obtain ⟨oA, vA, eA, zA, dA⟩ := flA.there
    have off : a ∉ frs (X.env :: X.outer) := fun hm => by
      obtain ⟨_, o1, e1, hn⟩ := flA.2.2.1.mem hm
      rw [eA] at e1
      cases e1
      exact hn _ dA
    have off1 : a ≠ X.env.locals := fun z => off (List.mem_filterMap.mpr ⟨X.env, List.mem_cons_self, by rw [hf, z]⟩)
    have off2 : a ∉ X.fs := fun hm => by
      obtain ⟨e, h1, h2⟩ := List.mem_filterMap.mp hm
      exact off (List.mem_filterMap.mpr ⟨e, List.mem_cons_of_mem _ h1, h2⟩)
    have SA := JA.suite eA dA na off1 off2
    have ask : ∀ {x : Str} {c : Value} {np : Pos} {Q E : Value → Shared → Prop}, Names X x c → Q c { s' with heap := hA } → wpAny M (X.A.mark (some (.ref a))) (eval (.Name x np) X.env) Q E { s' with heap := hA } := fun {x c np Q E} hc q => by
      obtain ⟨hg, hd, hm | ⟨hm, hv, hn⟩⟩ := hc
      · exact ld_glob (X := X.suite a ((a, oA) :: (X.pn ++ pins))) SA hg hm q hd
      · exact ld_blt (X := X.suite a ((a, oA) :: (X.pn ++ pins))) SA hg hm hv q hn hd
    have type_ : PySem.W.Looks M hA (typeOf (.ref a)) k := fun A Q E s q1 q2 => wpAny_typeOf_ref (q1 _ _ eA) (by rw [zA.1]; exact q2)
    suffices go : ∀ {hs1 : List ExceptHandler} {l1 : List (Value × Option Nat × Sui)}, Hds X hs1 l1 → wAll X.K Wo D l1 k d σ1 H1 → wpAny M X.A (handleBy (.ref a) X.env hs1) (SP X pins D) X.xe { s' with heap := hA } from go hh wish
    intro hs1 l1 hk
    induction hk with
    | nil =>
      intro wsh
      refine wpAny_handleBy_nil ?_
      obtain ⟨_, _, _, oe, vs, T, oT, tt, e0, z0, d0, t0, r0⟩ := id flA
      unfold PySem.passOn
      refine wpAny_bind (wpAny_field e0 d0 t0 ?_)
      rw [if_neg (show ¬ ((Value.ref T == Value.none) = true) by simp)]
      have last : wpAny M X.A (setFlight (.ref a) X.env.frame) (fun _ s4 => wpAny M X.A (throw (.ref a) : Sem Flow) (SP X pins D) X.xe s4) X.xe { s' with heap := hA } := by
        rw [hf]
        refine HandSPX.setFlight_upZ flA fun hB kB upB => wpAny_throw (tk _ _ ?_)
        exact ⟨a, B, sI, pins, σ1, H1, k, d, rfl, J, nb, (up.trans upA).trans upB, .inr (.inr (hs ▸ kB)), na, os, ag, wsh⟩
      first
        | exact wpAny_bind (wpAny_pure (wpAny_bind last))
        | exact wpAny_bind last
    | @anon x c ts s0 ss p1 p2 hs2 l2 hc su r ih =>
      intro wsh
      obtain ⟨b, hb1, yes, no⟩ := wsh
      have LM := PySem.W.exm_one (M := M) JA.kIn type_ hb1
      refine wpAny_handleBy_cons (codeAny_handlers_test (ask hc (LM.here ?_))) (by intro q; cases q)
      cases b with
      | false => exact ih (no rfl)
      | true =>
        refine codeAny_handlers_suite (HandSPX.lands_againZ flA fun hB flB upB => ?_)
        have JB : Inv X pins σ1 H1 { s' with heap := hB } := J.landed nb flB.1 ((up.trans upA).trans upB) os ag
        obtain ⟨oB, vB, eB, zB, dB⟩ := flB.there
        have run2 := (su a oB k d (X.pn ++ pins) zB ⟨_, dB⟩).run [] _ _ H1 _ (JB.suite eB dB na off1 off2) (yes rfl a na)
        refine wpAny_mono run2 (fun f s6 out => ?_) (fun _ _ z => False.elim z)
        cases f with
        | next => obtain ⟨σ6, H6, S6, q6⟩ := out; exact ⟨_, _, S6.unsuite ok, q6⟩
        | brk => obtain ⟨σ6, H6, S6, q6⟩ := out; exact ⟨_, _, S6.unsuite ok, q6⟩
        | cont => obtain ⟨σ6, H6, S6, q6⟩ := out; exact ⟨_, _, S6.unsuite ok, q6⟩
        | ret u => obtain ⟨v6, σ6, H6, S6, r6, q6⟩ := out; exact ⟨_, _, _, S6.unsuite ok, r6, q6⟩
    | @named x n i c ts s0 ss p1 p2 hs2 l2 hi hkn hc su r ih =>
      intro wsh
      obtain ⟨b, hb1, yes, no⟩ := wsh
      have LM := PySem.W.exm_one (M := M) JA.kIn type_ hb1
      refine wpAny_handleBy_cons (codeAny_handlers_test (ask hc (LM.here ?_))) (by intro q; cases q)
      cases b with
      | false => exact ih (no rfl)
      | true =>
        refine codeAny_handlers_suite_as (HandSPX.lands_againZ flA fun hB flB upB => ?_)
        have JB : Inv X pins σ1 H1 { s' with heap := hB } := J.landed nb flB.1 ((up.trans upA).trans upB) os ag
        obtain ⟨oB, vB, eB, zB, dB⟩ := flB.there
        refine store_ok (X := X.suite a ((a, oB) :: (X.pn ++ pins))) (v := .ref a) (JB.suite eB dB na off1 off2) hN hi (.inl hkn) rfl (fun s5 S5 => ?_) (.inr hkn)
        have run2 := (su a oB k d (X.pn ++ pins) zB ⟨_, dB⟩).run [] s5 _ H1 _ S5 (yes rfl a na)
        refine wpAny_mono run2 (fun f s6 out => ?_) (fun _ _ z => False.elim z)
        cases f with
        | next => obtain ⟨σ6, H6, S6, q6⟩ := out; exact gone_ok (S6.unsuite ok) hN hi hkn fun s7 J7 => ⟨_, _, J7, q6⟩
        | brk => obtain ⟨σ6, H6, S6, q6⟩ := out; exact gone_ok (S6.unsuite ok) hN hi hkn fun s7 J7 => ⟨_, _, J7, q6⟩
        | cont => obtain ⟨σ6, H6, S6, q6⟩ := out; exact gone_ok (S6.unsuite ok) hN hi hkn fun s7 J7 => ⟨_, _, J7, q6⟩
        | ret u => obtain ⟨v6, σ6, H6, S6, r6, q6⟩ := out; exact gone_ok (S6.unsuite ok) hN hi hkn fun s7 J7 => ⟨_, _, _, J7, r6, q6⟩
end
end L2

/-! ### != of lists whose things are equal, within one model -/
namespace NeL
open PySem PySem.SeqAt
open AutoSeq1 (wpAny_loadPart')
open MeetsSeq MeetsSeq2 MeetsSeq3 SeqRoads2
abbrev LsAt (s : Shared) (l : Addr) (xs : Array Value) (n : Nat) (dd : Option Addr) (sl : Array (Option Value)) : Prop := s.heap.get? l = some { cls := .type "list", dict := dd, data := .seq xs n, slots := sl }
section
variable {P : Program} {w : World}
theorem loop_ne (l b : Addr) (xs ys : Array Value) (n m : Nat) (d1 d2 : Option Addr) (s1 s2 : Array (Option Value)) (hs : xs.size = ys.size) (k : Nat) : ∀ i : Nat, xs.size - i = k →
    MeetsIn P w (Builtin.«list.__eq__.loop» ⟨[.ref l, .ref b, rawInt i, rawInt 3], []⟩) (fun A R s => LsAt s l xs n d1 s1 ∧ LsAt s b ys m d2 s2 ∧ (∀ j (h1 : j < xs.size) (h2 : j < ys.size), EqP P w A.in1 s xs[j] ys[j] true) ∧ R (.ok (.ret (.bool false))) s) := by
  induction k with
  | zero =>
    intro i hi A R s hh
    obtain ⟨hp, g, d, tk, os⟩ := s
    obtain ⟨gl, gb, ge, r⟩ := hh
    wp_walk using wpAny_loadPart' gl, wpAny_loadPart' gb
    have n1 : xs[((i : Nat) : Int).toNat]? = none := by simp; omega
    have n2 : ys[((i : Nat) : Int).toNat]? = none := by simp; omega
    rw [n1, n2]
    wp_walk using wpAny_loadPart' gl, wpAny_loadPart' gb
    show R (.ok (.ret (.bool (xs.size != ys.size)))) _
    rw [hs, bne_self_eq_false]
    exact r
  | succ k ih =>
    intro i hi A R s hh
    obtain ⟨hp, g, d, tk, os⟩ := s
    obtain ⟨gl, gb, ge, r⟩ := hh
    wp_walk using wpAny_loadPart' gl, wpAny_loadPart' gb
    have l1 : i < xs.size := by omega
    have l2 : i < ys.size := by omega
    rw [show xs[((i : Nat) : Int).toNat]? = some xs[i] by simp [l1], show ys[((i : Nat) : Int).toNat]? = some ys[i] by simp [l2]]
    refine wpAny_bind (ge i l1 l2 _ _ ?_)
    wp_walk
    rw [show ((i : Int) + 1) = ((i + 1 : Nat) : Int) by push_cast; rfl]
    refine ⟨plainId_quiet plain_eq_loop _, codeAny_builtin entry_eq_loop ?_⟩
    rw [Around.under_plainId plain_eq_loop _]
    exact ih (i + 1) (by omega) A R _ ⟨gl, gb, ge, r⟩
theorem list_ne (l b : Addr) (xs ys : Array Value) (n m : Nat) (d1 d2 : Option Addr) (s1 s2 : Array (Option Value)) (hs : xs.size = ys.size) :
    MeetsIn P w (Builtin.«list.__ne__» ⟨[.ref l, .ref b], []⟩) (fun A R s => LsAt s l xs n d1 s1 ∧ LsAt s b ys m d2 s2 ∧ (∀ j (h1 : j < xs.size) (h2 : j < ys.size), EqP P w A.in1 s xs[j] ys[j] true) ∧ R (.ok (.ret (.bool false))) s) := by
  intro A R s hh
  obtain ⟨hp, g, d, tk, os⟩ := s
  obtain ⟨gl, gb, ge, r⟩ := hh
  have f3 := AutoSeq1.sub_list_list
  have nz : ¬ (xs.size != ys.size) = true := by simp [hs]
  wp_walk using wpAny_loadPart' gl, wpAny_loadPart' gb
  refine ⟨plainId_quiet plain_eq_loop _, codeAny_builtin entry_eq_loop ?_⟩
  rw [Around.under_plainId plain_eq_loop _]
  exact loop_ne l b xs ys n m d1 d2 s1 s2 hs _ 0 rfl A R _ ⟨gl, gb, ge, r⟩
theorem lists_ne {A : Around} {s : Shared} {l b : Addr} {xs ys : Array Value} (hl : s.heap.IsList l xs) (hb : s.heap.IsList b ys) (hs : xs.size = ys.size) (hu : A.units < cLine) (he : ∀ j (h1 : j < xs.size) (h2 : j < ys.size), EqP P w A.in1 s xs[j] ys[j] true) (E Q : Value → Shared → Prop) (q : Q (.bool false) s) :
    wpAny (model P w) A (richCompare .NotEq (.ref l) (.ref b)) Q E s := by
  obtain ⟨⟨c1, d1, t1, s1⟩, o1, e1, n, f1⟩ := id hl
  obtain ⟨⟨c2, d2, t2, s2⟩, o2, e2, m, f2⟩ := id hb
  simp only at e1 f1 e2 f2
  subst e1 f1 e2 f2
  have y1 : s.TypeIs (.ref l) "list" := ⟨_, o1, rfl⟩
  have y2 : s.TypeIs (.ref b) "list" := ⟨_, o2, rfl⟩
  refine wpAny_richCompare_same_room (op := .NotEq) y1 y2 F.slot_list_ne (call_meetsIn F.slot_list_ne y1 F.entry_list_ne (F.args_list_ne_2 _ _) (list_ne l b xs ys n m d1 d2 s1 s2 hs) ?_) hu
  exact ⟨o1, o2, he, show Value.bool false ≠ Value.notImplemented ∧ Q (.bool false) s from ⟨(fun x => nomatch x), q⟩⟩
end
end NeL

/-! ### dicts, what is shown of caught errors (printed by mk_bank16.py) -/
namespace L2
open PySem PySem.Spec PyProof.Rows
open TL (tl)
open Evl hiding RetV RetL
theorem putK_len (kvs : List (Key × V)) (k : Key) (v : V) : (putK kvs k v).length ≤ kvs.length + 1 := by
  unfold putK
  split
  · rw [List.length_map]; omega
  · rw [List.length_append]; simp
theorem dgetK {H : Hp} {d : Addr} {kvs : List (Key × V)} {s : Str} (h : H d = some (.dK kvs)) : DGet H d (.str s) (valV kvs (.inr s)) := .inl ⟨kvs, .inr s, .inl h, rfl, rfl⟩
theorem putK_nodup {kvs : List (Key × V)} {k : Key} {v : V} (h : (kvs.map (·.1)).Nodup) : ((putK kvs k v).map (·.1)).Nodup := by
  unfold putK
  cases ha : (kvs.any fun kv => decide (kv.1 = k)) with
  | true =>
    rw [if_pos rfl, List.map_map]
    refine (?_ : List.map _ kvs = kvs.map (·.1)) ▸ h
    refine List.map_congr_left fun p _ => ?_
    dsimp only [Function.comp]
    split <;> simp_all
  | false =>
    rw [if_neg (by decide), List.map_append, List.nodup_append]
    refine ⟨h, by simp, fun a ha2 b hb => ?_⟩
    obtain ⟨p, hp, rfl⟩ := List.mem_map.mp ha2
    have : b = k := by simpa using hb
    subst this
    intro he
    have : (kvs.any fun kv => decide (kv.1 = b)) = true := List.any_eq_true.mpr ⟨p, hp, by simpa using he⟩
    rw [ha] at this
    cases this
theorem c_lock {t : TS} {D : Ends} {σ : St} {H : Hp} {d : Addr} {u : HO} (hd : H d = some u) (hm : Mut (some u)) (h : ∀ od, t ⟨fun σ' H' => H' d = some (.frz od u) ∧ D.nx σ' (upd H' d u), fun v H' => H' d = some (.frz od u) ∧ D.rt v (upd H' d u), fun σ' H' => H' d = some (.frz od u) ∧ D.bk σ' (upd H' d u), fun σ' H' => H' d = some (.frz od u) ∧ D.ct σ' (upd H' d u)⟩ σ (upd H d (.frz od u))) : tLock t D σ H := ⟨d, u, hd, hm, h⟩
theorem c_forK {td : TE} {g : L2.TG} {tb : TS} {D : Ends} {σ : St} {H : Hp} (h : td σ H fun x H1 => ∃ d o, x = .ref d ∧ ((∃ kvs, H1 d = some (.frz o (.dK kvs)) ∧ ForI (Itk d o kvs) g tb D σ H1) ∨ ∃ kvs, H1 d = some (.frz o (.dT kvs)) ∧ ForI (Itkt d o kvs) g tb D σ H1)) : tFor (iKeys td) g tb D σ H := h
theorem forK {tb : TS} {D : Ends} {σ : St} {H : Hp} {d : Addr} {o : Obj} {kvs : List (Key × V)} {j : Nat} (Pv : Nat → St → Hp → Prop) (h0 : Pv 0 σ H) (hl : ∀ i σ' H', i ≤ kvs.length → Pv i σ' H' → H' d = some (.frz o (.dK kvs)))
    (hs : ∀ i k v σ' H', kvs[i]? = some (k, v) → Pv i σ' H' → tb { D with nx := Pv (i + 1), ct := Pv (i + 1), bk := D.nx } (σ'.set j (some (kV k))) H') (hd : ∀ σ' H', Pv kvs.length σ' H' → D.nx σ' H') : ForI (Itk d o kvs) (gName j) tb D σ H :=
  for_it walk_keys Pv h0 hl (fun i x σ' H' H'' _ p y => by
    obtain ⟨rfl, k, v, hk, rfl⟩ := y
    exact hs i k v σ' H'' hk p) hd
theorem valV_mem {kv : List (Key × V)} {k : Key} {v : V} (hn : (kv.map (·.1)).Nodup) (h : (k, v) ∈ kv) : valV kv k = some v := by
  induction kv with
  | nil => cases h
  | cons p r ih =>
    rw [List.map_cons, List.nodup_cons] at hn
    rcases List.mem_cons.mp h with e | h
    · subst e
      exact valV_pos rfl
    · have hne : ¬ p.1 = k := fun z => hn.1 (by rw [z]; exact List.mem_map.mpr ⟨(k, v), h, rfl⟩)
      rw [valV_neg hne]
      exact ih hn.2 h
theorem putK_len2 (kvs : List (Key × V)) (k : Key) (v : V) : (valV kvs k = none ∧ (putK kvs k v).length = kvs.length + 1) ∨ (putK kvs k v).length = kvs.length := by
  unfold putK
  cases h : (kvs.any fun kv => decide (kv.1 = k)) with
  | true => right; rw [if_pos rfl, List.length_map]
  | false =>
    left
    rw [valV_any] at h
    refine ⟨?_, by rw [if_neg (by decide), List.length_append]; rfl⟩
    cases hv : valV kvs k with
    | none => rfl
    | some x => rw [hv] at h; cases h
theorem valV_drop {kvs : List (Key × V)} {k k' : Key} : valV (dropK kvs k) k' = if k' = k then none else valV kvs k' := by
  induction kvs with
  | nil => split <;> rfl
  | cons p r ih =>
    by_cases e : p.1 = k
    · rw [dropK_pos e, ih]
      split
      · rfl
      · rename_i h
        rw [valV_neg (fun z => h (z.symm.trans e))]
    · rw [dropK_neg e]
      by_cases e2 : p.1 = k'
      · rw [valV_pos e2, valV_pos e2, if_neg (fun z => e (e2.trans z))]
      · rw [valV_neg e2, valV_neg e2, ih]
theorem c_dpop {σ : St} {H : Hp} {Q : VK} {td ty : TE} (h : td σ H fun x H1 => ∃ a, x = .ref a ∧ IsD H1 a ∧ ty σ H1 fun y H2 => ∃ kvs k v, H2 a = some (.dK kvs) ∧ y = kV k ∧ valV kvs k = some v ∧ Q v (upd H2 a (.dK (dropK kvs k)))) : tDPop1 td ty σ H Q := h
theorem c_lockE {t : TE} {Q : VK} {σ : St} {H : Hp} {d : Addr} {u : HO} (hd : H d = some u) (hm : Mut (some u)) (h : ∀ od, t σ (upd H d (.frz od u)) fun v H' => H' d = some (.frz od u) ∧ Q v (upd H' d u)) : tLockE t σ H Q := ⟨d, u, hd, hm, h⟩
theorem c_lcK {td : TE} {g : L2.TG} {tt : TT} {te : TE} {vs : List Nat} {σ : St} {H : Hp} {Q : VK} (h : td σ H fun x H1 => ∃ d o, x = .ref d ∧ ((∃ kvs, H1 d = some (.frz o (.dK kvs)) ∧ LcI (Itk d o kvs) g tt te vs σ H1 Q) ∨ ∃ kvs, H1 d = some (.frz o (.dT kvs)) ∧ LcI (Itkt d o kvs) g tt te vs σ H1 Q)) : tLc (iKeys td) g tt te vs σ H Q := h
theorem call_lenK {X : Cx} : CallR X (.builtin "len") (fun xs H Q => ∃ (a : Addr) (kvs : List (Key × V)), xs = [.ref a] ∧ Rd H a (.dK kvs) ∧ Q (.int kvs.length) H) := by
  intro pins s σ H xs us Q I r h
  obtain ⟨a, kvs, rfl, e, q⟩ := h
  rw [Vals.ref1 r]
  exact d_len I e fun t s' I' => ⟨.int _, H, I', ⟨_, rfl⟩, q⟩
theorem paired_up {α β : Type} {F G : α → β → Prop} (h : ∀ a b, F a b → G a b) : ∀ {l : List α} {m : List β}, Paired F l m → Paired G l m
  | _, _, .nil => .nil
  | _, _, .cons p q => .cons (h _ _ p) (paired_up h q)
theorem paired_snoc {α β : Type} {F : α → β → Prop} {a : α} {b : β} (p : F a b) : ∀ {l : List α} {m : List β}, Paired F l m → Paired F (l ++ [a]) (m ++ [b])
  | _, _, .nil => .cons p .nil
  | _, _, .cons q r => .cons q (paired_snoc p r)
theorem paired_len {α β : Type} {F : α → β → Prop} : ∀ {l : List α} {m : List β}, Paired F l m → l.length = m.length
  | _, _, .nil => rfl
  | _, _, .cons _ q => by rw [List.length_cons, List.length_cons, paired_len q]
theorem lcK {d : Addr} {o : Obj} {kvs : List (Key × V)} {g : L2.TG} {tt : TT} {te : TE} {vs : List Nat} {σ : St} {H : Hp} {Q : VK} (F : Key × V → Bool) (R0 : Key × V → V → Hp → Prop) (hst : ∀ kv y G G2, NL G G2 → R0 kv y G → R0 kv y G2)
    (hd : H d = some (.frz o (.dK kvs))) (hn : kvs.length ≤ 1000)
    (ht : ∀ (i : Nat) (kv : Key × V), kvs[i]? = some kv → ∀ H2, Ex H H2 → ∀ (R : V → Hp → Prop) (N : Hp → Prop), (F kv = true → ∀ y H3, Ex H2 H3 → R0 kv y H3 → R y H3) → (F kv = false → ∀ H3, Ex H2 H3 → N H3) →
      g (kV kv.1) (wipe σ vs) H2 fun σ2 H3 => wipe σ2 vs = wipe σ vs ∧ tt σ2 H3 fun c H4 => if c = true then te σ2 H4 fun y H5 => R y H5 else N H4)
    (k : ∀ ys p H2, Paired (fun y kv => R0 kv y H2) ys (kvs.filter F) → H p = none → Ex H H2 → H2 p = some (.lst ys) → Q (.ref p) H2) : LcI (Itk d o kvs) g tt te vs σ H Q := by
  refine fun D hD => ?_
  have ex : ∀ {G : Hp} {o : HO}, Ex H G → Ex H (upd G D o) := fun e b u hb => by rw [upd_ne (ne_of_none hb hD)]; exact e b u hb
  refine lc_it walk_keys (fun i H' => i ≤ kvs.length ∧ Ex H H' ∧ ∃ ys, Paired (fun y kv => R0 kv y H') ys ((kvs.take i).filter F) ∧ H' D = some (.lst ys))
    ⟨Nat.zero_le _, ex (Ex.refl _), [], .nil, upd_same⟩ (fun i H' _ p => p.2.1 _ _ hd) (fun i x H' H'' hi p y => ?_) (fun H' p => ?_)
  · obtain ⟨rfl, key, v, hk, rfl⟩ := y
    obtain ⟨_, e1, ys, hy, hD'⟩ := p
    have hyl : ys.length ≤ i := by
      rw [paired_len hy]
      exact Nat.le_trans (List.length_filter_le _ _) (by rw [List.length_take]; omega)
    have htk : kvs.take (i + 1) = kvs.take i ++ [(key, v)] := by rw [List.take_add_one, hk]; rfl
    refine ht i (key, v) hk H'' e1 (fun y H4 => ∃ acc, H4 D = some (.lst acc) ∧ acc.length < sizeLine ∧ (i + 1 ≤ kvs.length ∧ Ex H (upd H4 D (.lst (acc ++ [y]))) ∧ ∃ zs, Paired (fun z kv => R0 kv z (upd H4 D (.lst (acc ++ [y])))) zs ((kvs.take (i + 1)).filter F) ∧ upd H4 D (.lst (acc ++ [y])) D = some (.lst zs))) (fun H4 => i + 1 ≤ kvs.length ∧ Ex H H4 ∧ ∃ zs, Paired (fun y kv => R0 kv y H4) zs ((kvs.take (i + 1)).filter F) ∧ H4 D = some (.lst zs)) (fun hF y H3 e3 py => ?_) (fun hF H3 e3 => ?_)
    · have hD3 := e3 _ _ hD'
      have eD : NL H3 (upd H3 D (.lst (ys ++ [y]))) := NL.upd hD3
      refine ⟨ys, hD3, Evl.sz_lt (by omega), hi, ex (e1.trans e3), ys ++ [y], ?_, upd_same⟩
      rw [htk, List.filter_append, List.filter_cons_of_pos hF, List.filter_nil]
      exact paired_snoc (F := fun a b => R0 b a (upd H3 D (HO.lst (ys ++ [y])))) (hst _ _ _ _ eD py) (paired_up (fun a b h => hst _ _ _ _ eD (hst _ _ _ _ (NL.of e3) h)) hy)
    · refine ⟨hi, e1.trans e3, ys, ?_, e3 _ _ hD'⟩
      rw [htk, List.filter_append, List.filter_cons_of_neg (by rw [hF]; decide), List.filter_nil, List.append_nil]
      exact paired_up (fun a b h => hst _ _ _ _ (NL.of e3) h) hy
  · obtain ⟨_, e1, ys, hy, hD'⟩ := p
    rw [List.take_length] at hy
    exact k ys D H' hy hD e1 hD'
theorem ex_unlock {H G : Hp} {d : Addr} {od : Obj} {u : HO} (hd : H d = some u) (e : Ex (upd H d (.frz od u)) G) : Ex H (upd G d u) := fun a o ha => by
  by_cases h : a = d
  · subst h
    rw [upd_same, ← ha, hd]
  · rw [upd_ne h]
    exact e a o (by rw [upd_ne h]; exact ha)
theorem putK_fresh {kvs : List (Key × V)} {k : Key} {v : V} (h : k ∉ kvs.map (·.1)) : putK kvs k v = kvs ++ [(k, v)] := by
  unfold putK
  rw [if_neg]
  intro ha
  obtain ⟨p, hp, he⟩ := List.any_eq_true.mp ha
  exact h (List.mem_map.mpr ⟨p, hp, by simpa using he⟩)
theorem mergeK_nodup : ∀ (more kvs : List (Key × V)), ((kvs ++ more).map (·.1)).Nodup → mergeK kvs more = kvs ++ more
  | [], kvs, _ => (List.append_nil _).symm
  | p :: more, kvs, h => by
    have hp : p.1 ∉ kvs.map (·.1) := by
      rw [List.map_append, List.nodup_append] at h
      intro hm
      exact h.2.2 _ hm _ (List.mem_map.mpr ⟨p, List.mem_cons_self, rfl⟩) rfl
    show mergeK (putK kvs p.1 p.2) more = _
    rw [putK_fresh hp, mergeK_nodup more (kvs ++ [(p.1, p.2)]) (by rw [List.append_assoc]; exact h), List.append_assoc]
    rfl
theorem valV_filter {kvs : List (Key × V)} {F : Key × V → Bool} {k : Key} (h : ∀ v v', F (k, v) = F (k, v')) {v0 : V} (hF : F (k, v0) = true) : valV (kvs.filter F) k = valV kvs k := by
  induction kvs with
  | nil => rfl
  | cons p r ih =>
    by_cases e : p.1 = k
    · have hp : F p = true := by rw [← hF, show p = (k, p.2) from by rw [← e]]; exact h _ _
      rw [List.filter_cons_of_pos hp, valV_pos e, valV_pos e]
    · rw [valV_neg e]
      cases hp : F p with
      | true => rw [List.filter_cons_of_pos hp, valV_neg e, ih]
      | false => rw [List.filter_cons_of_neg (by rw [hp]; decide), ih]
theorem eqK_refl {kv : List (Key × V)} (hn : (kv.map (·.1)).Nodup) (hf : ∀ p ∈ kv, okV p.2 = true) : eqK kv kv = true := by
  unfold eqK
  rw [beq_self_eq_true, Bool.true_and, List.all_eq_true]
  intro p hp
  rw [valV_mem (k := p.1) (v := p.2) hn hp]
  exact eqV_refl (okV_flat (hf p hp))
def fK (kv : List (Key × V)) (s : Str) : Str := match valV kv (.inr s) with
  | some (.str s') => s'
  | _ => s
theorem fK_of {kv : List (Key × V)} {s s' : Str} (h : valV kv (.inr s) = some (.str s')) : fK kv s = s' := by unfold fK; rw [h]
theorem exB_put {b ld : Addr} {H G : Hp} {o : HO} (e : ExB b H G) (h : H ld = none) : ExB b H (upd G ld o) := fun a q na ha => by rw [upd_ne (ne_of_none ha h)]; exact e a q na ha
theorem box_put {b ld : Addr} {G : Hp} {o : HO} (h : BoxAt G b) (n : b ≠ ld) : BoxAt (upd G ld o) b := by
  obtain ⟨x, y, z, h0, q⟩ := h
  exact ⟨x, y, z, h0, by rw [upd_ne n]; exact q⟩
theorem freshB {b ld : Addr} {H G : Hp} (e : ExB b H G) (hb : BoxAt G b) (h : G ld = none) : H ld = none := by
  cases hq : H ld with
  | none => rfl
  | some o =>
    by_cases hn : ld = b
    · subst hn
      obtain ⟨ob, hob⟩ := hb.some
      exact absurd rfl (ne_of_none hob h)
    · have := e ld o hn hq
      rw [h] at this
      cases this
theorem at_last {xs : List V} (h : 0 < xs.length) : atI xs (-1) = xs[xs.length - 1]? := by
  unfold atI ixN
  rw [if_neg (by omega), if_pos (by omega)]
  show xs[_]? = _
  congr 1
  omega
theorem nodup_at {l : List Str} (h : l.Nodup) {j i : Nat} {s z : Str} (hj : l[j]? = some s) (hz : z ∈ l.take i) (hi : i ≤ j) : z ≠ s := by
  obtain ⟨k, hk, he⟩ := List.mem_iff_getElem.mp hz
  rw [List.length_take] at hk
  rw [List.getElem_take] at he
  intro e
  have hjl := (List.getElem?_eq_some_iff.mp hj).1
  have e2 : l[k]'(by omega) = l[j]'hjl := by rw [he, e]; exact ((List.getElem?_eq_some_iff.mp hj).2).symm
  have := (List.getElem_inj h).mp e2
  omega
theorem exB_ex {b : Addr} {H G G2 : Hp} (e : Ex H G) (hb : H b = none) (x : ExB b G G2) : Ex H G2 := fun a o h => x a o (ne_of_none h hb) (e a o h)
def RpV (K : PySem.W.Frag) (H : Hp) (v : V) (t : Str) : Prop := ∃ d : PyData, (Dp K H v d ∧ RpOk 50 100000 d ∨ ∃ a, v = .ref a ∧ H a = some (.dK []) ∧ d = .dict []) ∧ t = d.shown
def rReprQ (K : PySem.W.Frag) : List V → Hp → VK → Prop := fun xs H Q => ∃ (v : V) (t : Str), xs = [v] ∧ RpV K H v t ∧ Q (.str t) H
theorem un62 {n : Nat} {A : Around} (h : Room n A) : A.units + 62 < cLine := by have := h.un; omega
theorem call_reprQ {X : Cx} (hgd : X.A.guards = some []) (hu : X.A.units + 62 < cLine) : CallR X (.builtin "repr") (rReprQ X.K) := by
  intro pins s σ H xs us Q I r h
  obtain ⟨v, t, rfl, ⟨d, hd, rfl⟩, q⟩ := h
  cases r with
  | cons ra rr =>
    cases rr
    rename_i u
    rcases hd with ⟨hd, hk⟩ | ⟨a, rfl, ha, rfl⟩
    · have hz : d.shown.length ≤ sizeLine := PyData.shown_fits_bulk (B := 13) (by decide) (by decide) hk.2.2.1 (Nat.le_trans hk.2.2.2.2 (by decide))
      have hdp : d.depth ≤ 60 := Nat.le_trans hk.2.2.2.1 (by decide)
      have hnd : d.hasDict = false := PyData.hasDict_of_canLay d hk.2.1
      cases hd with
      | non =>
        cases ra
        exact PySem.P.repr_of_none ⟨.str _, H, I.tok _, ⟨_, by rw [PyData.shown]⟩, q⟩
      | bl b =>
        cases ra
        exact PySem.P.repr_of_bool ⟨.str _, H, I.tok _, ⟨_, by rw [PyData.shown]⟩, q⟩
      | int i =>
        obtain ⟨t, rfl⟩ := ra
        exact PySem.P.repr_of_int (by have := hk.1; simpa only [PyData.showable, decide_eq_true_eq] using this) ⟨.str _, H, I.tok _, ⟨_, by rw [PyData.shown]⟩, q⟩
      | str x =>
        obtain ⟨t, rfl⟩ := ra
        rw [PyData.shown] at hz
        exact PySem.P.repr_of_str ⟨.str _, H, I.tok _, ⟨_, by rw [PyData.shown]⟩, q⟩ hz
      | lst hs ha =>
        cases ra
        obtain ⟨as, rd⟩ := Dp.reads I _ _ _ (.lst hs ha) rfl
        refine repr_of_reads' rd hk.1 (fun z => by rw [hnd] at z; cases z) hgd (by omega) (fun _ _ z => z) (fun h' u tk hk => ?_) hz
        exact ⟨.str _, H, I.kept (t' := tk) hk, ⟨_, rfl⟩, q⟩
      | tup hs ha =>
        cases ra
        obtain ⟨as, rd⟩ := Dp.reads I _ _ _ (.tup hs ha) rfl
        refine repr_of_reads' rd hk.1 (fun z => by rw [hnd] at z; cases z) hgd (by omega) (fun _ _ z => z) (fun h' u tk hk => ?_) hz
        exact ⟨.str _, H, I.kept (t' := tk) hk, ⟨_, rfl⟩, q⟩
    · cases (show u = Value.ref a from ra)
      obtain ⟨_, hsys, vs, hkv, o, es, ep, ho, hx, hda, _, hp, _⟩ := I.hok a _ ha
      cases hkv
      have he : es = #[] := by
        obtain ⟨l⟩ := es
        cases hp
        rfl
      subst he
      have rd : Reads s.heap (.ref a) (.dict []) [a] := Reads.dict (kvs := []) (as := []) (bs := []) ho hx.1 hda (by exact ReadsAll.nil) (by exact ReadsAll.nil)
      refine repr_of_reads' rd (by simp only [PyData.showable, PyData.showableKv]) (fun _ z => ?_) hgd (by simp only [PyData.depth, PyData.depthKv]; omega) (fun _ _ z => z) (fun h' u tk hk => ?_) (by simp only [PyData.shown, PyData.shownKv]; rw [sizeLine_eq]; decide +kernel)
      · have : sysModules = a := by simpa using z
        rw [this] at hsys
        simp at hsys
      · exact ⟨.str _, H, I.kept (t' := tk) hk, ⟨_, rfl⟩, q⟩
theorem call_reprS {X : Cx} {a : Addr} {pn : List (Addr × Obj)} (hgd : X.A.guards = some []) (hu : X.A.units + 62 < cLine) : CallR (X.suite a pn) (.builtin "repr") (rReprQ X.K) := call_reprQ (X := X.suite a pn) hgd hu
def rIsP (K : PySem.W.Frag) (D a : Addr) (cls : Value) (d : Option Addr) : List V → Hp → VK → Prop := fun xs H Q => ∃ (c : V) (cv : Value) (b : Bool), xs = [.ref a, c] ∧ ClsV c cv ∧ cls = .ref D ∧ (∃ (dd : Addr) (fs : List (Str × V)), d = some dd ∧ H dd = some (.xd fs)) ∧ PySem.W.kitOne K (.ref D) cv = some b ∧ Q (.bl b) H
theorem call_isP {X : Cx} {a D : Addr} {oe : Obj} {cls : Value} {d : Option Addr} {pn : List (Addr × Obj)} (C : IcC X.K D) (hz : Zc cls d oe) (hf : ∃ vs, oe.data = .fields vs) : CallR (X.suite a ((a, oe) :: pn)) (.builtin "isinstance") (rIsP X.K D a cls d) := by
  intro pins s σ H xs us Q I r h
  obtain ⟨c, cv, b, rfl, hcv, rfl, ⟨dd, fs, rfl, ea⟩, e, q⟩ := h
  cases r with
  | cons rx rr =>
    cases rr with
    | cons rt rr =>
      cases rr
      cases rx
      have ec := hcv.eq rt
      subst ec
      obtain ⟨hget, _⟩ := I.pin (a, oe) (List.mem_append.mpr (.inl List.mem_cons_self))
      obtain ⟨vs, hd⟩ := hf
      have hx : ObjOk X.prog X.w H s.heap dd (.xd fs) := I.hok dd _ ea
      obtain ⟨mA, hns, hr⟩ := hx
      obtain ⟨od, ho, hl⟩ := lookIn_ns hns
      have J : PySem.W.InstAt s.heap a oe D (some od) := ⟨hget, hz.1, by unfold PySem.W.notCls; rw [hd] <;> rfl, by rw [hz.2]; exact ho⟩
      exact PySem.W.kia_one (PySem.W.kitx_exc C.cl C.xf.ga C.xf.gg C.xf.exC C.ha C.hn C.ht C.hm) I.kIn J e (fun z => nomatch z) fun tk => ⟨.bl b, H, I.kept (t' := tk) fun _ _ z => z, rfl, q⟩
theorem okc_repr {q c : Nat} (hq : q < 1114112) (hc : c < 1114112) : ∀ z ∈ Builtin.Str.reprChar q c, z < 1114112 := by
  intro z hz
  have hd : ∀ w, z ∈ (List.replicate (w - ((Nat.toDigits 16 c).map Char.toNat).length) 48 ++ (Nat.toDigits 16 c).map Char.toNat) → z < 1114112 := by
    intro w hz
    rcases List.mem_append.mp hz with h | h
    · have := List.eq_of_mem_replicate h; omega
    · obtain ⟨ch, _, rfl⟩ := List.mem_map.mp h
      rcases ch.valid with h | h
      · exact Nat.lt_trans h (by decide)
      · exact h.2
  unfold Builtin.Str.reprChar at hz
  dsimp only at hz
  repeat' split at hz
  all_goals simp only [List.mem_cons, List.mem_append, List.not_mem_nil, or_false] at hz
  all_goals first | omega | (rcases hz with (h | h) | h; · omega
                             · omega
                             · exact hd _ (List.mem_append.mpr h))
theorem okf_repr (q : Nat) (hq : q < 1114112) : ∀ (l : List Nat) (acc : Array Nat), (∀ z ∈ acc.toList, z < 1114112) → (∀ c ∈ l, c < 1114112) → ∀ z ∈ (l.foldl (fun out c => out ++ (Builtin.Str.reprChar q c).toArray) acc).toList, z < 1114112
  | [], acc, h, _ => h
  | c :: r, acc, h, hl => by
    rw [List.foldl_cons]
    refine okf_repr q hq r _ (fun z hz => ?_) fun d hd => hl d (List.mem_cons_of_mem _ hd)
    rw [Array.toList_append] at hz
    rcases List.mem_append.mp hz with h2 | h2
    · exact h z h2
    · exact okc_repr hq (hl c List.mem_cons_self) z h2
theorem okT_repr {x : Str} (h : OkT x) : OkT (reprText x) := by
  have hq : reprQuote x < 1114112 := by
    unfold reprQuote
    split <;> omega
  intro c hc
  have hc2 : c ∈ ((x.cps.foldl (fun out c => out ++ (Builtin.Str.reprChar (reprQuote x) c).toArray) #[reprQuote x]).push (reprQuote x)).toList := hc
  rw [Array.toList_push, ← Array.foldl_toList] at hc2
  rcases List.mem_append.mp hc2 with h2 | h2
  · refine okf_repr _ hq _ _ (fun z hz => ?_) (fun z hz => h z hz) c h2
    have : z = reprQuote x := by simpa using hz
    omega
  · have : c = reprQuote x := by simpa using h2
    omega
/-! new ones -/
section
variable {X : Cx} {σ : St} {H : Hp} {Q : VK} {D : Ends}
theorem c_dget2 {td ty tx : TE} (h : td σ H fun x H1 => ∃ a, x = .ref a ∧ IsD H1 a ∧ ty σ H1 fun y H2 => tx σ H2 fun z H3 => ∃ o, DGet H3 a y o ∧ Q (o.getD z) H3) : tDGet2 td ty tx σ H Q := h
theorem c_dget1 {td ty : TE} (h : td σ H fun x H1 => ∃ a, x = .ref a ∧ IsD H1 a ∧ ty σ H1 fun y H2 => ∃ o, DGet H2 a y o ∧ Q (o.getD .non) H2) : tDGet1 td ty σ H Q := h
theorem isD {d : Addr} {kvs : List (Key × V)} (h : H d = some (.dK kvs)) : IsD H d := .inl ⟨kvs, .inl h⟩
theorem isDz {d : Addr} {o : Obj} {kvs : List (Key × V)} (h : H d = some (.frz o (.dK kvs))) : IsD H d := .inl ⟨kvs, .inr ⟨o, h⟩⟩
theorem dgetZ {d : Addr} {o : Obj} {kvs : List (Key × V)} {s : Str} (h : H d = some (.frz o (.dK kvs))) : DGet H d (.str s) (valV kvs (.inr s)) := .inl ⟨kvs, .inr s, .inr ⟨o, h⟩, rfl, rfl⟩
theorem c_forIt {td : TE} {g : TG} {tb : TS} (h : td σ H fun x H1 => ∃ d o kvs, x = .ref d ∧ H1 d = some (.frz o (.dK kvs)) ∧ ForI (Iti d o kvs) g tb D σ H1) : tFor (iItems td) g tb D σ H := h
/-- for k, v in d.items() -/
theorem forIt {tb : TS} {g : TG} {d : Addr} {o : Obj} {kvs : List (Key × V)} (Pv : Nat → St → Hp → Prop) (h0 : Pv 0 σ H) (hl : ∀ i σ' H', i ≤ kvs.length → Pv i σ' H' → H' d = some (.frz o (.dK kvs)))
    (hs : ∀ i k v T σ' H', kvs[i]? = some (k, v) → Pv i σ' H' → H' T = none → g (.ref T) σ' (upd H' T (.tup [kV k, v])) fun σ2 H2 => tb { D with nx := Pv (i + 1), ct := Pv (i + 1), bk := D.nx } σ2 H2)
    (hd : ∀ σ' H', Pv kvs.length σ' H' → D.nx σ' H') : ForI (Iti d o kvs) g tb D σ H :=
  for_it walk_items Pv h0 hl (fun i v σ' H' H'' hi p y => by
    obtain ⟨T, x, z, rfl, hT, rfl, ex, ez⟩ := y
    cases hk : kvs[i]? with
    | none =>
      have h1 : (kvs[i]?.map fun kv => kV kv.1) = some x := ex
      rw [hk] at h1
      cases h1
    | some kv =>
      have h1 : (kvs[i]?.map fun kv => kV kv.1) = some x := ex
      have h2 : kvs[i]?.map Prod.snd = some z := ez
      rw [hk] at h1 h2
      cases h1
      cases h2
      exact hs i kv.1 kv.2 T σ' H' hk p hT) hd
/-- a dict that was locked is let go ahead of a statement -/
def tUnl (H0 : Hp) (t : TS) : TS := fun D σ H => ∃ d od u, H d = some (.frz od u) ∧ (∀ o' u', H0 d ≠ some (.frz o' u')) ∧ t D σ (upd H d u)
theorem ps_unl {st : Stmt} {t : TS} (h : PS X st t) : PS X st (tUnl X.H_0 t) := ⟨fun pins s σ H D I hw => let ⟨_, _, _, e, n, q⟩ := hw; h.run pins s σ _ D (I.unlock e n) q⟩
theorem c_listIt {te : TE} (h : te σ H fun x H1 => LiI.rItemsL x H1 Q) : LiI.tListItems te σ H Q := h
/-- s * n, n from 0 -/
def rRepA : R2 := fun x y H Q => ∃ (z : Str) (n : Int), x = .str z ∧ y = .int n ∧ 0 ≤ n ∧ n ≤ 1000 ∧ 0 < z.length ∧ z.length ≤ 100 ∧ Q (.str (repS z n.toNat)) H
theorem op_rep_strA : OpR X (binaryOp .Mult) rRepA := by
  intro pins s σ H x y v u Q I rx ry h
  obtain ⟨z, n, rfl, rfl, h0, h1, z0, z1, q⟩ := h
  rcases (by omega : n = 0 ∨ n = 1 ∨ 2 ≤ n) with rfl | rfl | h2
  · exact op_rep_str01 pins s σ H _ _ v u Q I rx ry ⟨z, 0, rfl, rfl, .inl ⟨rfl, q⟩⟩
  · refine op_rep_str01 pins s σ H _ _ v u Q I rx ry ⟨z, 1, rfl, rfl, .inr ⟨rfl, ?_⟩⟩
    have e : repS z (Int.toNat 1) = z := by
      show repS z 1 = z
      simp [repS]
    rw [e] at q
    exact q
  · exact op_rep_str pins s σ H _ _ v u Q I rx ry ⟨z, n, rfl, rfl, h2, by omega, z0, z1, q⟩
theorem rep_mem (a : Array Nat) : ∀ (n : Nat) (acc : Array Nat) (c : Nat), c ∈ ((List.replicate n a).foldl (· ++ ·) acc).toList → c ∈ acc.toList ∨ c ∈ a.toList
  | 0, acc, c, h => .inl (by simpa using h)
  | n + 1, acc, c, h => by
    rw [List.replicate_succ, List.foldl_cons] at h
    rcases rep_mem a n _ c h with h | h
    · rw [Array.toList_append] at h
      exact List.mem_append.mp h
    · exact .inr h
/-- a text of at most n signs that may be shown -/
def Tx (n : Nat) (s : Str) : Prop := OkT s ∧ s.length ≤ n
theorem Tx.mono {m n : Nat} {s : Str} (h : Tx m s) (k : m ≤ n) : Tx n s := ⟨h.1, Nat.le_trans h.2 k⟩
theorem Tx.app {m n : Nat} {s t : Str} (h : Tx m s) (k : Tx n t) : Tx (m + n) (s ++ t) := ⟨h.1.app k.1, by rw [add_len]; have := h.2; have := k.2; omega⟩
theorem Tx.rep {m : Nat} {s : Str} (h : Tx m s) (n : Nat) : Tx (n * m) (repS s n) := by
  refine ⟨fun c hc => ?_, by rw [repS_len]; exact Nat.mul_le_mul_left _ h.2⟩
  have hc2 : c ∈ ((List.replicate n s.cps).foldl (· ++ ·) #[]).toList := hc
  rcases rep_mem s.cps n #[] c hc2 with h2 | h2
  · simp at h2
  · exact h.1 c h2
theorem cut_len (z : Str) (lo hi : Option Int) : (cutS z lo hi).length ≤ z.length := by
  rw [← tl_len, tl_cut, List.length_take, List.length_drop, tl_len]
  omega
theorem Tx.cut {m : Nat} {s : Str} (h : Tx m s) (lo hi : Option Int) : Tx m (cutS s lo hi) := ⟨h.1.cut lo hi, Nat.le_trans (cut_len s lo hi) h.2⟩
theorem tx_sign {c : Nat} (h : c < 1114112) : Tx 1 ⟨#[c]⟩ := ⟨fun d hd => by
  have : d = c := by simpa [tl] using hd
  omega, Nat.le_refl _⟩
theorem tx_lit {n : Nat} {t : Str} (h : ((tl t).all (fun c => decide (c < 1114112)) && decide (t.length ≤ n)) = true) : Tx n t := by
  rw [Bool.and_eq_true, decide_eq_true_eq] at h
  exact ⟨OkT.lit h.1, h.2⟩
theorem at_str {ns : List Str} {d : Int} (h0 : 0 ≤ d) (h1 : d < (ns.length : Int)) : ∃ s, atI (ns.map V.str) d = some (.str s) ∧ s ∈ ns := by
  obtain ⟨j, rfl⟩ := Int.eq_ofNat_of_zero_le h0
  have hj : j < ns.length := by omega
  exact ⟨ns[j], atI_nat (by rw [List.getElem?_map, List.getElem?_eq_getElem hj] <;> rfl), List.getElem_mem hj⟩
theorem at_tl {t : Str} {n : Nat} {d : Int} (h0 : 0 ≤ d) (h1 : d < (t.length : Int)) (ht : Tx n t) : ∃ c, atI (tl t) d = some c ∧ c < 1114112 := by
  obtain ⟨j, rfl⟩ := Int.eq_ofNat_of_zero_le h0
  have hj : j < (tl t).length := by rw [tl_len]; omega
  exact ⟨(tl t)[j], atI_nat (List.getElem?_eq_getElem hj), ht.1 _ (List.getElem_mem hj)⟩
end
/-! != of two lists of dicts that are equal -/
section
variable {X : Cx} {pins : List (Addr × Obj)} {σ : St} {H : Hp} {s : Shared}
theorem hitsA (I : Inv X pins σ H s) {A : Around} (hu : A.units + 66 < cLine) {ls : List (Key × V)} {vb : List (Key × Value)} (rb : KV ls vb) (fl : ∀ k u, valV ls k = some u → okV u = true) {ks : List (Key × V)} {va : List (Key × Value)} (ra : KV ks va) (fk : ∀ p ∈ ks, okV p.2 = true) :
    PySem.W.KeqHits A.in1 s vb va (ks.all fun p => match valV ls p.1 with | some u => eqV p.2 u | none => false) := by
  unfold KV at ra
  induction ra with
  | nil => exact .nil
  | @cons p q ps qs h t ih =>
    obtain ⟨key, v⟩ := q
    obtain ⟨h1, h2⟩ := h
    have h1' : p.1 = key := h1
    have ih' := ih fun p' hm => fk p' (List.mem_cons_of_mem _ hm)
    rw [List.all_cons]
    have rr : RelO (valV ls p.1) (PySem.valueAt vb p.1) := rb.val p.1
    rw [h1'] at rr ⊢
    cases e : valV ls key with
    | none =>
      rw [e] at rr
      cases e2 : PySem.valueAt vb key with
      | none => exact .miss e2
      | some y =>
        rw [e2] at rr
        exact rr.elim
    | some u =>
      rw [e] at rr
      obtain ⟨y, hy, ry⟩ := rr.some_of
      have fp := fk p List.mem_cons_self
      have fu := fl key u e
      obtain ⟨as, r1⟩ := Dp.reads I (dOf p.2) p.2 v (dp_flat (okV_flat fp)) h2
      obtain ⟨bs, r2⟩ := Dp.reads I (dOf u) u y (dp_flat (okV_flat fu)) ry
      have z := PySem.W.keq_at (A := A) r1 r2 (shaped_flat fp) (shaped_flat fu) (by show A.units + 1 + 64 < cLine; omega)
      rw [eqv_flat (okV_flat fp) (okV_flat fu)] at z
      exact .hit hy z ih'
/-- two dicts of flat things that are equal -/
def EqDs (H : Hp) (u v : V) : Prop := ∃ (d e : Addr) (ks ls : List (Key × V)), u = .ref d ∧ v = .ref e ∧ d ≠ e ∧ H d = some (.dK ks) ∧ H e = some (.dK ls) ∧ (∀ p ∈ ks, okV p.2 = true) ∧ (∀ k u, valV ls k = some u → okV u = true) ∧ eqK ks ls = true
theorem eqds_at (I : Inv X pins σ H s) {A : Around} (hu : A.units + 66 < cLine) {u v : V} {x y : Value} (h : EqDs H u v) (rx : RelV u x) (ry : RelV v y) : SeqAt.EqP X.prog X.w A s x y true := by
  obtain ⟨d, e, ks, ls, rfl, rfl, hde, hd, he, fk, fl, hq⟩ := h
  cases (show x = Value.ref d from rx)
  cases (show y = Value.ref e from ry)
  obtain ⟨_, ya, va, ra, da⟩ := (show ObjOk X.prog X.w H s.heap d (.dK ks) from I.hok d _ hd)
  obtain ⟨_, yb, vb, rb, db⟩ := (show ObjOk X.prog X.w H s.heap e (.dK ls) from I.hok e _ he)
  refine SeqAt.eqP_refs hde fun E Q q => PySem.W.keq_eq (knd := mixKind X.prog X.w) ya yb da db (by omega) (fun _ => hitsA I hu rb fl ra fk) ?_
  rw [← ra.length, ← rb.length]
  unfold eqK at hq
  rw [hq]
  exact q
theorem eqds_all (I : Inv X pins σ H s) {A : Around} (hu : A.units + 66 < cLine) : ∀ {xs ys : List V}, Paired (EqDs H) xs ys → ∀ {us ws : List Value}, Vals xs us → Vals ys ws → ∀ (j : Nat) (h1 : j < us.length) (h2 : j < ws.length), SeqAt.EqP X.prog X.w A s us[j] ws[j] true
  | _, _, .nil, _, _, r1, _, j, h1, _ => by cases r1; exact absurd h1 (Nat.not_lt_zero j)
  | _, _, .cons h k, _, _, .cons a1 b1, .cons a2 b2, 0, _, _ => eqds_at I hu h a1 a2
  | _, _, .cons h k, _, _, .cons a1 b1, .cons a2 b2, j + 1, h1, h2 => eqds_all I hu k b1 b2 j (Nat.lt_of_succ_lt_succ h1) (Nat.lt_of_succ_lt_succ h2)
def rNeLD : R2 := fun x y H Q => ∃ (a b : Addr) (xs ys : List V), x = .ref a ∧ y = .ref b ∧ H a = some (.lst xs) ∧ H b = some (.lst ys) ∧ Paired (EqDs H) xs ys ∧ Q (.bl false) H
theorem op_neLD (hu : X.A.units + 68 < cLine) : OpR X (compareOp .NotEq) rNeLD := by
  intro pins s σ H x y v u Q I rx ry h
  obtain ⟨a, b, xs, ys, rfl, rfl, ha, hb, hp, q⟩ := h
  cases (show v = Value.ref a from rx)
  cases (show u = Value.ref b from ry)
  obtain ⟨us, r1, p1, _⟩ := I.list (SqL.of ha)
  obtain ⟨ws, r2, p2, _⟩ := I.list (SqL.of hb)
  have hsz : us.toArray.size = ws.toArray.size := by
    rw [List.size_toArray, List.size_toArray, ← r1.length, ← r2.length]
    exact Paired.length hp
  refine NeL.lists_ne p1.isList p2.isList hsz (by omega) (fun j h1 h2 => ?_) _ _ ⟨.bl false, H, I, rfl, q⟩
  have k := eqds_all I (A := X.A.in1) (by show X.A.units + 1 + 66 < cLine; omega) hp r1 r2 j (by simpa using h1) (by simpa using h2)
  simpa using k
theorem hu68 {A : Around} {k : Nat} (hr : Room k A) : A.units + 68 < cLine := by have := hr.un; omega
end
end L2

/-! ### == and != of dicts whose values are data that are equal; comprehensions over dicts that make lists -/
namespace L2
open PySem PySem.Spec PyProof.Rows
open Evl hiding RetV RetL
section
variable {X : Cx} {pins : List (Addr × Obj)} {σ : St} {H : Hp} {s : Shared}
def LikeD (K : PySem.W.Frag) (H : Hp) (ls : List (Key × V)) (p : Key × V) : Prop := ∃ u d e, valV ls p.1 = some u ∧ Dp K H p.2 d ∧ Dp K H u e ∧ SeqAt.shaped d = true ∧ SeqAt.shaped e = true ∧ PyData.eqv d e = true
theorem hitsD (I : Inv X pins σ H s) (hu : X.A.units + 66 < cLine) {ls : List (Key × V)} {vb : List (Key × Value)} (rb : KV ls vb) {ks : List (Key × V)} {va : List (Key × Value)} (ra : KV ks va) (fk : ∀ p ∈ ks, LikeD X.K H ls p) :
    PySem.W.KeqHits X.A.in1 s vb va true := by
  unfold KV at ra
  induction ra with
  | nil => exact .nil
  | @cons p q ps qs h t ih =>
    obtain ⟨key, v⟩ := q
    obtain ⟨h1, h2⟩ := h
    have h1' : p.1 = key := h1
    have ih' := ih fun p' hm => fk p' (List.mem_cons_of_mem _ hm)
    obtain ⟨u, d, e, e1, d1, d2, s1, s2, eq⟩ := fk p List.mem_cons_self
    have rr : RelO (valV ls p.1) (PySem.valueAt vb p.1) := rb.val p.1
    rw [h1'] at rr e1
    rw [e1] at rr
    obtain ⟨y, hy, ry⟩ := rr.some_of
    obtain ⟨as, r1⟩ := Dp.reads I d p.2 v d1 h2
    obtain ⟨bs, r2⟩ := Dp.reads I e u y d2 ry
    have z := PySem.W.keq_at (A := X.A) r1 r2 s1 s2 (by show X.A.units + 1 + 64 < cLine; omega)
    rw [eq] at z
    exact .hit (b := true) hy z ih'
def rEqKD (K : PySem.W.Frag) : R2 := fun x y H Q => ∃ (a b : Addr) (ks ls : List (Key × V)), x = .ref a ∧ y = .ref b ∧ H a = some (.dK ks) ∧ H b = some (.dK ls) ∧ ks.length = ls.length ∧ (∀ p ∈ ks, LikeD K H ls p) ∧ Q (.bl true) H
def rNeKD (K : PySem.W.Frag) : R2 := fun x y H Q => ∃ (a b : Addr) (ks ls : List (Key × V)), x = .ref a ∧ y = .ref b ∧ H a = some (.dK ks) ∧ H b = some (.dK ls) ∧ ks.length = ls.length ∧ (∀ p ∈ ks, LikeD K H ls p) ∧ Q (.bl false) H
theorem op_eqKD (hu : X.A.units + 66 < cLine) : OpR X (compareOp .Eq) (rEqKD X.K) := by
  intro pins s σ H x y v u Q I rx ry h
  obtain ⟨a, b, ks, ls, rfl, rfl, ha, hb, hl, fk, q⟩ := h
  cases (show v = Value.ref a from rx)
  cases (show u = Value.ref b from ry)
  obtain ⟨_, ya, va, ra, da⟩ := (show ObjOk X.prog X.w H s.heap a (.dK ks) from I.hok a _ ha)
  obtain ⟨_, yb, vb, rb, db⟩ := (show ObjOk X.prog X.w H s.heap b (.dK ls) from I.hok b _ hb)
  refine PySem.W.keq_eq (knd := mixKind X.prog X.w) ya yb da db (by omega) (fun _ => hitsD I hu rb ra fk) ?_
  rw [← ra.length, ← rb.length, hl, beq_self_eq_true, Bool.true_and]
  exact ⟨.bl _, H, I, rfl, q⟩
theorem op_neKD (hu : X.A.units + 66 < cLine) : OpR X (compareOp .NotEq) (rNeKD X.K) := by
  intro pins s σ H x y v u Q I rx ry h
  obtain ⟨a, b, ks, ls, rfl, rfl, ha, hb, hl, fk, q⟩ := h
  cases (show v = Value.ref a from rx)
  cases (show u = Value.ref b from ry)
  obtain ⟨_, ya, va, ra, da⟩ := (show ObjOk X.prog X.w H s.heap a (.dK ks) from I.hok a _ ha)
  obtain ⟨_, yb, vb, rb, db⟩ := (show ObjOk X.prog X.w H s.heap b (.dK ls) from I.hok b _ hb)
  refine PySem.W.keq_ne (knd := mixKind X.prog X.w) ya yb da db (by omega) (fun _ => hitsD I hu rb ra fk) ?_
  rw [← ra.length, ← rb.length, hl, beq_self_eq_true, Bool.true_and]
  exact ⟨.bl _, H, I, rfl, q⟩
theorem like_lists {K : PySem.W.Frag} {H : Hp} {ls : List (Key × V)} {k : Key} {p q : Addr} {xs : List V} (h : valV ls k = some (.ref q)) (hp : SqL K H p xs) (hq : SqL K H q xs) (ho : xs.all okV = true) : LikeD K H ls (k, .ref p) :=
  ⟨_, _, _, h, .lst hp (dpAll_flat (okL_flat ho)), .lst hq (dpAll_flat (okL_flat ho)), shaped_lst ho, shaped_lst ho, by rw [PyData.eqv, eqvAll_flat (okL_flat ho) (okL_flat ho)]; exact eqL_refl (okL_flat ho)⟩
end
theorem lcKD {d : Addr} {o : Obj} {kvs : List (Key × V)} {g : L2.TG} {tt : TT} {te : TE} {vs : List Nat} {σ : St} {H : Hp} {Q : VK} (F : Key × V → Bool) (R0 : Addr → Key × V → V → Hp → Prop) (hst : ∀ D kv y G G2, ExB D G G2 → R0 D kv y G → R0 D kv y G2)
    (hd : H d = some (.frz o (.dK kvs))) (hn : kvs.length ≤ 1000)
    (ht : ∀ (D : Addr) (i : Nat) (kv : Key × V), H D = none → kvs[i]? = some kv → ∀ H2, Ex H H2 → (∃ o, H2 D = some o) → ∀ (R : V → Hp → Prop) (N : Hp → Prop), (F kv = true → ∀ y H3, Ex H2 H3 → R0 D kv y H3 → R y H3) → (F kv = false → ∀ H3, Ex H2 H3 → N H3) →
      g (kV kv.1) (wipe σ vs) H2 fun σ2 H3 => wipe σ2 vs = wipe σ vs ∧ tt σ2 H3 fun c H4 => if c = true then te σ2 H4 fun y H5 => R y H5 else N H4)
    (k : ∀ ys p H2, Paired (fun y kv => R0 p kv y H2) ys (kvs.filter F) → H p = none → Ex H H2 → H2 p = some (.lst ys) → Q (.ref p) H2) : LcI (Itk d o kvs) g tt te vs σ H Q := by
  refine fun D hD => ?_
  have ex : ∀ {G : Hp} {o : HO}, Ex H G → Ex H (upd G D o) := fun e b u hb => by rw [upd_ne (ne_of_none hb hD)]; exact e b u hb
  refine lc_it walk_keys (fun i H' => i ≤ kvs.length ∧ Ex H H' ∧ ∃ ys, Paired (fun y kv => R0 D kv y H') ys ((kvs.take i).filter F) ∧ H' D = some (.lst ys))
    ⟨Nat.zero_le _, ex (Ex.refl _), [], .nil, upd_same⟩ (fun i H' _ p => p.2.1 _ _ hd) (fun i x H' H'' hi p y => ?_) (fun H' p => ?_)
  · obtain ⟨rfl, key, v, hk, rfl⟩ := y
    obtain ⟨_, e1, ys, hy, hD'⟩ := p
    have hyl : ys.length ≤ i := by
      rw [paired_len hy]
      exact Nat.le_trans (List.length_filter_le _ _) (by rw [List.length_take]; omega)
    have htk : kvs.take (i + 1) = kvs.take i ++ [(key, v)] := by rw [List.take_add_one, hk]; rfl
    refine ht D i (key, v) hD hk H'' e1 ⟨_, hD'⟩ (fun y H4 => ∃ acc, H4 D = some (.lst acc) ∧ acc.length < sizeLine ∧ (i + 1 ≤ kvs.length ∧ Ex H (upd H4 D (.lst (acc ++ [y]))) ∧ ∃ zs, Paired (fun z kv => R0 D kv z (upd H4 D (.lst (acc ++ [y])))) zs ((kvs.take (i + 1)).filter F) ∧ upd H4 D (.lst (acc ++ [y])) D = some (.lst zs))) (fun H4 => i + 1 ≤ kvs.length ∧ Ex H H4 ∧ ∃ zs, Paired (fun y kv => R0 D kv y H4) zs ((kvs.take (i + 1)).filter F) ∧ H4 D = some (.lst zs)) (fun hF y H3 e3 py => ?_) (fun hF H3 e3 => ?_)
    · have hD3 := e3 _ _ hD'
      have eD : ExB D H3 (upd H3 D (.lst (ys ++ [y]))) := ExB.upd
      refine ⟨ys, hD3, Evl.sz_lt (by omega), hi, ex (e1.trans e3), ys ++ [y], ?_, upd_same⟩
      rw [htk, List.filter_append, List.filter_cons_of_pos hF, List.filter_nil]
      exact paired_snoc (F := fun a b => R0 D b a (upd H3 D (HO.lst (ys ++ [y])))) (hst _ _ _ _ _ eD py) (paired_up (fun a b h => hst _ _ _ _ _ eD (hst _ _ _ _ _ (ExB.of e3) h)) hy)
    · refine ⟨hi, e1.trans e3, ys, ?_, e3 _ _ hD'⟩
      rw [htk, List.filter_append, List.filter_cons_of_neg (by rw [hF]; decide), List.filter_nil, List.append_nil]
      exact paired_up (fun a b h => hst _ _ _ _ _ (ExB.of e3) h) hy
  · obtain ⟨_, e1, ys, hy, hD'⟩ := p
    rw [List.take_length] at hy
    exact k ys D H' hy hD e1 hD'
/-- as lcLP, and what is not a list is kept -/
theorem lcLPl {K : PySem.W.Frag} {σ : St} {H : Hp} {Q : VK} {g : L2.TG} {tt : TT} {te : TE} {vs : List Nat} {a : Addr} {xs : List V} (P : Addr → Nat → V → Hp → Prop) (hst : ∀ D i y G G2, ExB D G G2 → NL G G2 → P D i y G → P D i y G2) (hs : SqL K H a xs) (hn : xs.length ≤ 1000)
    (ht : ∀ (D : Addr) (i : Nat) (x : V), H D = none → xs[i]? = some x → ∀ H2, Ex H H2 → (∃ o, H2 D = some o) → ∀ (R : V → Hp → Prop) (N : Hp → Prop), (∀ y H3, Ex H2 H3 → P D i y H3 → R y H3) →
      g x (wipe σ vs) H2 fun σ2 H3 => wipe σ2 vs = wipe σ vs ∧ tt σ2 H3 fun c H4 => if c = true then te σ2 H4 fun y H5 => R y H5 else N H4)
    (k : ∀ ys p H2, ys.length = xs.length → (∀ i y, ys[i]? = some y → P p i y H2) → H p = none → Ex H H2 → H2 p = some (.lst ys) → Q (.ref p) H2) : LcI (Itl K a) g tt te vs σ H Q := by
  refine fun D hD => ?_
  have ex : ∀ {G : Hp} {o : HO}, Ex H G → Ex H (upd G D o) := fun e b u hb => by rw [upd_ne (ne_of_none hb hD)]; exact e b u hb
  refine lc_list (xs := xs) (fun i H' => i ≤ xs.length ∧ Ex H H' ∧ ∃ ys, ys.length = i ∧ (∀ j y, ys[j]? = some y → P D j y H') ∧ H' D = some (.lst ys))
    ⟨Nat.zero_le _, ex (Ex.refl _), [], rfl, (fun j y h => by simp at h), upd_same⟩ (fun i H' _ p => Evl.ex_l p.2.1 hs) (fun i x H' hi p => ?_) (fun H' p => ?_)
  · obtain ⟨_, e1, ys, hl, hy, hD'⟩ := p
    have hil := (List.getElem?_eq_some_iff.mp hi).1
    refine ht D i x hD hi H' e1 ⟨_, hD'⟩ (fun y H4 => ∃ acc, H4 D = some (.lst acc) ∧ acc.length < sizeLine ∧ (i + 1 ≤ xs.length ∧ Ex H (upd H4 D (.lst (acc ++ [y]))) ∧ ∃ zs, zs.length = i + 1 ∧ (∀ j y2, zs[j]? = some y2 → P D j y2 (upd H4 D (.lst (acc ++ [y])))) ∧ upd H4 D (.lst (acc ++ [y])) D = some (.lst zs))) _ (fun y H3 e3 py => ?_)
    have eD : ExB D H3 (upd H3 D (.lst (ys ++ [y]))) := ExB.upd
    have eN : NL H3 (upd H3 D (.lst (ys ++ [y]))) := NL.upd (e3 _ _ hD')
    refine ⟨ys, e3 _ _ hD', Evl.sz_lt (by omega), hil, ex (e1.trans e3), ys ++ [y], by rw [List.length_append, hl]; rfl, fun j y2 hj => ?_, upd_same⟩
    rcases Nat.lt_or_ge j ys.length with h | h
    · rw [List.getElem?_append_left h] at hj
      exact hst _ _ _ _ _ eD eN (hst _ _ _ _ _ (ExB.of e3) (NL.of e3) (hy j y2 hj))
    · rw [List.getElem?_append_right h] at hj
      have hj0 : j - ys.length = 0 := by
        have := (List.getElem?_eq_some_iff.mp hj).1
        rw [List.length_singleton] at this
        omega
      rw [hj0] at hj
      have hyy : y = y2 := by simpa using hj
      subst hyy
      have : j = i := by omega
      subst this
      exact hst _ _ _ _ _ eD eN py
  · obtain ⟨_, e1, ys, hl, hy, hD'⟩ := p
    exact k ys D H' hl hy hD e1 hD'
/-- as lcRB, each thing with a property that no change of lists takes away -/
theorem lcRBP {σ : St} {H : Hp} {Q : VK} {g : L2.TG} {tt : TT} {te : TE} {vs : List Nat} {n : Nat} {b : Addr} (P : V → Hp → Prop) (hst : ∀ y G G2, NL G G2 → P y G → P y G2) (hn : n ≤ 1000) (hB : BoxAt H b)
    (ht : ∀ (i : Nat), i < n → ∀ H2, BoxAt H2 b → ExB b H H2 → ∀ (R : V → Hp → Prop) (N : Hp → Prop), (∀ y H3, P y H3 → BoxAt H3 b → ExB b H2 H3 → R y H3) →
      g (.int (i : Int)) (wipe σ vs) H2 fun σ2 H3 => wipe σ2 vs = wipe σ vs ∧ tt σ2 H3 fun c H4 => if c = true then te σ2 H4 fun y H5 => R y H5 else N H4)
    (k : ∀ ys p H2, ys.length = n → (∀ y ∈ ys, P y H2) → H p = none → ExB b H H2 → BoxAt H2 b → H2 p = some (.lst ys) → Q (.ref p) H2) : LcI (Itr 0 n) g tt te vs σ H Q := by
  refine fun D hD => ?_
  obtain ⟨ob, hob⟩ := hB.some
  have nDb : D ≠ b := (ne_of_none hob hD).symm
  have bx : ∀ {G : Hp} {o : HO}, BoxAt G b → BoxAt (upd G D o) b := fun ⟨x, y, z, p, q⟩ => ⟨x, y, z, p, by rw [upd_ne nDb.symm]; exact q⟩
  have ex : ∀ {G : Hp} {o : HO}, ExB b H G → ExB b H (upd G D o) := fun e a u na ha => by rw [upd_ne (ne_of_none ha hD)]; exact e a u na ha
  refine lc_range (lo := 0) (n := n) (fun i H' => i ≤ n ∧ ExB b H H' ∧ BoxAt H' b ∧ ∃ ys, ys.length = i ∧ (∀ y ∈ ys, P y H') ∧ H' D = some (.lst ys)) ⟨Nat.zero_le _, ex (ExB.refl _ _), bx hB, [], rfl, (fun _ h => by cases h), upd_same⟩ (fun i H' hi p => ?_) (fun H' p => ?_)
  · obtain ⟨_, e1, b1, ys, hl, hg, hy⟩ := p
    have e0 : (0 : Int) + (i : Int) = (i : Int) := Int.zero_add _
    rw [e0]
    refine ht i hi H' b1 e1 (fun y H4 => ∃ acc, H4 D = some (.lst acc) ∧ acc.length < sizeLine ∧ (i + 1 ≤ n ∧ ExB b H (upd H4 D (.lst (acc ++ [y]))) ∧ BoxAt (upd H4 D (.lst (acc ++ [y]))) b ∧ ∃ zs, zs.length = i + 1 ∧ (∀ y2 ∈ zs, P y2 (upd H4 D (.lst (acc ++ [y])))) ∧ upd H4 D (.lst (acc ++ [y])) D = some (.lst zs))) _ (fun y H3 gy b3 e3 => ?_)
    have hD3 := e3 D _ nDb hy
    have eN : NL H3 (upd H3 D (.lst (ys ++ [y]))) := NL.upd hD3
    refine ⟨ys, hD3, Evl.sz_lt (by omega), hi, ex (e1.trans e3), bx b3, ys ++ [y], by rw [List.length_append, hl]; rfl, fun z hz => ?_, upd_same⟩
    rcases List.mem_append.mp hz with h | h
    · exact hst _ _ _ eN (hst _ _ _ (NL.box e3 b1) (hg z h))
    · have : z = y := by simpa using h
      rw [this]
      exact hst _ _ _ eN gy
  · obtain ⟨_, e1, b1, ys, hl, hg, hy⟩ := p
    exact k ys D H' hl hg hD e1 b1 hy
end L2

/-! ### while, without a word of the test -/
namespace L2
open PySem PySem.Spec PyProof.Rows
open Evl hiding RetV RetL
/-- the turn of a while that comes back to Pv with less -/
def WTurn (tb : TS) (D : Ends) (Pv : St → Hp → Prop) (μ : St → Hp → Nat) (m : Nat) (σ : St) (H : Hp) : Prop := ∃ N : St → Hp → Prop, (∀ σ' H', N σ' H' → ∃ m', m' < m ∧ m' = μ σ' H' ∧ Pv σ' H') ∧ tb { D with nx := N, ct := N, bk := D.nx } σ H
theorem c_turn {tb : TS} {D : Ends} {Pv : St → Hp → Prop} {μ : St → Hp → Nat} {m : Nat} {σ : St} {H : Hp} (h : tb { D with nx := fun σ' H' => Pv σ' H' ∧ μ σ' H' < m, ct := fun σ' H' => Pv σ' H' ∧ μ σ' H' < m, bk := D.nx } σ H) : WTurn tb D Pv μ m σ H := ⟨_, fun _ _ ⟨p, l⟩ => ⟨_, l, rfl, p⟩, h⟩
theorem while_do {c : TT} {tb : TS} {D : Ends} {σ : St} {H : Hp} (Pv : St → Hp → Prop) (μ : St → Hp → Nat) (h0 : Pv σ H)
    (hs : ∀ σ H, Pv σ H → c σ H fun b H1 => if b = true then WTurn tb D Pv μ (μ σ H) σ H1 else D.nx σ H1) : tWhile c tb D σ H := by
  refine ⟨fun m σ H => m = μ σ H ∧ Pv σ H, ⟨_, rfl, h0⟩, ?_⟩
  rintro m σ H ⟨rfl, p⟩
  exact hs σ H p
end L2

/-! ### except suites that call defs: the context of what is handled is None -/
namespace L2
open PySem PySem.Spec PyProof.Rows
open L2H (HotC Hot1 FnH RoomH cxH)
section
variable {X : Cx} {x : Str} {p q pos : Pos} {e : Expr} {es : List Expr} {ta : TA}
theorem pmkN_oex {CX : CXT} {C fI : Addr} {k : Nat} {fd : FuncData} {ps : List Str} {sp : Sp} {ds : List Value} {dvs : List V} (T : OexC X.K C) (iC : PySem.W.findIn X.K (.ref C) "__init__" = some (some (.ref fI))) (tI : PySem.W.typeIn X.K (.ref fI) = some (.type "function"))
    (F1 : FnOk X.prog X.w X.K X.mg X.base CX k fI fd ps sp) (hr : Room (k + 1) X.A) (hb : Binds X.K fd ps ds) (hd : Vals dvs ds) (hx : Passes CX X (fun _ _ _ => False)) (hg : Gl X x) (hm : X.mg x = some (.ref C)) (ha : PA X (e :: es) ta)
    (hdb : (x == ("__debug__" : Str)) = false := by decide) (he : starEach (e :: es) X.env = (false, eval e X.env) :: starEach es X.env := by rfl) (hpl : (backTo pos (starEach es X.env)).any (·.1) = false := by rfl) :
    L2N.PMk X (.Call (.Name x p) (e :: es) [] pos) (tMkO C sp dvs ta) := by
  intro pins s σ H Q I h
  obtain ⟨nm, q, N, bs, bm, sn, sub, ab, col, dd, k0, k1, k2, k3, k5, hC, hbm⟩ := T.cls
  refine wpAny_Call_Name_kw (ld_glob I hg hm ?_ hdb)
  refine PySem.W.callWith_K (h₀ := X.base) I.ok.mod.kin T.kC (thn (ha.run pos pins s σ H _ I h) fun us s1 hh => ?_) he hpl
  obtain ⟨vs, H1, I1, r1, hz, q1⟩ := hh
  refine ⟨I1.kIn, ?_⟩
  show wpAny _ _ (call (.ref C) us) _ _ _
  obtain ⟨hp, g, dr, tk, os⟩ := s1
  have le1 : hp.objs.size ≤ hp.objs.size + 1 := Nat.le_succ _
  have hn : H1 (hp.objs.size + 1) = none := I1.hok.fresh le1
  have hq := q1 (hp.objs.size + 1) hn
  have kep : ∀ b o, hp.get? b = some o → ((hp.push (PySem.W.kdv_tup us)).push (PySem.HandSPX.excO C hp.objs.size)).get? b = some o := fun b o z => Heap.get?_push_of_some _ (Heap.get?_push_of_some _ z)
  have hget : ((hp.push (PySem.W.kdv_tup us)).push (PySem.HandSPX.excO C hp.objs.size)).get? (hp.objs.size + 1) = some (PySem.HandSPX.excO C hp.objs.size) := by heap_get
  have J2 : Inv X pins σ (upd H1 (hp.objs.size + 1) (exo (hp.objs.size + 1) C none)) ⟨(hp.push (PySem.W.kdv_tup us)).push (PySem.HandSPX.excO C hp.objs.size), g, dr, tk, os⟩ :=
    I1.laid (t' := tk) (a := hp.objs.size + 1) (o := exo (hp.objs.size + 1) C none) (h' := (hp.push (PySem.W.kdv_tup us)).push (PySem.HandSPX.excO C hp.objs.size)) kep le1 (exo_ok hget)
  have rv2 : Vals (V.ref (hp.objs.size + 1) :: (vs ++ dvs)) (Value.ref (hp.objs.size + 1) :: (us ++ ds)) := .cons rfl (r1.append hd)
  have hlen : (Value.ref (hp.objs.size + 1) :: us ++ ds).length = ps.length := by
    have z := rv2.length
    rw [F1.len _ _ _ _ hq] at z
    exact z.symm
  have hus : us.length ≤ sizeLine := by
    rw [← Paired.length r1, sizeLine_eq]
    omega
  refine wpAny_call (PySem.HandSPX.call_own F.excBase_ValueError (fun Y => PySem.HandSPX.refsVE_contains Y bm hbm) (I1.kIn _ _ hC) (PySem.W.looks_findIn I1.kIn iC) (fun self => PySem.W.bind_fn I1.kIn self tI) hus ?_)
  refine codeAny_mono (F1.run _ X.stack _ _ ⟨Value.ref (hp.objs.size + 1) :: us, []⟩ (Value.ref (hp.objs.size + 1) :: (us ++ ds)) _ _ (fun _ _ _ => False) (hr.make C us []) (J2.env0.make C us []) (hb _ (Value.ref (hp.objs.size + 1) :: us) J2.kIn hlen) rv2 hq) fun r s' hq' => ?_
  cases r with
  | error er => exact hx pins σ _ _ er s' J2 hq'
  | ok fl =>
    cases fl with
    | ret u =>
      obtain ⟨v, H2, os2, bare2, un2, hok2, rv, ev, d, fs, ea, ed, hd1, q2⟩ := hq'
      subst ev
      obtain ⟨h2, g2, d2, t2, os'⟩ := s'
      obtain ⟨t0, G, J, kG, ge, hoe, na⟩ := mk_end0 (d2 := d2) (t2 := t2) I1 le1 kep un2 hok2 os2 bare2 ea ed hd1
      refine ⟨rv, hp.objs.size + 1, _, _, ⟨G, g2, d2, t2, os'⟩, _, .ref C, some d, rfl, J, kG, ge, hoe, ⟨rfl, rfl, fun vs hv => ?_⟩, rfl, rfl, na, rfl, bare2, raises_own T.exC T.tyC, q2⟩
      cases hv
      rfl
    | next => exact False.elim hq'
    | brk => exact False.elim hq'
    | cont => exact False.elim hq'
theorem passAt0 {σ : St} : PassesAt CX0 X σ E0 := fun _ _ _ _ _ _ z => z.elim
theorem passH {W : WX} {E : XK} (tk : L2N.Takes X W) (hW : ∀ cls d σ H, E cls d H → W cls d σ H) : Passes (L2N.CX X.prog X.w) X E := fun pins σ H s e s' I c => L2N.passes_call tk hW pins σ H s e s' I c
end
section
variable {P : Program} {w : World} {K : PySem.W.Frag} {mg : Str → Option Value} {base : Heap}
theorem Fun.okN {x qual : Str} {st : Stmt} {f : Addr} {fd : FuncData} {N ps : List Str} {k : Nat} {sp : Sp} (F : Fun K x qual st f fd) (S : FnScope N ps (defScope st)) (len : ∀ vs H Q E, sp vs H Q E → vs.length = ps.length)
    (hbody : ∀ (cdv : Value) (A : Around) (outer : List Env) (s : Shared) (H : Hp) (vs : List V) (Q : VK) (E : XK), Room k (A.deeper (envOfC qual (defScope st) s.heap.objs.size f cdv)) → sp vs H Q E →
      ∃ t, PSs (cxOf (L2N.CX P w) P w K mg base N qual (defScope st) f cdv A outer s H E) (defBody st) t ∧ t { nx := fun _ H' => Q .non H', rt := Q } (start N vs) H) : FnOk P w K mg base (L2N.CX P w) (k + 1) f fd ps sp := by
  obtain ⟨oc, od, kV, doc, pm, an, cdv, ct, osl, rfl, lk, hcd⟩ := F.ex
  exact fn_of lk hcd S len fun A outer s H vs Q E hr hsp => hbody cdv A outer s H vs Q E hr hsp
/-- a def by its body, called where an exception is handled -/
theorem Fun.okH {x qual : Str} {st : Stmt} {f : Addr} {fd : FuncData} {N ps : List Str} {k : Nat} {sp : Sp} (F : Fun K x qual st f fd) (S : FnScope N ps (defScope st)) (len : ∀ vs H Q E, sp vs H Q E → vs.length = ps.length)
    (hbody : ∀ (cdv : Value) (A : Around) (outer : List Env) (s : Shared) (H : Hp) (vs : List V) (Q : VK) (E : XK) (p : Addr × Obj), HotC (cxH CX0 P w K mg base N qual (defScope st) f cdv A outer s H E p).nox → RoomH k (A.deeper (envOfC qual (defScope st) s.heap.objs.size f cdv)) → sp vs H Q E →
      ∃ t, PSs (cxH CX0 P w K mg base N qual (defScope st) f cdv A outer s H E p).nox (defBody st) t ∧ t { nx := fun _ H' => Q .non H', rt := Q } (start N vs) H) : FnH P w K mg base CX0 (k + 1) f fd ps sp := by
  obtain ⟨oc, od, kV, doc, pm, an, cdv, ct, osl, rfl, lk, hcd⟩ := F.ex
  refine L2H.fn_ofH lk hcd S len fun A outer s H vs Q E p hot hr hsp => ?_
  obtain ⟨t, ht, hq⟩ := hbody cdv A outer s H vs Q E p ⟨p, ⟨hot.1, hot.2⟩, List.mem_cons_self⟩ hr hsp
  exact ⟨t, ht.nox, hq⟩
theorem huH {A : Around} {k : Nat} (hr : RoomH k A) : A.units + 1 < cLine := by have := hr.un; omega
theorem hu66H {A : Around} {k : Nat} (hr : RoomH k A) : A.units + 66 < cLine := by have := hr.un; omega
theorem hu68H {A : Around} {k : Nat} (hr : RoomH k A) : A.units + 68 < cLine := by have := hr.un; omega
theorem unitsH {A : Around} {k : Nat} (hr : RoomH k A) : A.units + 64 < cLine := by have := hr.un; omega
end
/-! try, where the suites may call defs -/
abbrev SuiOkN (X : Cx) (ss : List Stmt) (ts : Sui) : Prop := ∀ (a : Addr) (oe : Obj) (k : Value) (d : Option Addr) (pn : List (Addr × Obj)), Zc k d oe → (∃ vs, oe.data = .fields vs) → HotC (X.suite a ((a, oe) :: pn)) → PSs (X.suite a ((a, oe) :: pn)) ss (ts a k d)
inductive HdsN (X : Cx) : List ExceptHandler → List (Value × Option Nat × Sui) → Prop
  | nil : HdsN X [] []
  | anon {x : Str} {c : Value} {ts : Sui} {s0 : Stmt} {ss : List Stmt} {p1 p2 : Pos} {hs : List ExceptHandler} {l : List (Value × Option Nat × Sui)} (hc : Names X x c) (su : SuiOkN X (s0 :: ss) ts) (r : HdsN X hs l) : HdsN X (.ExceptHandler (some (.Name x p1)) none (s0 :: ss) p2 :: hs) ((c, none, ts) :: l)
  | named {x n : Str} {i : Nat} {c : Value} {ts : Sui} {s0 : Stmt} {ss : List Stmt} {p1 p2 : Pos} {hs : List ExceptHandler} {l : List (Value × Option Nat × Sui)} (hi : X.N[i]? = some n) (hk : X.env.kindOf n = some .local) (hc : Names X x c) (su : SuiOkN X (s0 :: ss) ts) (r : HdsN X hs l) : HdsN X (.ExceptHandler (some (.Name x p1)) (some n) (s0 :: ss) p2 :: hs) ((c, some i, ts) :: l)
section
variable {X : Cx}
theorem ps_try_allN {bd el : List Stmt} {g0 : ExceptHandler} {gs : List ExceptHandler} {l : List (Value × Option Nat × Sui)} {p : Pos} {tb : WX → TS} {te : TS} {Wo : WX} (hN : X.N.Nodup) (hs : X.stack = X.env :: X.outer) (hf : X.env.frame = some X.env.locals) (tk : L2.Takes X Wo)
    (hb : ∀ (W : WX) (pn : List (Addr × Obj)) (xe : Value → Shared → Prop), L2N.Takes (X.tr pn xe) W → PassesOwn (model X.prog X.w) X.A X.env xe → PSs (X.tr pn xe) bd (tb W)) (hh : HdsN X (g0 :: gs) l) (he : PSs X el te) :
    PS X (.Try bd (g0 :: gs) el [] p) (fun D σ H => tb (wAll X.K Wo D l) { D with nx := te D } σ H) := by
  refine ⟨fun pins s σ H D I h => ?_⟩
  have ok := I.ok
  have fr : X.A.frames = some (X.env :: X.outer) := by rw [ok.frames, hs]
  let M := model X.prog X.w
  let catches : Value → Shared → Prop := fun e s1 => wpAny M X.A (noteFrame e X.env) (fun _ s2 => wpAny M X.A (setFlight e none) (fun _ s3 => wpAny M X.A (handleBy e X.env (g0 :: gs)) (SP X pins D) X.xe s3) X.xe s2) X.xe s1
  refine wpAny_Try_except ?_
  have run := (hb (wAll X.K Wo D l) (X.pn ++ pins) catches (fun u s' got => ?_) PassesOwn.looking).run [] s σ H { D with nx := te D } (I.toTry _) h
  refine wpAny_mono run (fun f s1 out => ?_) (fun e s1 z => z)
  · cases f with
    | next => obtain ⟨σ1, H1, J1, q⟩ := out; exact he.run pins s1 σ1 H1 D (J1.ofTry ok) q
    | brk => obtain ⟨σ1, H1, J1, q⟩ := out; exact ⟨σ1, H1, J1.ofTry ok, q⟩
    | cont => obtain ⟨σ1, H1, J1, q⟩ := out; exact ⟨σ1, H1, J1.ofTry ok, q⟩
    | ret u => obtain ⟨v, σ1, H1, J1, r, q⟩ := out; exact ⟨v, σ1, H1, J1.ofTry ok, r, q⟩
  · obtain ⟨a, B, sI, pins1, σ1, H1, k, d, rfl, J1, nb, up, sky, na, os, ag, wish⟩ := got
    have J : Inv X pins σ1 H1 sI := J1.ofTry ok
    have sk : Sky B (X.env :: X.outer) a (L2N.Zn k d) X.env.locals s'.heap := hs ▸ sky
    show wpAny M X.A (noteFrame (.ref a) X.env) _ _ _
    refine L2N.Sky.land L2N.Zn.steady fr hf sk fun hA flA upA => ?_
    have JA : Inv X pins σ1 H1 { s' with heap := hA } := J.landed nb flA.1 (up.trans upA) os ag
    obtain ⟨oA, vA, eA, zA, dA⟩ := flA.there
    have off : a ∉ frs (X.env :: X.outer) := fun hm => by
      obtain ⟨_, o1, e1, hn⟩ := flA.2.2.1.mem hm
      rw [eA] at e1
      cases e1
      exact hn _ dA
    have off1 : a ≠ X.env.locals := fun z => off (List.mem_filterMap.mpr ⟨X.env, List.mem_cons_self, by rw [hf, z]⟩)
    have off2 : a ∉ X.fs := fun hm => by
      obtain ⟨e, h1, h2⟩ := List.mem_filterMap.mp hm
      exact off (List.mem_filterMap.mpr ⟨e, List.mem_cons_of_mem _ h1, h2⟩)
    have SA := JA.suite eA dA na off1 off2
    have ask : ∀ {x : Str} {c : Value} {np : Pos} {Q E : Value → Shared → Prop}, Names X x c → Q c { s' with heap := hA } → wpAny M (X.A.mark (some (.ref a))) (eval (.Name x np) X.env) Q E { s' with heap := hA } := fun {x c np Q E} hc q => by
      obtain ⟨hg, hd, hm | ⟨hm, hv, hn⟩⟩ := hc
      · exact ld_glob (X := X.suite a ((a, oA) :: (X.pn ++ pins))) SA hg hm q hd
      · exact ld_blt (X := X.suite a ((a, oA) :: (X.pn ++ pins))) SA hg hm hv q hn hd
    have type_ : PySem.W.Looks M hA (typeOf (.ref a)) k := fun A Q E s q1 q2 => wpAny_typeOf_ref (q1 _ _ eA) (by rw [zA.1]; exact q2)
    suffices go : ∀ {hs1 : List ExceptHandler} {l1 : List (Value × Option Nat × Sui)}, HdsN X hs1 l1 → wAll X.K Wo D l1 k d σ1 H1 → wpAny M X.A (handleBy (.ref a) X.env hs1) (SP X pins D) X.xe { s' with heap := hA } from go hh wish
    intro hs1 l1 hk
    induction hk with
    | nil =>
      intro wsh
      refine wpAny_handleBy_nil ?_
      obtain ⟨_, _, _, oe, vs, T, oT, tt, e0, z0, d0, t0, r0⟩ := id flA
      unfold PySem.passOn
      refine wpAny_bind (wpAny_field e0 d0 t0 ?_)
      rw [if_neg (show ¬ ((Value.ref T == Value.none) = true) by simp)]
      have last : wpAny M X.A (setFlight (.ref a) X.env.frame) (fun _ s4 => wpAny M X.A (throw (.ref a) : Sem Flow) (SP X pins D) X.xe s4) X.xe { s' with heap := hA } := by
        rw [hf]
        refine HandSPX.setFlight_upZ (L2H.flyingZ_imp (fun o z => z.zc) flA) fun hB kB upB => wpAny_throw (tk _ _ ?_)
        exact ⟨a, B, sI, pins, σ1, H1, k, d, rfl, J, nb, (up.trans upA).trans upB, .inr (.inr (hs ▸ kB)), na, os, ag, wsh⟩
      first
        | exact wpAny_bind (wpAny_pure (wpAny_bind last))
        | exact wpAny_bind last
    | @anon x c ts s0 ss p1 p2 hs2 l2 hc su r ih =>
      intro wsh
      obtain ⟨b, hb1, yes, no⟩ := wsh
      have LM := PySem.W.exm_one (M := M) JA.kIn type_ hb1
      refine wpAny_handleBy_cons (codeAny_handlers_test (ask hc (LM.here ?_))) (by intro q; cases q)
      cases b with
      | false => exact ih (no rfl)
      | true =>
        refine codeAny_handlers_suite (HandSPX.lands_againZ flA fun hB flB upB => ?_)
        have JB : Inv X pins σ1 H1 { s' with heap := hB } := J.landed nb flB.1 ((up.trans upA).trans upB) os ag
        obtain ⟨oB, vB, eB, zB, dB⟩ := flB.there
        have run2 := (su a oB k d (X.pn ++ pins) zB.zc ⟨_, dB⟩ ⟨(a, oB), ⟨rfl, vB, dB, zB.2.2 vB dB⟩, List.mem_cons_self⟩).run [] _ _ H1 _ (JB.suite eB dB na off1 off2) (yes rfl a na)
        refine wpAny_mono run2 (fun f s6 out => ?_) (fun _ _ z => False.elim z)
        cases f with
        | next => obtain ⟨σ6, H6, S6, q6⟩ := out; exact ⟨_, _, S6.unsuite ok, q6⟩
        | brk => obtain ⟨σ6, H6, S6, q6⟩ := out; exact ⟨_, _, S6.unsuite ok, q6⟩
        | cont => obtain ⟨σ6, H6, S6, q6⟩ := out; exact ⟨_, _, S6.unsuite ok, q6⟩
        | ret u => obtain ⟨v6, σ6, H6, S6, r6, q6⟩ := out; exact ⟨_, _, _, S6.unsuite ok, r6, q6⟩
    | @named x n i c ts s0 ss p1 p2 hs2 l2 hi hkn hc su r ih =>
      intro wsh
      obtain ⟨b, hb1, yes, no⟩ := wsh
      have LM := PySem.W.exm_one (M := M) JA.kIn type_ hb1
      refine wpAny_handleBy_cons (codeAny_handlers_test (ask hc (LM.here ?_))) (by intro q; cases q)
      cases b with
      | false => exact ih (no rfl)
      | true =>
        refine codeAny_handlers_suite_as (HandSPX.lands_againZ flA fun hB flB upB => ?_)
        have JB : Inv X pins σ1 H1 { s' with heap := hB } := J.landed nb flB.1 ((up.trans upA).trans upB) os ag
        obtain ⟨oB, vB, eB, zB, dB⟩ := flB.there
        refine store_ok (X := X.suite a ((a, oB) :: (X.pn ++ pins))) (v := .ref a) (JB.suite eB dB na off1 off2) hN hi (.inl hkn) rfl (fun s5 S5 => ?_) (.inr hkn)
        have run2 := (su a oB k d (X.pn ++ pins) zB.zc ⟨_, dB⟩ ⟨(a, oB), ⟨rfl, vB, dB, zB.2.2 vB dB⟩, List.mem_cons_self⟩).run [] s5 _ H1 _ S5 (yes rfl a na)
        refine wpAny_mono run2 (fun f s6 out => ?_) (fun _ _ z => False.elim z)
        cases f with
        | next => obtain ⟨σ6, H6, S6, q6⟩ := out; exact gone_ok (S6.unsuite ok) hN hi hkn fun s7 J7 => ⟨_, _, J7, q6⟩
        | brk => obtain ⟨σ6, H6, S6, q6⟩ := out; exact gone_ok (S6.unsuite ok) hN hi hkn fun s7 J7 => ⟨_, _, J7, q6⟩
        | cont => obtain ⟨σ6, H6, S6, q6⟩ := out; exact gone_ok (S6.unsuite ok) hN hi hkn fun s7 J7 => ⟨_, _, J7, q6⟩
        | ret u => obtain ⟨v6, σ6, H6, S6, r6, q6⟩ := out; exact gone_ok (S6.unsuite ok) hN hi hkn fun s7 J7 => ⟨_, _, _, J7, r6, q6⟩
end
end L2

/-! ### repr of a dict from texts to tuples of texts -/
namespace L2
open PySem PySem.Spec PyProof.Rows
open TL (tl)
def ktD (L : List (Str × List Str)) : PyData := .dict (L.map fun q => (PyData.str q.1, PyData.tuple (q.2.map PyData.str)))
def KtAt (H : Hp) (a : Addr) (L : List (Str × List Str)) : Prop := ∃ kv, H a = some (.dK kv) ∧ Paired (fun (p : Key × V) (q : Str × List Str) => p.1 = .inr q.1 ∧ ∃ t, p.2 = .ref t ∧ H t = some (.tup (q.2.map V.str))) kv L
def TxS (s : Str) : Prop := OkT s ∧ s.length ≤ 80
def KtOk (L : List (Str × List Str)) : Prop := L.length ≤ 40 ∧ ∀ q ∈ L, TxS q.1 ∧ q.2.length ≤ 40 ∧ ∀ z ∈ q.2, TxS z
def rReprKT : List V → Hp → VK → Prop := fun xs H Q => ∃ a L, xs = [.ref a] ∧ KtAt H a L ∧ KtOk L ∧ Q (.str (ktD L).shown) H
section
variable {X : Cx} {pins : List (Addr × Obj)} {σ : St} {H : Hp} {s : Shared}
theorem reads_strs {h : Heap} : ∀ {l : List Str} {us : List Value}, Vals (l.map V.str) us → ReadsAll h us (l.map PyData.str) []
  | [], _, .nil => ReadsAll.nil
  | a :: l, _, .cons r t => by
    obtain ⟨tk, rfl⟩ := (show ∃ t, _ = Value.str a t from r)
    exact ReadsAll.cons (as := []) (bs := []) (.str a tk) (reads_strs t)
theorem kt_reads (I : Inv X pins σ H s) : ∀ {L : List (Str × List Str)} {kv : List (Key × V)} {vs : List (Key × Value)} {es : List DictEntry}, Paired (fun (p : Key × V) (q : Str × List Str) => p.1 = .inr q.1 ∧ ∃ t, p.2 = .ref t ∧ H t = some (.tup (q.2.map V.str))) kv L → KV kv vs → Pairs (mixKind X.prog X.w) es vs →
    ReadsAll s.heap (es.map (·.key)) (L.map fun q => PyData.str q.1) [] ∧ ReadsAll s.heap (es.map (·.val)) (L.map fun q => PyData.tuple (q.2.map PyData.str)) []
  | [], _, _, _, .nil, hkv, hp => by
    cases hkv
    cases hp
    exact ⟨.nil, .nil⟩
  | q :: L, _, _, _, .cons h t, hkv, hp => by
    unfold KV at hkv
    cases hkv with
    | cons h2 t2 =>
      cases hp with
      | cons k1 k2 t3 =>
        obtain ⟨e1, ta, e2, hta⟩ := h
        obtain ⟨f1, f2⟩ := h2
        obtain ⟨r1, r2⟩ := kt_reads I t t2 t3
        rw [← f1, e1] at k1
        obtain ⟨tk, ek⟩ := (show ∃ t, _ = Value.str q.1 t from relV_key (k := .inr q.1) (show keyIs _ _ = true from k1))
        rw [e2] at f2
        have f2' := (show _ = Value.ref ta from f2)
        obtain ⟨its, rv, hp2, hlen⟩ := I.tuple (SqT.of hta)
        obtain ⟨o, ho, hc, n, hd⟩ := hp2
        refine ⟨?_, ?_⟩
        · rw [List.map_cons, List.map_cons, ek]
          exact ReadsAll.cons (as := []) (bs := []) (.str _ _) r1
        · rw [List.map_cons, List.map_cons, k2, f2']
          exact ReadsAll.cons (as := []) (bs := []) (Reads.tuple ho hc hd (by simpa using reads_strs rv)) r2
theorem kv_ok {B D : Nat} : ∀ {L : List (Str × List Str)}, (∀ q ∈ L, RpOk 0 B (.str q.1) ∧ RpOk D B (.tuple (q.2.map PyData.str))) → PyData.showableKv (L.map fun q => (PyData.str q.1, PyData.tuple (q.2.map PyData.str))) = true ∧ PyData.leavesShortKv 13 (L.map fun q => (PyData.str q.1, PyData.tuple (q.2.map PyData.str))) = true ∧ PyData.depthKv (L.map fun q => (PyData.str q.1, PyData.tuple (q.2.map PyData.str))) ≤ D ∧ PyData.bulkKv (L.map fun q => (PyData.str q.1, PyData.tuple (q.2.map PyData.str))) ≤ L.length * (2 * B + 2)
  | [], _ => by simp [PyData.showableKv, PyData.leavesShortKv, PyData.depthKv, PyData.bulkKv]
  | q :: L, h => by
    obtain ⟨⟨a1, a2, a3, a4, a5⟩, b1, b2, b3, b4, b5⟩ := h q List.mem_cons_self
    obtain ⟨h1, h2, h3, h4⟩ := kv_ok (L := L) fun z hz => h z (List.mem_cons_of_mem _ hz)
    rw [List.map_cons]
    refine ⟨by simp only [PyData.showableKv, a1, b1, h1, Bool.and_self], by simp only [PyData.leavesShortKv, a3, b3, h2, Bool.and_self], by simp only [PyData.depthKv]; omega, ?_⟩
    simp only [PyData.bulkKv]
    rw [List.length_cons, Nat.succ_mul]
    omega
theorem strs_ok : ∀ {l : List Str}, (∀ z ∈ l, TxS z) → RpAll 0 (l.length * 81) (l.map PyData.str)
  | [], _ => rp_nil
  | a :: l, h => by
    have h1 := (rp_str (h a List.mem_cons_self).1).mono (Nat.le_refl 0) (h a List.mem_cons_self).2
    obtain ⟨k1, k2, k3, k4, k5⟩ := rp_cons h1 (strs_ok (l := l) fun z hz => h z (List.mem_cons_of_mem _ hz))
    refine ⟨k1, k2, k3, Nat.le_trans k4 (by decide), ?_⟩
    rw [List.length_cons, Nat.succ_mul]
    have k5' : PyData.bulkAll ((a :: l).map PyData.str) ≤ 80 + 1 + l.length * 81 := k5
    omega
theorem call_reprKT (hgd : X.A.guards = some []) (hu : X.A.units + 62 < cLine) : CallR X (.builtin "repr") rReprKT := by
  intro pins s σ H xs us Q I r h
  obtain ⟨a, L, rfl, ⟨kv, ha, hp⟩, ⟨hl, hL⟩, q⟩ := h
  cases r with
  | cons ra rr =>
    cases rr
    rename_i u
    cases (show u = Value.ref a from ra)
    obtain ⟨_, hsys, vs, hkv, o, es, ep, ho, hx, hda, _, hpr, _⟩ := I.hok a _ ha
    obtain ⟨r1, r2⟩ := kt_reads I hp hkv hpr
    have rd : Reads s.heap (.ref a) (ktD L) [a] := Reads.dict (as := []) (bs := []) ho hx.1 hda (by rw [List.map_map]; exact r1) (by rw [List.map_map]; exact r2)
    have ok := kv_ok (B := 3240) (D := 1) (L := L) fun q hq => ⟨(rp_str (hL q hq).1.1).mono (Nat.le_refl _) (by have := (hL q hq).1.2; omega), (rp_tup (strs_ok (hL q hq).2.2)).mono (by omega) (by have := (hL q hq).2.1; have := Nat.mul_le_mul_right 81 this; omega)⟩
    obtain ⟨k1, k2, k3, k4⟩ := ok
    have hb : (ktD L).bulk ≤ 2 ^ 20 := by
      unfold ktD
      simp only [PyData.bulk]
      have := Nat.mul_le_mul_right (2 * 3240 + 2) hl
      omega
    have hls : (ktD L).leavesShort 13 = true := by unfold ktD; simp only [PyData.leavesShort]; exact k2
    refine repr_of_reads' rd (by unfold ktD; simp only [PyData.showable]; exact k1) (fun _ z => ?_) hgd (by unfold ktD; simp only [PyData.depth]; omega) (fun _ _ z => z) (fun h' u tk hk => ?_) (PyData.shown_fits_bulk (B := 13) (by decide) (by decide) hls hb)
    · have : sysModules = a := by simpa using z
      rw [this] at hsys
      simp at hsys
    · exact ⟨.str _, H, I.kept (t' := tk) hk, ⟨_, rfl⟩, q⟩
end
end L2

open L2 in
local macro_rules | `(tactic| walk_at "s") => `(tactic| with_reducible (first
  | refine c_var (by with_unfolding_all rfl) ?_ | refine c_c ?_ | refine c_op ?_ | refine c_test ?_ | refine c_cons ?_ | refine c_nil ?_ | refine c_call ?_ | refine c_cb ?_ | refine c_seq ?_ | refine c_asg ?_ | refine c_gName ?_ | refine c_ret ?_ | refine c_ifS ?_
  | refine c_nx ?_ | refine c_rt ?_ | refine c_bk ?_ | refine c_ct ?_ | refine c_next ?_ | refine c_drop ?_ | refine c_un ?_ | refine c_b ?_ | refine c_and ?_ | refine c_or ?_ | refine c_not ?_ | refine c_andV ?_ | refine c_orV ?_ | refine c_notV ?_ | refine c_if ?_
  | refine c_tup ?_ | refine c_lst ?_ | refine c_sl ?_ | refine c_noPart ?_ | refine c_part ?_ | refine c_bm ?_ | refine c_bm0 ?_ | refine c_m0 ?_ | refine c_m1 ?_ | refine c_chain ?_ | refine c_retN ?_ | refine c_gCons ?_ | refine c_gNil ?_ | refine c_gSub ?_
  | refine c_I0 ?_ | refine c_U ?_ | refine c_eq (by with_unfolding_all rfl) ?_ | refine c_ne (by with_unfolding_all rfl) ?_ | refine c_yes ?_ | refine c_forS ?_ | refine c_lcSi ?_ | refine c_forR1 ?_ | refine c_forR2 ?_ | refine c_forL ?_ | refine c_forT ?_ | refine c_lcR1 ?_ | refine c_lcLi ?_ | refine c_lcTi ?_ | refine c_forE ?_ | refine c_lcZi ?_ | refine c_xfv ?_ | refine c_mkv ?_ | refine c_mp ?_ | refine c_fld ?_ | refine c_sfld ?_ | refine c_make ?_ | refine c_ckw ?_ | refine c_sdput ?_ | refine c_dget ?_ | refine c_callS ?_ | refine c_xf ?_ | refine c_mko ?_ | refine c_mps ?_ | refine c_lcK ?_ | refine c_forK ?_ | refine c_dpop ?_ | refine c_dget2 ?_ | refine c_dget1 ?_ | refine c_forIt ?_ | refine c_listIt ?_ | refine c_break ?_ | refine c_cont ?_ | refine c_orT ?_ | refine c_andT ?_ | refine c_notT ?_ | refine iteT ?_ | refine iteF ?_ | refine if_nt ?_ | refine if_nf ?_
  | refine ⟨_, rfl, ?_⟩ | refine ⟨_, _, rfl, rfl, ?_⟩ | refine And.intro rfl ?_))
local macro_rules | `(tactic| walk_at "ss") => `(tactic| repeat (walk_at "s"))

namespace Toy
open PySem L2
open Evl hiding RetV RetL
def top (i : Nat) : Stmt := PySem.Challenge.pw_beatrows_k64_ways_told.main.body.getD i (.Pass ⟨0, 0, 0, 0⟩)
abbrev s_Unknown_init : Stmt := (cBody (top 9)).getD 0 (.Pass ⟨0, 0, 0, 0⟩)
abbrev s_names_in : Stmt := top 13
abbrev s_told_by : Stmt := top 14
abbrev s_mentioned_now : Stmt := top 15
abbrev s_names_of : Stmt := top 16
abbrev s_reads_of : Stmt := top 17
abbrev s_need_known : Stmt := top 18
abbrev s_steps_from : Stmt := top 19
abbrev s_reached_from : Stmt := top 20
abbrev s_way_between : Stmt := top 21
abbrev s_is_way : Stmt := top 23
abbrev s_is_whole : Stmt := top 30
abbrev s_is_within : Stmt := top 31
abbrev s_is_name : Stmt := top 32
abbrev s_is_pointed : Stmt := top 33
abbrev s_is_value : Stmt := top 34
abbrev s_ops_told : Stmt := top 38
abbrev s_Term_parts : Stmt := (cBody (top 41)).getD 0 (.Pass ⟨0, 0, 0, 0⟩)
abbrev s_Term_names : Stmt := (cBody (top 41)).getD 1 (.Pass ⟨0, 0, 0, 0⟩)
abbrev s_Term_levels : Stmt := (cBody (top 41)).getD 2 (.Pass ⟨0, 0, 0, 0⟩)
abbrev s_need_term : Stmt := top 42
abbrev s_Name_init : Stmt := (cBody (top 43)).getD 0 (.Pass ⟨0, 0, 0, 0⟩)
abbrev s_Name_names : Stmt := (cBody (top 43)).getD 1 (.Pass ⟨0, 0, 0, 0⟩)
abbrev s_Name_told : Stmt := (cBody (top 43)).getD 4 (.Pass ⟨0, 0, 0, 0⟩)
abbrev s_Value_init : Stmt := (cBody (top 44)).getD 0 (.Pass ⟨0, 0, 0, 0⟩)
abbrev s_Value_told : Stmt := (cBody (top 44)).getD 2 (.Pass ⟨0, 0, 0, 0⟩)
abbrev s_Two_init : Stmt := (cBody (top 45)).getD 0 (.Pass ⟨0, 0, 0, 0⟩)
abbrev s_Two_parts : Stmt := (cBody (top 45)).getD 1 (.Pass ⟨0, 0, 0, 0⟩)
abbrev s_Two_told : Stmt := (cBody (top 45)).getD 4 (.Pass ⟨0, 0, 0, 0⟩)
abbrev s_Not_init : Stmt := (cBody (top 46)).getD 0 (.Pass ⟨0, 0, 0, 0⟩)
abbrev s_Not_parts : Stmt := (cBody (top 46)).getD 1 (.Pass ⟨0, 0, 0, 0⟩)
abbrev s_Not_told : Stmt := (cBody (top 46)).getD 4 (.Pass ⟨0, 0, 0, 0⟩)
abbrev s_Pick_init : Stmt := (cBody (top 47)).getD 0 (.Pass ⟨0, 0, 0, 0⟩)
abbrev s_Pick_parts : Stmt := (cBody (top 47)).getD 1 (.Pass ⟨0, 0, 0, 0⟩)
abbrev s_Pick_told : Stmt := (cBody (top 47)).getD 4 (.Pass ⟨0, 0, 0, 0⟩)
abbrev s_simple_of : Stmt := top 48
abbrev s_made_of_told : Stmt := top 49
abbrev s_term_of : Stmt := top 50
abbrev s_each_once : Stmt := top 52
abbrev s_Equation_init : Stmt := (cBody (top 53)).getD 0 (.Pass ⟨0, 0, 0, 0⟩)
abbrev s_Equation_told : Stmt := (cBody (top 53)).getD 1 (.Pass ⟨0, 0, 0, 0⟩)
abbrev s_Equation_tells : Stmt := (cBody (top 53)).getD 2 (.Pass ⟨0, 0, 0, 0⟩)
abbrev s_Equation_names : Stmt := (cBody (top 53)).getD 3 (.Pass ⟨0, 0, 0, 0⟩)
abbrev s_Equation_term : Stmt := (cBody (top 53)).getD 4 (.Pass ⟨0, 0, 0, 0⟩)
abbrev s_Plain_init : Stmt := (cBody (top 54)).getD 0 (.Pass ⟨0, 0, 0, 0⟩)
abbrev s_Plain_names : Stmt := (cBody (top 54)).getD 1 (.Pass ⟨0, 0, 0, 0⟩)
abbrev s_Plain_term : Stmt := (cBody (top 54)).getD 2 (.Pass ⟨0, 0, 0, 0⟩)
abbrev s_When_names : Stmt := (cBody (top 56)).getD 0 (.Pass ⟨0, 0, 0, 0⟩)
abbrev s_Same_tells : Stmt := (cBody (top 59)).getD 0 (.Pass ⟨0, 0, 0, 0⟩)
abbrev s_Same_names : Stmt := (cBody (top 59)).getD 1 (.Pass ⟨0, 0, 0, 0⟩)
abbrev s_Call_tells : Stmt := (cBody (top 60)).getD 0 (.Pass ⟨0, 0, 0, 0⟩)
abbrev s_Call_names : Stmt := (cBody (top 60)).getD 1 (.Pass ⟨0, 0, 0, 0⟩)
abbrev s_are_pointed : Stmt := top 61
abbrev s_is_valued : Stmt := top 62
abbrev s_plain_of : Stmt := top 63
abbrev s_valued_of : Stmt := top 64
abbrev s_call_of : Stmt := top 65
abbrev s_made_of : Stmt := top 66
abbrev s_equation_of : Stmt := top 67
abbrev s_need_names : Stmt := top 70
abbrev s_equations_of : Stmt := top 71
abbrev s_Node_init : Stmt := (cBody (top 72)).getD 0 (.Pass ⟨0, 0, 0, 0⟩)
abbrev s_Node_take_tellers : Stmt := (cBody (top 72)).getD 1 (.Pass ⟨0, 0, 0, 0⟩)
abbrev s_Node_need_told : Stmt := (cBody (top 72)).getD 2 (.Pass ⟨0, 0, 0, 0⟩)
abbrev s_Node_told : Stmt := (cBody (top 72)).getD 9 (.Pass ⟨0, 0, 0, 0⟩)
abbrev s_node_of : Stmt := top 73
abbrev s_cell_at_l : Stmt := top 75
abbrev s_box_l : Stmt := top 76
abbrev s_take_l : Stmt := top 77
abbrev s_mixed_l : Stmt := top 79
abbrev s_names_l : Stmt := top 80
abbrev s_value_l : Stmt := top 81
abbrev s_term_l : Stmt := top 82
abbrev s_slower_l : Stmt := top 83
abbrev s_round_l : Stmt := top 84
abbrev s_back_l : Stmt := top 85
abbrev s_some_l : Stmt := top 86
abbrev s_told_by_l : Stmt := top 87
abbrev s_drawn_l : Stmt := top 88
abbrev s_many_l : Stmt := top 89
abbrev s_within_l : Stmt := top 90
abbrev s_reads_l : Stmt := top 91
abbrev s_is_row_l : Stmt := top 93
abbrev s_far_l : Stmt := top 96
abbrev s_refused_l : Stmt := top 97
abbrev s_way_right_l : Stmt := top 98
abbrev s_law : Stmt := top 99
/-- where the defs stand -/
structure Adr where
  f_Unknown_init : Addr
  fd_Unknown_init : FuncData
  f_names_in : Addr
  fd_names_in : FuncData
  f_told_by : Addr
  fd_told_by : FuncData
  f_mentioned_now : Addr
  fd_mentioned_now : FuncData
  f_names_of : Addr
  fd_names_of : FuncData
  f_reads_of : Addr
  fd_reads_of : FuncData
  f_need_known : Addr
  fd_need_known : FuncData
  f_steps_from : Addr
  fd_steps_from : FuncData
  f_reached_from : Addr
  fd_reached_from : FuncData
  f_way_between : Addr
  fd_way_between : FuncData
  f_is_way : Addr
  fd_is_way : FuncData
  f_is_whole : Addr
  fd_is_whole : FuncData
  f_is_within : Addr
  fd_is_within : FuncData
  f_is_name : Addr
  fd_is_name : FuncData
  f_is_pointed : Addr
  fd_is_pointed : FuncData
  f_is_value : Addr
  fd_is_value : FuncData
  f_ops_told : Addr
  fd_ops_told : FuncData
  f_Term_parts : Addr
  fd_Term_parts : FuncData
  f_Term_names : Addr
  fd_Term_names : FuncData
  f_Term_levels : Addr
  fd_Term_levels : FuncData
  f_need_term : Addr
  fd_need_term : FuncData
  f_Name_init : Addr
  fd_Name_init : FuncData
  f_Name_names : Addr
  fd_Name_names : FuncData
  f_Name_told : Addr
  fd_Name_told : FuncData
  f_Value_init : Addr
  fd_Value_init : FuncData
  f_Value_told : Addr
  fd_Value_told : FuncData
  f_Two_init : Addr
  fd_Two_init : FuncData
  f_Two_parts : Addr
  fd_Two_parts : FuncData
  f_Two_told : Addr
  fd_Two_told : FuncData
  f_Not_init : Addr
  fd_Not_init : FuncData
  f_Not_parts : Addr
  fd_Not_parts : FuncData
  f_Not_told : Addr
  fd_Not_told : FuncData
  f_Pick_init : Addr
  fd_Pick_init : FuncData
  f_Pick_parts : Addr
  fd_Pick_parts : FuncData
  f_Pick_told : Addr
  fd_Pick_told : FuncData
  f_simple_of : Addr
  fd_simple_of : FuncData
  f_made_of_told : Addr
  fd_made_of_told : FuncData
  f_term_of : Addr
  fd_term_of : FuncData
  f_each_once : Addr
  fd_each_once : FuncData
  f_Equation_init : Addr
  fd_Equation_init : FuncData
  f_Equation_told : Addr
  fd_Equation_told : FuncData
  f_Equation_tells : Addr
  fd_Equation_tells : FuncData
  f_Equation_names : Addr
  fd_Equation_names : FuncData
  f_Equation_term : Addr
  fd_Equation_term : FuncData
  f_Plain_init : Addr
  fd_Plain_init : FuncData
  f_Plain_names : Addr
  fd_Plain_names : FuncData
  f_Plain_term : Addr
  fd_Plain_term : FuncData
  f_When_names : Addr
  fd_When_names : FuncData
  f_Same_tells : Addr
  fd_Same_tells : FuncData
  f_Same_names : Addr
  fd_Same_names : FuncData
  f_Call_tells : Addr
  fd_Call_tells : FuncData
  f_Call_names : Addr
  fd_Call_names : FuncData
  f_are_pointed : Addr
  fd_are_pointed : FuncData
  f_is_valued : Addr
  fd_is_valued : FuncData
  f_plain_of : Addr
  fd_plain_of : FuncData
  f_valued_of : Addr
  fd_valued_of : FuncData
  f_call_of : Addr
  fd_call_of : FuncData
  f_made_of : Addr
  fd_made_of : FuncData
  f_equation_of : Addr
  fd_equation_of : FuncData
  f_need_names : Addr
  fd_need_names : FuncData
  f_equations_of : Addr
  fd_equations_of : FuncData
  f_Node_init : Addr
  fd_Node_init : FuncData
  f_Node_take_tellers : Addr
  fd_Node_take_tellers : FuncData
  f_Node_need_told : Addr
  fd_Node_need_told : FuncData
  f_Node_told : Addr
  fd_Node_told : FuncData
  f_node_of : Addr
  fd_node_of : FuncData
  f_cell_at_l : Addr
  fd_cell_at_l : FuncData
  f_box_l : Addr
  fd_box_l : FuncData
  f_take_l : Addr
  fd_take_l : FuncData
  f_mixed_l : Addr
  fd_mixed_l : FuncData
  f_names_l : Addr
  fd_names_l : FuncData
  f_value_l : Addr
  fd_value_l : FuncData
  f_term_l : Addr
  fd_term_l : FuncData
  f_slower_l : Addr
  fd_slower_l : FuncData
  f_round_l : Addr
  fd_round_l : FuncData
  f_back_l : Addr
  fd_back_l : FuncData
  f_some_l : Addr
  fd_some_l : FuncData
  f_told_by_l : Addr
  fd_told_by_l : FuncData
  f_drawn_l : Addr
  fd_drawn_l : FuncData
  f_many_l : Addr
  fd_many_l : FuncData
  f_within_l : Addr
  fd_within_l : FuncData
  f_reads_l : Addr
  fd_reads_l : FuncData
  f_is_row_l : Addr
  fd_is_row_l : FuncData
  f_far_l : Addr
  fd_far_l : FuncData
  f_refused_l : Addr
  fd_refused_l : FuncData
  f_way_right_l : Addr
  fd_way_right_l : FuncData
  f_law : Addr
  fd_law : FuncData
  a_OPS : Addr
  a_OWN : Addr
  c_BeatError : Addr
  c_Unknown : Addr
  c_Term : Addr
  c_Name : Addr
  c_Value : Addr
  c_Two : Addr
  c_Not : Addr
  c_Pick : Addr
  c_Equation : Addr
  c_Plain : Addr
  c_Before : Addr
  c_When : Addr
  c_Hold : Addr
  c_Like : Addr
  c_Same : Addr
  c_Call : Addr
  c_Node : Addr
structure Txt (K : PySem.W.Frag) (mg : Str → Option Value) (Z : Adr) : Prop where
  F_Unknown_init : Fun K "__init__" "Unknown.__init__" s_Unknown_init Z.f_Unknown_init Z.fd_Unknown_init
  b_Unknown_init : Binds K Z.fd_Unknown_init ["self", "name"] []
  F_names_in : Fun K "names_in" "names_in" s_names_in Z.f_names_in Z.fd_names_in
  b_names_in : Binds K Z.fd_names_in ["term"] []
  g_names_in : mg "names_in" = some (.ref Z.f_names_in)
  F_told_by : Fun K "told_by" "told_by" s_told_by Z.f_told_by Z.fd_told_by
  b_told_by : Binds K Z.fd_told_by ["row"] []
  g_told_by : mg "told_by" = some (.ref Z.f_told_by)
  F_mentioned_now : Fun K "mentioned_now" "mentioned_now" s_mentioned_now Z.f_mentioned_now Z.fd_mentioned_now
  b_mentioned_now : Binds K Z.fd_mentioned_now ["row"] []
  g_mentioned_now : mg "mentioned_now" = some (.ref Z.f_mentioned_now)
  F_names_of : Fun K "names_of" "names_of" s_names_of Z.f_names_of Z.fd_names_of
  b_names_of : Binds K Z.fd_names_of ["node"] []
  g_names_of : mg "names_of" = some (.ref Z.f_names_of)
  F_reads_of : Fun K "reads_of" "reads_of" s_reads_of Z.f_reads_of Z.fd_reads_of
  b_reads_of : Binds K Z.fd_reads_of ["node", "clocks"] []
  g_reads_of : mg "reads_of" = some (.ref Z.f_reads_of)
  F_need_known : Fun K "need_known" "need_known" s_need_known Z.f_need_known Z.fd_need_known
  b_need_known : Binds K Z.fd_need_known ["reads", "name"] []
  g_need_known : mg "need_known" = some (.ref Z.f_need_known)
  F_steps_from : Fun K "steps_from" "steps_from" s_steps_from Z.f_steps_from Z.fd_steps_from
  b_steps_from : Binds K Z.fd_steps_from ["reads", "name"] []
  g_steps_from : mg "steps_from" = some (.ref Z.f_steps_from)
  F_reached_from : Fun K "reached_from" "reached_from" s_reached_from Z.f_reached_from Z.fd_reached_from
  b_reached_from : Binds K Z.fd_reached_from ["node", "clocks", "name"] []
  g_reached_from : mg "reached_from" = some (.ref Z.f_reached_from)
  F_way_between : Fun K "way_between" "way_between" s_way_between Z.f_way_between Z.fd_way_between
  b_way_between : Binds K Z.fd_way_between ["node", "clocks", "one", "other"] []
  g_way_between : mg "way_between" = some (.ref Z.f_way_between)
  F_is_way : Fun K "is_way" "is_way" s_is_way Z.f_is_way Z.fd_is_way
  b_is_way : Binds K Z.fd_is_way ["node", "clocks", "one", "other", "thing"] []
  g_is_way : mg "is_way" = some (.ref Z.f_is_way)
  F_is_whole : Fun K "is_whole" "is_whole" s_is_whole Z.f_is_whole Z.fd_is_whole
  b_is_whole : Binds K Z.fd_is_whole ["thing"] []
  g_is_whole : mg "is_whole" = some (.ref Z.f_is_whole)
  F_is_within : Fun K "is_within" "is_within" s_is_within Z.f_is_within Z.fd_is_within
  b_is_within : Binds K Z.fd_is_within ["thing", "low", "high"] []
  g_is_within : mg "is_within" = some (.ref Z.f_is_within)
  F_is_name : Fun K "is_name" "is_name" s_is_name Z.f_is_name Z.fd_is_name
  b_is_name : Binds K Z.fd_is_name ["thing"] []
  g_is_name : mg "is_name" = some (.ref Z.f_is_name)
  F_is_pointed : Fun K "is_pointed" "is_pointed" s_is_pointed Z.f_is_pointed Z.fd_is_pointed
  b_is_pointed : Binds K Z.fd_is_pointed ["thing"] []
  g_is_pointed : mg "is_pointed" = some (.ref Z.f_is_pointed)
  F_is_value : Fun K "is_value" "is_value" s_is_value Z.f_is_value Z.fd_is_value
  b_is_value : Binds K Z.fd_is_value ["thing"] []
  g_is_value : mg "is_value" = some (.ref Z.f_is_value)
  F_ops_told : Fun K "ops_told" "ops_told" s_ops_told Z.f_ops_told Z.fd_ops_told
  b_ops_told : Binds K Z.fd_ops_told [] []
  g_ops_told : mg "ops_told" = some (.ref Z.f_ops_told)
  F_Term_parts : Fun K "parts" "Term.parts" s_Term_parts Z.f_Term_parts Z.fd_Term_parts
  b_Term_parts : Binds K Z.fd_Term_parts ["self"] []
  y_Term_parts : PySem.W.isFn K (.ref Z.f_Term_parts) = true
  F_Term_names : Fun K "names" "Term.names" s_Term_names Z.f_Term_names Z.fd_Term_names
  b_Term_names : Binds K Z.fd_Term_names ["self"] []
  y_Term_names : PySem.W.isFn K (.ref Z.f_Term_names) = true
  F_Term_levels : Fun K "levels" "Term.levels" s_Term_levels Z.f_Term_levels Z.fd_Term_levels
  b_Term_levels : Binds K Z.fd_Term_levels ["self"] []
  y_Term_levels : PySem.W.isFn K (.ref Z.f_Term_levels) = true
  F_need_term : Fun K "need_term" "need_term" s_need_term Z.f_need_term Z.fd_need_term
  b_need_term : Binds K Z.fd_need_term ["thing"] []
  g_need_term : mg "need_term" = some (.ref Z.f_need_term)
  F_Name_init : Fun K "__init__" "Name.__init__" s_Name_init Z.f_Name_init Z.fd_Name_init
  b_Name_init : Binds K Z.fd_Name_init ["self", "name"] []
  y_Name_init : PySem.W.isFn K (.ref Z.f_Name_init) = true
  F_Name_names : Fun K "names" "Name.names" s_Name_names Z.f_Name_names Z.fd_Name_names
  b_Name_names : Binds K Z.fd_Name_names ["self"] []
  y_Name_names : PySem.W.isFn K (.ref Z.f_Name_names) = true
  F_Name_told : Fun K "told" "Name.told" s_Name_told Z.f_Name_told Z.fd_Name_told
  b_Name_told : Binds K Z.fd_Name_told ["self"] []
  y_Name_told : PySem.W.isFn K (.ref Z.f_Name_told) = true
  F_Value_init : Fun K "__init__" "Value.__init__" s_Value_init Z.f_Value_init Z.fd_Value_init
  b_Value_init : Binds K Z.fd_Value_init ["self", "value"] []
  y_Value_init : PySem.W.isFn K (.ref Z.f_Value_init) = true
  F_Value_told : Fun K "told" "Value.told" s_Value_told Z.f_Value_told Z.fd_Value_told
  b_Value_told : Binds K Z.fd_Value_told ["self"] []
  y_Value_told : PySem.W.isFn K (.ref Z.f_Value_told) = true
  F_Two_init : Fun K "__init__" "Two.__init__" s_Two_init Z.f_Two_init Z.fd_Two_init
  b_Two_init : Binds K Z.fd_Two_init ["self", "op", "one", "other"] []
  y_Two_init : PySem.W.isFn K (.ref Z.f_Two_init) = true
  F_Two_parts : Fun K "parts" "Two.parts" s_Two_parts Z.f_Two_parts Z.fd_Two_parts
  b_Two_parts : Binds K Z.fd_Two_parts ["self"] []
  y_Two_parts : PySem.W.isFn K (.ref Z.f_Two_parts) = true
  F_Two_told : Fun K "told" "Two.told" s_Two_told Z.f_Two_told Z.fd_Two_told
  b_Two_told : Binds K Z.fd_Two_told ["self"] []
  y_Two_told : PySem.W.isFn K (.ref Z.f_Two_told) = true
  F_Not_init : Fun K "__init__" "Not.__init__" s_Not_init Z.f_Not_init Z.fd_Not_init
  b_Not_init : Binds K Z.fd_Not_init ["self", "one"] []
  y_Not_init : PySem.W.isFn K (.ref Z.f_Not_init) = true
  F_Not_parts : Fun K "parts" "Not.parts" s_Not_parts Z.f_Not_parts Z.fd_Not_parts
  b_Not_parts : Binds K Z.fd_Not_parts ["self"] []
  y_Not_parts : PySem.W.isFn K (.ref Z.f_Not_parts) = true
  F_Not_told : Fun K "told" "Not.told" s_Not_told Z.f_Not_told Z.fd_Not_told
  b_Not_told : Binds K Z.fd_Not_told ["self"] []
  y_Not_told : PySem.W.isFn K (.ref Z.f_Not_told) = true
  F_Pick_init : Fun K "__init__" "Pick.__init__" s_Pick_init Z.f_Pick_init Z.fd_Pick_init
  b_Pick_init : Binds K Z.fd_Pick_init ["self", "by", "one", "other"] []
  y_Pick_init : PySem.W.isFn K (.ref Z.f_Pick_init) = true
  F_Pick_parts : Fun K "parts" "Pick.parts" s_Pick_parts Z.f_Pick_parts Z.fd_Pick_parts
  b_Pick_parts : Binds K Z.fd_Pick_parts ["self"] []
  y_Pick_parts : PySem.W.isFn K (.ref Z.f_Pick_parts) = true
  F_Pick_told : Fun K "told" "Pick.told" s_Pick_told Z.f_Pick_told Z.fd_Pick_told
  b_Pick_told : Binds K Z.fd_Pick_told ["self"] []
  y_Pick_told : PySem.W.isFn K (.ref Z.f_Pick_told) = true
  F_simple_of : Fun K "simple_of" "simple_of" s_simple_of Z.f_simple_of Z.fd_simple_of
  b_simple_of : Binds K Z.fd_simple_of ["word", "thing"] []
  g_simple_of : mg "simple_of" = some (.ref Z.f_simple_of)
  F_made_of_told : Fun K "made_of_told" "made_of_told" s_made_of_told Z.f_made_of_told Z.fd_made_of_told
  b_made_of_told : Binds K Z.fd_made_of_told ["told", "left"] []
  g_made_of_told : mg "made_of_told" = some (.ref Z.f_made_of_told)
  F_term_of : Fun K "term_of" "term_of" s_term_of Z.f_term_of Z.fd_term_of
  b_term_of : Binds K Z.fd_term_of ["told"] []
  g_term_of : mg "term_of" = some (.ref Z.f_term_of)
  F_each_once : Fun K "each_once" "each_once" s_each_once Z.f_each_once Z.fd_each_once
  b_each_once : Binds K Z.fd_each_once ["names"] []
  g_each_once : mg "each_once" = some (.ref Z.f_each_once)
  F_Equation_init : Fun K "__init__" "Equation.__init__" s_Equation_init Z.f_Equation_init Z.fd_Equation_init
  b_Equation_init : Binds K Z.fd_Equation_init ["self", "row"] []
  y_Equation_init : PySem.W.isFn K (.ref Z.f_Equation_init) = true
  F_Equation_told : Fun K "told" "Equation.told" s_Equation_told Z.f_Equation_told Z.fd_Equation_told
  b_Equation_told : Binds K Z.fd_Equation_told ["self"] []
  y_Equation_told : PySem.W.isFn K (.ref Z.f_Equation_told) = true
  F_Equation_tells : Fun K "tells" "Equation.tells" s_Equation_tells Z.f_Equation_tells Z.fd_Equation_tells
  b_Equation_tells : Binds K Z.fd_Equation_tells ["self"] []
  y_Equation_tells : PySem.W.isFn K (.ref Z.f_Equation_tells) = true
  F_Equation_names : Fun K "names" "Equation.names" s_Equation_names Z.f_Equation_names Z.fd_Equation_names
  b_Equation_names : Binds K Z.fd_Equation_names ["self"] []
  y_Equation_names : PySem.W.isFn K (.ref Z.f_Equation_names) = true
  F_Equation_term : Fun K "term" "Equation.term" s_Equation_term Z.f_Equation_term Z.fd_Equation_term
  b_Equation_term : Binds K Z.fd_Equation_term ["self"] []
  y_Equation_term : PySem.W.isFn K (.ref Z.f_Equation_term) = true
  F_Plain_init : Fun K "__init__" "Plain.__init__" s_Plain_init Z.f_Plain_init Z.fd_Plain_init
  b_Plain_init : Binds K Z.fd_Plain_init ["self", "row"] []
  y_Plain_init : PySem.W.isFn K (.ref Z.f_Plain_init) = true
  F_Plain_names : Fun K "names" "Plain.names" s_Plain_names Z.f_Plain_names Z.fd_Plain_names
  b_Plain_names : Binds K Z.fd_Plain_names ["self"] []
  y_Plain_names : PySem.W.isFn K (.ref Z.f_Plain_names) = true
  F_Plain_term : Fun K "term" "Plain.term" s_Plain_term Z.f_Plain_term Z.fd_Plain_term
  b_Plain_term : Binds K Z.fd_Plain_term ["self"] []
  y_Plain_term : PySem.W.isFn K (.ref Z.f_Plain_term) = true
  F_When_names : Fun K "names" "When.names" s_When_names Z.f_When_names Z.fd_When_names
  b_When_names : Binds K Z.fd_When_names ["self"] []
  y_When_names : PySem.W.isFn K (.ref Z.f_When_names) = true
  F_Same_tells : Fun K "tells" "Same.tells" s_Same_tells Z.f_Same_tells Z.fd_Same_tells
  b_Same_tells : Binds K Z.fd_Same_tells ["self"] []
  y_Same_tells : PySem.W.isFn K (.ref Z.f_Same_tells) = true
  F_Same_names : Fun K "names" "Same.names" s_Same_names Z.f_Same_names Z.fd_Same_names
  b_Same_names : Binds K Z.fd_Same_names ["self"] []
  y_Same_names : PySem.W.isFn K (.ref Z.f_Same_names) = true
  F_Call_tells : Fun K "tells" "Call.tells" s_Call_tells Z.f_Call_tells Z.fd_Call_tells
  b_Call_tells : Binds K Z.fd_Call_tells ["self"] []
  y_Call_tells : PySem.W.isFn K (.ref Z.f_Call_tells) = true
  F_Call_names : Fun K "names" "Call.names" s_Call_names Z.f_Call_names Z.fd_Call_names
  b_Call_names : Binds K Z.fd_Call_names ["self"] []
  y_Call_names : PySem.W.isFn K (.ref Z.f_Call_names) = true
  F_are_pointed : Fun K "are_pointed" "are_pointed" s_are_pointed Z.f_are_pointed Z.fd_are_pointed
  b_are_pointed : Binds K Z.fd_are_pointed ["thing", "least"] []
  g_are_pointed : mg "are_pointed" = some (.ref Z.f_are_pointed)
  F_is_valued : Fun K "is_valued" "is_valued" s_is_valued Z.f_is_valued Z.fd_is_valued
  b_is_valued : Binds K Z.fd_is_valued ["row"] []
  g_is_valued : mg "is_valued" = some (.ref Z.f_is_valued)
  F_plain_of : Fun K "plain_of" "plain_of" s_plain_of Z.f_plain_of Z.fd_plain_of
  b_plain_of : Binds K Z.fd_plain_of ["row"] []
  g_plain_of : mg "plain_of" = some (.ref Z.f_plain_of)
  F_valued_of : Fun K "valued_of" "valued_of" s_valued_of Z.f_valued_of Z.fd_valued_of
  b_valued_of : Binds K Z.fd_valued_of ["row"] []
  g_valued_of : mg "valued_of" = some (.ref Z.f_valued_of)
  F_call_of : Fun K "call_of" "call_of" s_call_of Z.f_call_of Z.fd_call_of
  b_call_of : Binds K Z.fd_call_of ["row"] []
  g_call_of : mg "call_of" = some (.ref Z.f_call_of)
  F_made_of : Fun K "made_of" "made_of" s_made_of Z.f_made_of Z.fd_made_of
  b_made_of : Binds K Z.fd_made_of ["row"] []
  g_made_of : mg "made_of" = some (.ref Z.f_made_of)
  F_equation_of : Fun K "equation_of" "equation_of" s_equation_of Z.f_equation_of Z.fd_equation_of
  b_equation_of : Binds K Z.fd_equation_of ["told"] []
  g_equation_of : mg "equation_of" = some (.ref Z.f_equation_of)
  F_need_names : Fun K "need_names" "need_names" s_need_names Z.f_need_names Z.fd_need_names
  b_need_names : Binds K Z.fd_need_names ["things"] []
  g_need_names : mg "need_names" = some (.ref Z.f_need_names)
  F_equations_of : Fun K "equations_of" "equations_of" s_equations_of Z.f_equations_of Z.fd_equations_of
  b_equations_of : Binds K Z.fd_equations_of ["rows"] []
  g_equations_of : mg "equations_of" = some (.ref Z.f_equations_of)
  F_Node_init : Fun K "__init__" "Node.__init__" s_Node_init Z.f_Node_init Z.fd_Node_init
  b_Node_init : Binds K Z.fd_Node_init ["self", "name", "inputs", "outs", "rows"] []
  y_Node_init : PySem.W.isFn K (.ref Z.f_Node_init) = true
  F_Node_take_tellers : Fun K "take_tellers" "Node.take_tellers" s_Node_take_tellers Z.f_Node_take_tellers Z.fd_Node_take_tellers
  b_Node_take_tellers : Binds K Z.fd_Node_take_tellers ["self"] []
  y_Node_take_tellers : PySem.W.isFn K (.ref Z.f_Node_take_tellers) = true
  F_Node_need_told : Fun K "need_told" "Node.need_told" s_Node_need_told Z.f_Node_need_told Z.fd_Node_need_told
  b_Node_need_told : Binds K Z.fd_Node_need_told ["self"] []
  y_Node_need_told : PySem.W.isFn K (.ref Z.f_Node_need_told) = true
  F_Node_told : Fun K "told" "Node.told" s_Node_told Z.f_Node_told Z.fd_Node_told
  b_Node_told : Binds K Z.fd_Node_told ["self"] []
  y_Node_told : PySem.W.isFn K (.ref Z.f_Node_told) = true
  F_node_of : Fun K "node_of" "node_of" s_node_of Z.f_node_of Z.fd_node_of
  b_node_of : Binds K Z.fd_node_of ["told"] []
  g_node_of : mg "node_of" = some (.ref Z.f_node_of)
  F_cell_at_l : Fun K "_law_cell_at" "_law_cell_at" s_cell_at_l Z.f_cell_at_l Z.fd_cell_at_l
  b_cell_at_l : Binds K Z.fd_cell_at_l ["_law_script", "_law_k"] []
  g_cell_at_l : mg "_law_cell_at" = some (.ref Z.f_cell_at_l)
  F_box_l : Fun K "_law_box" "_law_box" s_box_l Z.f_box_l Z.fd_box_l
  b_box_l : Binds K Z.fd_box_l ["_law_cell"] []
  g_box_l : mg "_law_box" = some (.ref Z.f_box_l)
  F_take_l : Fun K "_law_take" "_law_take" s_take_l Z.f_take_l Z.fd_take_l
  b_take_l : Binds K Z.fd_take_l ["_law_box_here", "_law_many_here"] []
  g_take_l : mg "_law_take" = some (.ref Z.f_take_l)
  F_mixed_l : Fun K "_law_mixed" "_law_mixed" s_mixed_l Z.f_mixed_l Z.fd_mixed_l
  b_mixed_l : Binds K Z.fd_mixed_l ["_law_box_here", "_law_some_here"] []
  g_mixed_l : mg "_law_mixed" = some (.ref Z.f_mixed_l)
  F_names_l : Fun K "_law_names" "_law_names" s_names_l Z.f_names_l Z.fd_names_l
  b_names_l : Binds K Z.fd_names_l ["_law_box_here", "_law_many_here"] []
  g_names_l : mg "_law_names" = some (.ref Z.f_names_l)
  F_value_l : Fun K "_law_value" "_law_value" s_value_l Z.f_value_l Z.fd_value_l
  b_value_l : Binds K Z.fd_value_l ["_law_box_here"] []
  g_value_l : mg "_law_value" = some (.ref Z.f_value_l)
  F_term_l : Fun K "_law_term" "_law_term" s_term_l Z.f_term_l Z.fd_term_l
  b_term_l : Binds K Z.fd_term_l ["_law_box_here", "_law_one", "_law_other"] []
  g_term_l : mg "_law_term" = some (.ref Z.f_term_l)
  F_slower_l : Fun K "_law_slower" "_law_slower" s_slower_l Z.f_slower_l Z.fd_slower_l
  b_slower_l : Binds K Z.fd_slower_l ["_law_box_here", "_law_left", "_law_clocks", "_law_base", "_law_mate"] []
  g_slower_l : mg "_law_slower" = some (.ref Z.f_slower_l)
  F_round_l : Fun K "_law_round" "_law_round" s_round_l Z.f_round_l Z.fd_round_l
  b_round_l : Binds K Z.fd_round_l ["_law_box_here", "_law_left", "_law_clocks", "_law_base", "_law_ring"] []
  g_round_l : mg "_law_round" = some (.ref Z.f_round_l)
  F_back_l : Fun K "_law_back" "_law_back" s_back_l Z.f_back_l Z.fd_back_l
  b_back_l : Binds K Z.fd_back_l ["_law_box_here", "_law_left", "_law_clocks", "_law_base", "_law_loops"] []
  g_back_l : mg "_law_back" = some (.ref Z.f_back_l)
  F_some_l : Fun K "_law_some" "_law_some" s_some_l Z.f_some_l Z.fd_some_l
  b_some_l : Binds K Z.fd_some_l ["_law_box_here", "_law_left", "_law_clocks", "_law_loops"] []
  g_some_l : mg "_law_some" = some (.ref Z.f_some_l)
  F_told_by_l : Fun K "_law_told_by" "_law_told_by" s_told_by_l Z.f_told_by_l Z.fd_told_by_l
  b_told_by_l : Binds K Z.fd_told_by_l ["_law_row"] []
  g_told_by_l : mg "_law_told_by" = some (.ref Z.f_told_by_l)
  F_drawn_l : Fun K "_law_drawn" "_law_drawn" s_drawn_l Z.f_drawn_l Z.fd_drawn_l
  b_drawn_l : Binds K Z.fd_drawn_l ["_law_box_here", "_law_many_here", "_law_loops"] []
  g_drawn_l : mg "_law_drawn" = some (.ref Z.f_drawn_l)
  F_many_l : Fun K "_law_many" "_law_many" s_many_l Z.f_many_l Z.fd_many_l
  b_many_l : Binds K Z.fd_many_l ["_law_box_here"] []
  g_many_l : mg "_law_many" = some (.ref Z.f_many_l)
  F_within_l : Fun K "_law_within" "_law_within" s_within_l Z.f_within_l Z.fd_within_l
  b_within_l : Binds K Z.fd_within_l ["_law_term_here"] []
  g_within_l : mg "_law_within" = some (.ref Z.f_within_l)
  F_reads_l : Fun K "_law_reads" "_law_reads" s_reads_l Z.f_reads_l Z.fd_reads_l
  b_reads_l : Binds K Z.fd_reads_l ["_law_told", "_law_clocks"] []
  g_reads_l : mg "_law_reads" = some (.ref Z.f_reads_l)
  F_is_row_l : Fun K "_law_is_row" "_law_is_row" s_is_row_l Z.f_is_row_l Z.fd_is_row_l
  b_is_row_l : Binds K Z.fd_is_row_l ["_law_reads_here", "_law_thing"] []
  g_is_row_l : mg "_law_is_row" = some (.ref Z.f_is_row_l)
  F_far_l : Fun K "_law_far" "_law_far" s_far_l Z.f_far_l Z.fd_far_l
  b_far_l : Binds K Z.fd_far_l ["_law_reads_here", "_law_name"] []
  g_far_l : mg "_law_far" = some (.ref Z.f_far_l)
  F_refused_l : Fun K "_law_refused" "_law_refused" s_refused_l Z.f_refused_l Z.fd_refused_l
  b_refused_l : Binds K Z.fd_refused_l ["_law_way", "_law_node", "_law_clocks", "_law_one", "_law_other", "_law_bad"] []
  g_refused_l : mg "_law_refused" = some (.ref Z.f_refused_l)
  F_way_right_l : Fun K "_law_way_right" "_law_way_right" s_way_right_l Z.f_way_right_l Z.fd_way_right_l
  b_way_right_l : Binds K Z.fd_way_right_l ["_law_node", "_law_clocks", "_law_reads_here", "_law_far_here", "_law_one", "_law_other"] []
  g_way_right_l : mg "_law_way_right" = some (.ref Z.f_way_right_l)
  F_law : Fun K "law" "law" s_law Z.f_law Z.fd_law
  b_law : Binds K Z.fd_law ["_law_script"] []
  g_law : mg "law" = some (.ref Z.f_law)
  m_BeatError : mg "BeatError" = some (.ref Z.c_BeatError)
  q_BeatError : baseB K Z.c_BeatError = true
  e_BeatError : PySem.W.excIn K Z.c_BeatError [.type "ValueError", .type "Exception", .type "BaseException", .type "object"] "ValueError.__new__" = true
  k_BeatError : PySem.W.keepIn K (.ref Z.c_BeatError) = true
  w_BeatError : icB K Z.c_BeatError = true
  m_Unknown : mg "Unknown" = some (.ref Z.c_Unknown)
  x_Unknown : exB K Z.c_Unknown ["name"] = true
  i_Unknown : PySem.W.findIn K (.ref Z.c_Unknown) "__init__" = some (some (.ref Z.f_Unknown_init))
  y_Unknown : PySem.W.typeIn K (.ref Z.f_Unknown_init) = some (.type "function")
  m_Term : mg "Term" = some (.ref Z.c_Term)
  m_Name : mg "Name" = some (.ref Z.c_Name)
  x_Name : tcB K Z.c_Name ["name"] = true
  i_Name : PySem.W.findIn K (.ref Z.c_Name) "__init__" = some (some (.ref Z.f_Name_init))
  h_parts_Name : PySem.W.findIn K (.ref Z.c_Name) "parts" = some (some (.ref Z.f_Term_parts))
  h_names_Name : PySem.W.findIn K (.ref Z.c_Name) "names" = some (some (.ref Z.f_Name_names))
  h_levels_Name : PySem.W.findIn K (.ref Z.c_Name) "levels" = some (some (.ref Z.f_Term_levels))
  h_told_Name : PySem.W.findIn K (.ref Z.c_Name) "told" = some (some (.ref Z.f_Name_told))
  m_Value : mg "Value" = some (.ref Z.c_Value)
  x_Value : tcB K Z.c_Value ["amount"] = true
  i_Value : PySem.W.findIn K (.ref Z.c_Value) "__init__" = some (some (.ref Z.f_Value_init))
  h_parts_Value : PySem.W.findIn K (.ref Z.c_Value) "parts" = some (some (.ref Z.f_Term_parts))
  h_names_Value : PySem.W.findIn K (.ref Z.c_Value) "names" = some (some (.ref Z.f_Term_names))
  h_levels_Value : PySem.W.findIn K (.ref Z.c_Value) "levels" = some (some (.ref Z.f_Term_levels))
  h_told_Value : PySem.W.findIn K (.ref Z.c_Value) "told" = some (some (.ref Z.f_Value_told))
  m_Two : mg "Two" = some (.ref Z.c_Two)
  x_Two : tcB K Z.c_Two ["op", "one", "second"] = true
  i_Two : PySem.W.findIn K (.ref Z.c_Two) "__init__" = some (some (.ref Z.f_Two_init))
  h_parts_Two : PySem.W.findIn K (.ref Z.c_Two) "parts" = some (some (.ref Z.f_Two_parts))
  h_names_Two : PySem.W.findIn K (.ref Z.c_Two) "names" = some (some (.ref Z.f_Term_names))
  h_levels_Two : PySem.W.findIn K (.ref Z.c_Two) "levels" = some (some (.ref Z.f_Term_levels))
  h_told_Two : PySem.W.findIn K (.ref Z.c_Two) "told" = some (some (.ref Z.f_Two_told))
  m_Not : mg "Not" = some (.ref Z.c_Not)
  x_Not : tcB K Z.c_Not ["one"] = true
  i_Not : PySem.W.findIn K (.ref Z.c_Not) "__init__" = some (some (.ref Z.f_Not_init))
  h_parts_Not : PySem.W.findIn K (.ref Z.c_Not) "parts" = some (some (.ref Z.f_Not_parts))
  h_names_Not : PySem.W.findIn K (.ref Z.c_Not) "names" = some (some (.ref Z.f_Term_names))
  h_levels_Not : PySem.W.findIn K (.ref Z.c_Not) "levels" = some (some (.ref Z.f_Term_levels))
  h_told_Not : PySem.W.findIn K (.ref Z.c_Not) "told" = some (some (.ref Z.f_Not_told))
  m_Pick : mg "Pick" = some (.ref Z.c_Pick)
  x_Pick : tcB K Z.c_Pick ["by", "one", "second"] = true
  i_Pick : PySem.W.findIn K (.ref Z.c_Pick) "__init__" = some (some (.ref Z.f_Pick_init))
  h_parts_Pick : PySem.W.findIn K (.ref Z.c_Pick) "parts" = some (some (.ref Z.f_Pick_parts))
  h_names_Pick : PySem.W.findIn K (.ref Z.c_Pick) "names" = some (some (.ref Z.f_Term_names))
  h_levels_Pick : PySem.W.findIn K (.ref Z.c_Pick) "levels" = some (some (.ref Z.f_Term_levels))
  h_told_Pick : PySem.W.findIn K (.ref Z.c_Pick) "told" = some (some (.ref Z.f_Pick_told))
  m_Equation : mg "Equation" = some (.ref Z.c_Equation)
  x_Equation : tcB K Z.c_Equation ["told_row"] = true
  i_Equation : PySem.W.findIn K (.ref Z.c_Equation) "__init__" = some (some (.ref Z.f_Equation_init))
  h_names_Equation : PySem.W.findIn K (.ref Z.c_Equation) "names" = some (some (.ref Z.f_Equation_names))
  h_told_Equation : PySem.W.findIn K (.ref Z.c_Equation) "told" = some (some (.ref Z.f_Equation_told))
  h_tells_Equation : PySem.W.findIn K (.ref Z.c_Equation) "tells" = some (some (.ref Z.f_Equation_tells))
  h_term_Equation : PySem.W.findIn K (.ref Z.c_Equation) "term" = some (some (.ref Z.f_Equation_term))
  m_Plain : mg "Plain" = some (.ref Z.c_Plain)
  x_Plain : tcB K Z.c_Plain ["told_row", "kept_term"] = true
  i_Plain : PySem.W.findIn K (.ref Z.c_Plain) "__init__" = some (some (.ref Z.f_Plain_init))
  h_names_Plain : PySem.W.findIn K (.ref Z.c_Plain) "names" = some (some (.ref Z.f_Plain_names))
  h_told_Plain : PySem.W.findIn K (.ref Z.c_Plain) "told" = some (some (.ref Z.f_Equation_told))
  h_tells_Plain : PySem.W.findIn K (.ref Z.c_Plain) "tells" = some (some (.ref Z.f_Equation_tells))
  h_term_Plain : PySem.W.findIn K (.ref Z.c_Plain) "term" = some (some (.ref Z.f_Plain_term))
  m_Before : mg "Before" = some (.ref Z.c_Before)
  x_Before : tcB K Z.c_Before ["told_row"] = true
  i_Before : PySem.W.findIn K (.ref Z.c_Before) "__init__" = some (some (.ref Z.f_Equation_init))
  h_names_Before : PySem.W.findIn K (.ref Z.c_Before) "names" = some (some (.ref Z.f_Equation_names))
  h_told_Before : PySem.W.findIn K (.ref Z.c_Before) "told" = some (some (.ref Z.f_Equation_told))
  h_tells_Before : PySem.W.findIn K (.ref Z.c_Before) "tells" = some (some (.ref Z.f_Equation_tells))
  h_term_Before : PySem.W.findIn K (.ref Z.c_Before) "term" = some (some (.ref Z.f_Equation_term))
  m_When : mg "When" = some (.ref Z.c_When)
  x_When : tcB K Z.c_When ["told_row"] = true
  i_When : PySem.W.findIn K (.ref Z.c_When) "__init__" = some (some (.ref Z.f_Equation_init))
  h_names_When : PySem.W.findIn K (.ref Z.c_When) "names" = some (some (.ref Z.f_When_names))
  h_told_When : PySem.W.findIn K (.ref Z.c_When) "told" = some (some (.ref Z.f_Equation_told))
  h_tells_When : PySem.W.findIn K (.ref Z.c_When) "tells" = some (some (.ref Z.f_Equation_tells))
  h_term_When : PySem.W.findIn K (.ref Z.c_When) "term" = some (some (.ref Z.f_Equation_term))
  m_Hold : mg "Hold" = some (.ref Z.c_Hold)
  x_Hold : tcB K Z.c_Hold ["told_row"] = true
  i_Hold : PySem.W.findIn K (.ref Z.c_Hold) "__init__" = some (some (.ref Z.f_Equation_init))
  h_names_Hold : PySem.W.findIn K (.ref Z.c_Hold) "names" = some (some (.ref Z.f_Equation_names))
  h_told_Hold : PySem.W.findIn K (.ref Z.c_Hold) "told" = some (some (.ref Z.f_Equation_told))
  h_tells_Hold : PySem.W.findIn K (.ref Z.c_Hold) "tells" = some (some (.ref Z.f_Equation_tells))
  h_term_Hold : PySem.W.findIn K (.ref Z.c_Hold) "term" = some (some (.ref Z.f_Equation_term))
  m_Like : mg "Like" = some (.ref Z.c_Like)
  x_Like : tcB K Z.c_Like ["told_row"] = true
  i_Like : PySem.W.findIn K (.ref Z.c_Like) "__init__" = some (some (.ref Z.f_Equation_init))
  h_names_Like : PySem.W.findIn K (.ref Z.c_Like) "names" = some (some (.ref Z.f_Equation_names))
  h_told_Like : PySem.W.findIn K (.ref Z.c_Like) "told" = some (some (.ref Z.f_Equation_told))
  h_tells_Like : PySem.W.findIn K (.ref Z.c_Like) "tells" = some (some (.ref Z.f_Equation_tells))
  h_term_Like : PySem.W.findIn K (.ref Z.c_Like) "term" = some (some (.ref Z.f_Equation_term))
  m_Same : mg "Same" = some (.ref Z.c_Same)
  x_Same : tcB K Z.c_Same ["told_row"] = true
  i_Same : PySem.W.findIn K (.ref Z.c_Same) "__init__" = some (some (.ref Z.f_Equation_init))
  h_names_Same : PySem.W.findIn K (.ref Z.c_Same) "names" = some (some (.ref Z.f_Same_names))
  h_told_Same : PySem.W.findIn K (.ref Z.c_Same) "told" = some (some (.ref Z.f_Equation_told))
  h_tells_Same : PySem.W.findIn K (.ref Z.c_Same) "tells" = some (some (.ref Z.f_Same_tells))
  h_term_Same : PySem.W.findIn K (.ref Z.c_Same) "term" = some (some (.ref Z.f_Equation_term))
  m_Call : mg "Call" = some (.ref Z.c_Call)
  x_Call : tcB K Z.c_Call ["told_row"] = true
  i_Call : PySem.W.findIn K (.ref Z.c_Call) "__init__" = some (some (.ref Z.f_Equation_init))
  h_names_Call : PySem.W.findIn K (.ref Z.c_Call) "names" = some (some (.ref Z.f_Call_names))
  h_told_Call : PySem.W.findIn K (.ref Z.c_Call) "told" = some (some (.ref Z.f_Equation_told))
  h_tells_Call : PySem.W.findIn K (.ref Z.c_Call) "tells" = some (some (.ref Z.f_Call_tells))
  h_term_Call : PySem.W.findIn K (.ref Z.c_Call) "term" = some (some (.ref Z.f_Equation_term))
  m_Node : mg "Node" = some (.ref Z.c_Node)
  x_Node : tcB K Z.c_Node ["name", "kept_inputs", "kept_outs", "kept_rows", "tellers"] = true
  i_Node : PySem.W.findIn K (.ref Z.c_Node) "__init__" = some (some (.ref Z.f_Node_init))
  h_told_Node : PySem.W.findIn K (.ref Z.c_Node) "told" = some (some (.ref Z.f_Node_told))
  h_take_tellers_Node : PySem.W.findIn K (.ref Z.c_Node) "take_tellers" = some (some (.ref Z.f_Node_take_tellers))
  h_need_told_Node : PySem.W.findIn K (.ref Z.c_Node) "need_told" = some (some (.ref Z.f_Node_need_told))
  fact_dif : difB [Z.c_Name, Z.c_Value, Z.c_Two, Z.c_Not, Z.c_Pick] = true
  fact_is_Name : subB K Z.c_Name Z.c_Term = true
  fact_is_Value : subB K Z.c_Value Z.c_Term = true
  fact_is_Two : subB K Z.c_Two Z.c_Term = true
  fact_is_Not : subB K Z.c_Not Z.c_Term = true
  fact_is_Pick : subB K Z.c_Pick Z.c_Term = true
  fact_difT : difB [Z.c_Plain, Z.c_Name, Z.c_Value, Z.c_Two, Z.c_Not, Z.c_Pick] = true
  fact_difE : difB [Z.c_Plain, Z.c_Before, Z.c_Hold, Z.c_Like, Z.c_When, Z.c_Same, Z.c_Call] = true
  fact_difN1 : difB [Z.c_Node, Z.c_Name, Z.c_Value, Z.c_Two, Z.c_Not, Z.c_Pick] = true
  fact_difN2 : difB [Z.c_Node, Z.c_Plain, Z.c_Before, Z.c_Hold, Z.c_Like, Z.c_When, Z.c_Same, Z.c_Call] = true
  fact_kitE : kitTab K [Z.c_Plain, Z.c_Before, Z.c_Hold, Z.c_Like, Z.c_When, Z.c_Same, Z.c_Call] Z.c_Equation = true
  fact_cm_Equation : cmB K Z.c_Equation Z.f_Equation_init "__init__" = true
  fact_exmU : PySem.W.exmOne K (.ref Z.c_Unknown) (.ref Z.c_Unknown) = some true
  fact_kitUB : PySem.W.kitOne K (.ref Z.c_Unknown) (.ref Z.c_BeatError) = some true
  n_all : mg "all" = none
  n_bool : mg "bool" = none
  n_dict : mg "dict" = none
  n_int : mg "int" = none
  n_isinstance : mg "isinstance" = none
  n_len : mg "len" = none
  n_list : mg "list" = none
  n_max : mg "max" = none
  n_min : mg "min" = none
  n_range : mg "range" = none
  n_repr : mg "repr" = none
  n_str : mg "str" = none
  n_tuple : mg "tuple" = none
  c_LETTERS : ∃ u, mg "LETTERS" = some u ∧ RelV (.str "abcdefghijklmnopqrstuvwxyz") u
  c_LONGEST : ∃ u, mg "LONGEST" = some u ∧ RelV (.int 8) u
  c_MOST : ∃ u, mg "MOST" = some u ∧ RelV (.int 1000000000) u
  c_MOST_LEVELS : ∃ u, mg "MOST_LEVELS" = some u ∧ RelV (.int 5) u
  c_MOST_SIGNS : ∃ u, mg "MOST_SIGNS" = some u ∧ RelV (.int 80) u
  c_OPS : ∃ u, mg "OPS" = some u ∧ RelV (.ref Z.a_OPS) u
  t_OPS : ∀ H, SqT K H Z.a_OPS [.str "+", .str "-", .str "*", .str "/", .str "mod", .str "<", .str "=", .str "&", .str "|"]
  c_OWN : ∃ u, mg "OWN" = some u ∧ RelV (.ref Z.a_OWN) u
  t_OWN : ∀ H, SqT K H Z.a_OWN [.str "node", .str "in", .str "out", .str "before", .str "when", .str "hold", .str "like", .str "same", .str "call", .str "true", .str "false", .str "mod", .str "beat", .str "desk"]
  c_TOLD_THINGS : ∃ u, mg "TOLD_THINGS" = some u ∧ RelV (.int 4) u
abbrev N_Unknown_init : List Str := ["self", "name"]
theorem sc_Unknown_init : FnScope N_Unknown_init ["self", "name"] (defScope s_Unknown_init) := ⟨rfl, rfl, rfl, by decide +kernel, rfl, by decide +kernel, by decide +kernel⟩
abbrev N_names_in : List Str := ["term", "found", "part"]
theorem sc_names_in : FnScope N_names_in ["term"] (defScope s_names_in) := ⟨rfl, rfl, rfl, by decide +kernel, rfl, by decide +kernel, by decide +kernel⟩
abbrev N_told_by : List Str := ["row"]
theorem sc_told_by : FnScope N_told_by ["row"] (defScope s_told_by) := ⟨rfl, rfl, rfl, by decide +kernel, rfl, by decide +kernel, by decide +kernel⟩
abbrev N_mentioned_now : List Str := ["row"]
theorem sc_mentioned_now : FnScope N_mentioned_now ["row"] (defScope s_mentioned_now) := ⟨rfl, rfl, rfl, by decide +kernel, rfl, by decide +kernel, by decide +kernel⟩
abbrev N_names_of : List Str := ["node", "title", "inputs", "outs", "rows", "found", "row"]
theorem sc_names_of : FnScope N_names_of ["node"] (defScope s_names_of) := ⟨rfl, rfl, rfl, by decide +kernel, rfl, by decide +kernel, by decide +kernel⟩
abbrev N_reads_of : List Str := ["node", "clocks", "names", "some", "name", "row", "found", "other"]
theorem sc_reads_of : FnScope N_reads_of ["node", "clocks"] (defScope s_reads_of) := ⟨rfl, rfl, rfl, by decide +kernel, rfl, by decide +kernel, by decide +kernel⟩
abbrev N_need_known : List Str := ["reads", "name"]
theorem sc_need_known : FnScope N_need_known ["reads", "name"] (defScope s_need_known) := ⟨rfl, rfl, rfl, by decide +kernel, rfl, by decide +kernel, by decide +kernel⟩
abbrev N_steps_from : List Str := ["reads", "name", "found", "waiting", "here", "other"]
theorem sc_steps_from : FnScope N_steps_from ["reads", "name"] (defScope s_steps_from) := ⟨rfl, rfl, rfl, by decide +kernel, rfl, by decide +kernel, by decide +kernel⟩
abbrev N_reached_from : List Str := ["node", "clocks", "name", "reads", "steps", "other"]
theorem sc_reached_from : FnScope N_reached_from ["node", "clocks", "name"] (defScope s_reached_from) := ⟨rfl, rfl, rfl, by decide +kernel, rfl, by decide +kernel, by decide +kernel⟩
abbrev N_way_between : List Str := ["node", "clocks", "one", "other", "reads", "steps", "found"]
theorem sc_way_between : FnScope N_way_between ["node", "clocks", "one", "other"] (defScope s_way_between) := ⟨rfl, rfl, rfl, by decide +kernel, rfl, by decide +kernel, by decide +kernel⟩
abbrev N_is_way : List Str := ["node", "clocks", "one", "other", "thing", "reads"]
theorem sc_is_way : FnScope N_is_way ["node", "clocks", "one", "other", "thing"] (defScope s_is_way) := ⟨rfl, rfl, rfl, by decide +kernel, rfl, by decide +kernel, by decide +kernel⟩
abbrev N_is_whole : List Str := ["thing"]
theorem sc_is_whole : FnScope N_is_whole ["thing"] (defScope s_is_whole) := ⟨rfl, rfl, rfl, by decide +kernel, rfl, by decide +kernel, by decide +kernel⟩
abbrev N_is_within : List Str := ["thing", "low", "high"]
theorem sc_is_within : FnScope N_is_within ["thing", "low", "high"] (defScope s_is_within) := ⟨rfl, rfl, rfl, by decide +kernel, rfl, by decide +kernel, by decide +kernel⟩
abbrev N_is_name : List Str := ["thing", "sign"]
theorem sc_is_name : FnScope N_is_name ["thing"] (defScope s_is_name) := ⟨rfl, rfl, rfl, by decide +kernel, rfl, by decide +kernel, by decide +kernel⟩
abbrev N_is_pointed : List Str := ["thing", "part"]
theorem sc_is_pointed : FnScope N_is_pointed ["thing"] (defScope s_is_pointed) := ⟨rfl, rfl, rfl, by decide +kernel, rfl, by decide +kernel, by decide +kernel⟩
abbrev N_is_value : List Str := ["thing"]
theorem sc_is_value : FnScope N_is_value ["thing"] (defScope s_is_value) := ⟨rfl, rfl, rfl, by decide +kernel, rfl, by decide +kernel, by decide +kernel⟩
abbrev N_ops_told : List Str := []
theorem sc_ops_told : FnScope N_ops_told [] (defScope s_ops_told) := ⟨rfl, rfl, rfl, by decide +kernel, rfl, by decide +kernel, by decide +kernel⟩
abbrev N_Term_parts : List Str := ["self"]
theorem sc_Term_parts : FnScope N_Term_parts ["self"] (defScope s_Term_parts) := ⟨rfl, rfl, rfl, by decide +kernel, rfl, by decide +kernel, by decide +kernel⟩
abbrev N_Term_names : List Str := ["self", "found", "part", "name"]
theorem sc_Term_names : FnScope N_Term_names ["self"] (defScope s_Term_names) := ⟨rfl, rfl, rfl, by decide +kernel, rfl, by decide +kernel, by decide +kernel⟩
abbrev N_Term_levels : List Str := ["self", "part"]
theorem sc_Term_levels : FnScope N_Term_levels ["self"] (defScope s_Term_levels) := ⟨rfl, rfl, rfl, by decide +kernel, rfl, by decide +kernel, by decide +kernel⟩
abbrev N_need_term : List Str := ["thing"]
theorem sc_need_term : FnScope N_need_term ["thing"] (defScope s_need_term) := ⟨rfl, rfl, rfl, by decide +kernel, rfl, by decide +kernel, by decide +kernel⟩
abbrev N_Name_init : List Str := ["self", "name"]
theorem sc_Name_init : FnScope N_Name_init ["self", "name"] (defScope s_Name_init) := ⟨rfl, rfl, rfl, by decide +kernel, rfl, by decide +kernel, by decide +kernel⟩
abbrev N_Name_names : List Str := ["self"]
theorem sc_Name_names : FnScope N_Name_names ["self"] (defScope s_Name_names) := ⟨rfl, rfl, rfl, by decide +kernel, rfl, by decide +kernel, by decide +kernel⟩
abbrev N_Name_told : List Str := ["self"]
theorem sc_Name_told : FnScope N_Name_told ["self"] (defScope s_Name_told) := ⟨rfl, rfl, rfl, by decide +kernel, rfl, by decide +kernel, by decide +kernel⟩
abbrev N_Value_init : List Str := ["self", "value"]
theorem sc_Value_init : FnScope N_Value_init ["self", "value"] (defScope s_Value_init) := ⟨rfl, rfl, rfl, by decide +kernel, rfl, by decide +kernel, by decide +kernel⟩
abbrev N_Value_told : List Str := ["self"]
theorem sc_Value_told : FnScope N_Value_told ["self"] (defScope s_Value_told) := ⟨rfl, rfl, rfl, by decide +kernel, rfl, by decide +kernel, by decide +kernel⟩
abbrev N_Two_init : List Str := ["self", "op", "one", "other"]
theorem sc_Two_init : FnScope N_Two_init ["self", "op", "one", "other"] (defScope s_Two_init) := ⟨rfl, rfl, rfl, by decide +kernel, rfl, by decide +kernel, by decide +kernel⟩
abbrev N_Two_parts : List Str := ["self"]
theorem sc_Two_parts : FnScope N_Two_parts ["self"] (defScope s_Two_parts) := ⟨rfl, rfl, rfl, by decide +kernel, rfl, by decide +kernel, by decide +kernel⟩
abbrev N_Two_told : List Str := ["self"]
theorem sc_Two_told : FnScope N_Two_told ["self"] (defScope s_Two_told) := ⟨rfl, rfl, rfl, by decide +kernel, rfl, by decide +kernel, by decide +kernel⟩
abbrev N_Not_init : List Str := ["self", "one"]
theorem sc_Not_init : FnScope N_Not_init ["self", "one"] (defScope s_Not_init) := ⟨rfl, rfl, rfl, by decide +kernel, rfl, by decide +kernel, by decide +kernel⟩
abbrev N_Not_parts : List Str := ["self"]
theorem sc_Not_parts : FnScope N_Not_parts ["self"] (defScope s_Not_parts) := ⟨rfl, rfl, rfl, by decide +kernel, rfl, by decide +kernel, by decide +kernel⟩
abbrev N_Not_told : List Str := ["self"]
theorem sc_Not_told : FnScope N_Not_told ["self"] (defScope s_Not_told) := ⟨rfl, rfl, rfl, by decide +kernel, rfl, by decide +kernel, by decide +kernel⟩
abbrev N_Pick_init : List Str := ["self", "by", "one", "other"]
theorem sc_Pick_init : FnScope N_Pick_init ["self", "by", "one", "other"] (defScope s_Pick_init) := ⟨rfl, rfl, rfl, by decide +kernel, rfl, by decide +kernel, by decide +kernel⟩
abbrev N_Pick_parts : List Str := ["self"]
theorem sc_Pick_parts : FnScope N_Pick_parts ["self"] (defScope s_Pick_parts) := ⟨rfl, rfl, rfl, by decide +kernel, rfl, by decide +kernel, by decide +kernel⟩
abbrev N_Pick_told : List Str := ["self"]
theorem sc_Pick_told : FnScope N_Pick_told ["self"] (defScope s_Pick_told) := ⟨rfl, rfl, rfl, by decide +kernel, rfl, by decide +kernel, by decide +kernel⟩
abbrev N_simple_of : List Str := ["word", "thing"]
theorem sc_simple_of : FnScope N_simple_of ["word", "thing"] (defScope s_simple_of) := ⟨rfl, rfl, rfl, by decide +kernel, rfl, by decide +kernel, by decide +kernel⟩
abbrev N_made_of_told : List Str := ["told", "left", "word", "first", "parts", "one"]
theorem sc_made_of_told : FnScope N_made_of_told ["told", "left"] (defScope s_made_of_told) := ⟨rfl, rfl, rfl, by decide +kernel, rfl, by decide +kernel, by decide +kernel⟩
abbrev N_term_of : List Str := ["told", "found"]
theorem sc_term_of : FnScope N_term_of ["told"] (defScope s_term_of) := ⟨rfl, rfl, rfl, by decide +kernel, rfl, by decide +kernel, by decide +kernel⟩
abbrev N_each_once : List Str := ["names", "found", "name"]
theorem sc_each_once : FnScope N_each_once ["names"] (defScope s_each_once) := ⟨rfl, rfl, rfl, by decide +kernel, rfl, by decide +kernel, by decide +kernel⟩
abbrev N_Equation_init : List Str := ["self", "row"]
theorem sc_Equation_init : FnScope N_Equation_init ["self", "row"] (defScope s_Equation_init) := ⟨rfl, rfl, rfl, by decide +kernel, rfl, by decide +kernel, by decide +kernel⟩
abbrev N_Equation_told : List Str := ["self"]
theorem sc_Equation_told : FnScope N_Equation_told ["self"] (defScope s_Equation_told) := ⟨rfl, rfl, rfl, by decide +kernel, rfl, by decide +kernel, by decide +kernel⟩
abbrev N_Equation_tells : List Str := ["self"]
theorem sc_Equation_tells : FnScope N_Equation_tells ["self"] (defScope s_Equation_tells) := ⟨rfl, rfl, rfl, by decide +kernel, rfl, by decide +kernel, by decide +kernel⟩
abbrev N_Equation_names : List Str := ["self"]
theorem sc_Equation_names : FnScope N_Equation_names ["self"] (defScope s_Equation_names) := ⟨rfl, rfl, rfl, by decide +kernel, rfl, by decide +kernel, by decide +kernel⟩
abbrev N_Equation_term : List Str := ["self"]
theorem sc_Equation_term : FnScope N_Equation_term ["self"] (defScope s_Equation_term) := ⟨rfl, rfl, rfl, by decide +kernel, rfl, by decide +kernel, by decide +kernel⟩
abbrev N_Plain_init : List Str := ["self", "row"]
theorem sc_Plain_init : FnScope N_Plain_init ["self", "row"] (defScope s_Plain_init) := ⟨rfl, rfl, rfl, by decide +kernel, rfl, by decide +kernel, by decide +kernel⟩
abbrev N_Plain_names : List Str := ["self"]
theorem sc_Plain_names : FnScope N_Plain_names ["self"] (defScope s_Plain_names) := ⟨rfl, rfl, rfl, by decide +kernel, rfl, by decide +kernel, by decide +kernel⟩
abbrev N_Plain_term : List Str := ["self"]
theorem sc_Plain_term : FnScope N_Plain_term ["self"] (defScope s_Plain_term) := ⟨rfl, rfl, rfl, by decide +kernel, rfl, by decide +kernel, by decide +kernel⟩
abbrev N_When_names : List Str := ["self"]
theorem sc_When_names : FnScope N_When_names ["self"] (defScope s_When_names) := ⟨rfl, rfl, rfl, by decide +kernel, rfl, by decide +kernel, by decide +kernel⟩
abbrev N_Same_tells : List Str := ["self"]
theorem sc_Same_tells : FnScope N_Same_tells ["self"] (defScope s_Same_tells) := ⟨rfl, rfl, rfl, by decide +kernel, rfl, by decide +kernel, by decide +kernel⟩
abbrev N_Same_names : List Str := ["self"]
theorem sc_Same_names : FnScope N_Same_names ["self"] (defScope s_Same_names) := ⟨rfl, rfl, rfl, by decide +kernel, rfl, by decide +kernel, by decide +kernel⟩
abbrev N_Call_tells : List Str := ["self"]
theorem sc_Call_tells : FnScope N_Call_tells ["self"] (defScope s_Call_tells) := ⟨rfl, rfl, rfl, by decide +kernel, rfl, by decide +kernel, by decide +kernel⟩
abbrev N_Call_names : List Str := ["self"]
theorem sc_Call_names : FnScope N_Call_names ["self"] (defScope s_Call_names) := ⟨rfl, rfl, rfl, by decide +kernel, rfl, by decide +kernel, by decide +kernel⟩
abbrev N_are_pointed : List Str := ["thing", "least", "name"]
theorem sc_are_pointed : FnScope N_are_pointed ["thing", "least"] (defScope s_are_pointed) := ⟨rfl, rfl, rfl, by decide +kernel, rfl, by decide +kernel, by decide +kernel⟩
abbrev N_is_valued : List Str := ["row"]
theorem sc_is_valued : FnScope N_is_valued ["row"] (defScope s_is_valued) := ⟨rfl, rfl, rfl, by decide +kernel, rfl, by decide +kernel, by decide +kernel⟩
abbrev N_plain_of : List Str := ["row"]
theorem sc_plain_of : FnScope N_plain_of ["row"] (defScope s_plain_of) := ⟨rfl, rfl, rfl, by decide +kernel, rfl, by decide +kernel, by decide +kernel⟩
abbrev N_valued_of : List Str := ["row"]
theorem sc_valued_of : FnScope N_valued_of ["row"] (defScope s_valued_of) := ⟨rfl, rfl, rfl, by decide +kernel, rfl, by decide +kernel, by decide +kernel⟩
abbrev N_call_of : List Str := ["row"]
theorem sc_call_of : FnScope N_call_of ["row"] (defScope s_call_of) := ⟨rfl, rfl, rfl, by decide +kernel, rfl, by decide +kernel, by decide +kernel⟩
abbrev N_made_of : List Str := ["row"]
theorem sc_made_of : FnScope N_made_of ["row"] (defScope s_made_of) := ⟨rfl, rfl, rfl, by decide +kernel, rfl, by decide +kernel, by decide +kernel⟩
abbrev N_equation_of : List Str := ["told", "found"]
theorem sc_equation_of : FnScope N_equation_of ["told"] (defScope s_equation_of) := ⟨rfl, rfl, rfl, by decide +kernel, rfl, by decide +kernel, by decide +kernel⟩
abbrev N_need_names : List Str := ["things", "ahead", "name"]
theorem sc_need_names : FnScope N_need_names ["things"] (defScope s_need_names) := ⟨rfl, rfl, rfl, by decide +kernel, rfl, by decide +kernel, by decide +kernel⟩
abbrev N_equations_of : List Str := ["rows", "found", "row", "equation"]
theorem sc_equations_of : FnScope N_equations_of ["rows"] (defScope s_equations_of) := ⟨rfl, rfl, rfl, by decide +kernel, rfl, by decide +kernel, by decide +kernel⟩
abbrev N_Node_init : List Str := ["self", "name", "inputs", "outs", "rows"]
theorem sc_Node_init : FnScope N_Node_init ["self", "name", "inputs", "outs", "rows"] (defScope s_Node_init) := ⟨rfl, rfl, rfl, by decide +kernel, rfl, by decide +kernel, by decide +kernel⟩
abbrev N_Node_take_tellers : List Str := ["self", "name", "row"]
theorem sc_Node_take_tellers : FnScope N_Node_take_tellers ["self"] (defScope s_Node_take_tellers) := ⟨rfl, rfl, rfl, by decide +kernel, rfl, by decide +kernel, by decide +kernel⟩
abbrev N_Node_need_told : List Str := ["self", "row", "name"]
theorem sc_Node_need_told : FnScope N_Node_need_told ["self"] (defScope s_Node_need_told) := ⟨rfl, rfl, rfl, by decide +kernel, rfl, by decide +kernel, by decide +kernel⟩
abbrev N_Node_told : List Str := ["self", "rows", "row"]
theorem sc_Node_told : FnScope N_Node_told ["self"] (defScope s_Node_told) := ⟨rfl, rfl, rfl, by decide +kernel, rfl, by decide +kernel, by decide +kernel⟩
abbrev N_node_of : List Str := ["told", "thing", "found"]
theorem sc_node_of : FnScope N_node_of ["told"] (defScope s_node_of) := ⟨rfl, rfl, rfl, by decide +kernel, rfl, by decide +kernel, by decide +kernel⟩
abbrev N_cell_at_l : List Str := ["_law_script", "_law_k"]
theorem sc_cell_at_l : FnScope N_cell_at_l ["_law_script", "_law_k"] (defScope s_cell_at_l) := ⟨rfl, rfl, rfl, by decide +kernel, rfl, by decide +kernel, by decide +kernel⟩
abbrev N_box_l : List Str := ["_law_cell"]
theorem sc_box_l : FnScope N_box_l ["_law_cell"] (defScope s_box_l) := ⟨rfl, rfl, rfl, by decide +kernel, rfl, by decide +kernel, by decide +kernel⟩
abbrev N_take_l : List Str := ["_law_box_here", "_law_many_here", "_law_number"]
theorem sc_take_l : FnScope N_take_l ["_law_box_here", "_law_many_here"] (defScope s_take_l) := ⟨rfl, rfl, rfl, by decide +kernel, rfl, by decide +kernel, by decide +kernel⟩
abbrev N_mixed_l : List Str := ["_law_box_here", "_law_some_here", "_law_left", "_law_found"]
theorem sc_mixed_l : FnScope N_mixed_l ["_law_box_here", "_law_some_here"] (defScope s_mixed_l) := ⟨rfl, rfl, rfl, by decide +kernel, rfl, by decide +kernel, by decide +kernel⟩
abbrev N_names_l : List Str := ["_law_box_here", "_law_many_here", "_law_letters", "_law_tail", "_law_k", "_law_shift", "_law_way", "_law_words", "_law_found", "_law_at", "_law_signs", "_law_name"]
theorem sc_names_l : FnScope N_names_l ["_law_box_here", "_law_many_here"] (defScope s_names_l) := ⟨rfl, rfl, rfl, by decide +kernel, rfl, by decide +kernel, by decide +kernel⟩
abbrev N_value_l : List Str := ["_law_box_here"]
theorem sc_value_l : FnScope N_value_l ["_law_box_here"] (defScope s_value_l) := ⟨rfl, rfl, rfl, by decide +kernel, rfl, by decide +kernel, by decide +kernel⟩
abbrev N_term_l : List Str := ["_law_box_here", "_law_one", "_law_other", "_law_both", "_law_way", "_law_parts", "_law_term_here", "_law_k", "_law_op"]
theorem sc_term_l : FnScope N_term_l ["_law_box_here", "_law_one", "_law_other"] (defScope s_term_l) := ⟨rfl, rfl, rfl, by decide +kernel, rfl, by decide +kernel, by decide +kernel⟩
abbrev N_slower_l : List Str := ["_law_box_here", "_law_left", "_law_clocks", "_law_base", "_law_mate", "_law_lower", "_law_name", "_law_some_here"]
theorem sc_slower_l : FnScope N_slower_l ["_law_box_here", "_law_left", "_law_clocks", "_law_base", "_law_mate"] (defScope s_slower_l) := ⟨rfl, rfl, rfl, by decide +kernel, rfl, by decide +kernel, by decide +kernel⟩
abbrev N_round_l : List Str := ["_law_box_here", "_law_left", "_law_clocks", "_law_base", "_law_ring", "_law_k", "_law_name"]
theorem sc_round_l : FnScope N_round_l ["_law_box_here", "_law_left", "_law_clocks", "_law_base", "_law_ring"] (defScope s_round_l) := ⟨rfl, rfl, rfl, by decide +kernel, rfl, by decide +kernel, by decide +kernel⟩
abbrev N_back_l : List Str := ["_law_box_here", "_law_left", "_law_clocks", "_law_base", "_law_loops", "_law_one", "_law_other", "_law_low", "_law_rows"]
theorem sc_back_l : FnScope N_back_l ["_law_box_here", "_law_left", "_law_clocks", "_law_base", "_law_loops"] (defScope s_back_l) := ⟨rfl, rfl, rfl, by decide +kernel, rfl, by decide +kernel, by decide +kernel⟩
abbrev N_some_l : List Str := ["_law_box_here", "_law_left", "_law_clocks", "_law_loops", "_law_names_here", "_law_base", "_law_mates", "_law_name", "_law_mate", "_law_way"]
theorem sc_some_l : FnScope N_some_l ["_law_box_here", "_law_left", "_law_clocks", "_law_loops"] (defScope s_some_l) := ⟨rfl, rfl, rfl, by decide +kernel, rfl, by decide +kernel, by decide +kernel⟩
abbrev N_told_by_l : List Str := ["_law_row"]
theorem sc_told_by_l : FnScope N_told_by_l ["_law_row"] (defScope s_told_by_l) := ⟨rfl, rfl, rfl, by decide +kernel, rfl, by decide +kernel, by decide +kernel⟩
abbrev N_drawn_l : List Str := ["_law_box_here", "_law_many_here", "_law_loops", "_law_names_here", "_law_ins", "_law_clocks", "_law_name", "_law_left", "_law_rows", "_law_k", "_law_some_here", "_law_other", "_law_one", "_law_order", "_law_row", "_law_found", "_law_outs"]
theorem sc_drawn_l : FnScope N_drawn_l ["_law_box_here", "_law_many_here", "_law_loops"] (defScope s_drawn_l) := ⟨rfl, rfl, rfl, by decide +kernel, rfl, by decide +kernel, by decide +kernel⟩
abbrev N_many_l : List Str := ["_law_box_here"]
theorem sc_many_l : FnScope N_many_l ["_law_box_here"] (defScope s_many_l) := ⟨rfl, rfl, rfl, by decide +kernel, rfl, by decide +kernel, by decide +kernel⟩
abbrev N_within_l : List Str := ["_law_term_here", "_law_found", "_law_part"]
theorem sc_within_l : FnScope N_within_l ["_law_term_here"] (defScope s_within_l) := ⟨rfl, rfl, rfl, by decide +kernel, rfl, by decide +kernel, by decide +kernel⟩
abbrev N_reads_l : List Str := ["_law_told", "_law_clocks", "_law_some_here", "_law_name", "_law_row", "_law_found", "_law_other"]
theorem sc_reads_l : FnScope N_reads_l ["_law_told", "_law_clocks"] (defScope s_reads_l) := ⟨rfl, rfl, rfl, by decide +kernel, rfl, by decide +kernel, by decide +kernel⟩
abbrev N_is_row_l : List Str := ["_law_reads_here", "_law_thing", "_law_k"]
theorem sc_is_row_l : FnScope N_is_row_l ["_law_reads_here", "_law_thing"] (defScope s_is_row_l) := ⟨rfl, rfl, rfl, by decide +kernel, rfl, by decide +kernel, by decide +kernel⟩
abbrev N_far_l : List Str := ["_law_reads_here", "_law_name", "_law_far_here", "_law_ready", "_law_fresh", "_law_here", "_law_other"]
theorem sc_far_l : FnScope N_far_l ["_law_reads_here", "_law_name"] (defScope s_far_l) := ⟨rfl, rfl, rfl, by decide +kernel, rfl, by decide +kernel, by decide +kernel⟩
abbrev N_refused_l : List Str := ["_law_way", "_law_node", "_law_clocks", "_law_one", "_law_other", "_law_bad", "e"]
theorem sc_refused_l : FnScope N_refused_l ["_law_way", "_law_node", "_law_clocks", "_law_one", "_law_other", "_law_bad"] (defScope s_refused_l) := ⟨rfl, rfl, rfl, by decide +kernel, rfl, by decide +kernel, by decide +kernel⟩
abbrev N_way_right_l : List Str := ["_law_node", "_law_clocks", "_law_reads_here", "_law_far_here", "_law_one", "_law_other", "_law_turn", "_law_way"]
theorem sc_way_right_l : FnScope N_way_right_l ["_law_node", "_law_clocks", "_law_reads_here", "_law_far_here", "_law_one", "_law_other"] (defScope s_way_right_l) := ⟨rfl, rfl, rfl, by decide +kernel, rfl, by decide +kernel, by decide +kernel⟩
abbrev N_law : List Str := ["_law_script", "_law_k", "_law_box_here", "_law_told", "_law_clocks", "_law_node", "_law_reads_here", "_law_names_here", "_law_turn", "_law_one", "_law_other", "_law_far_here", "_law_found", "_law_name", "_law_odd", "_law_way"]
theorem sc_law : FnScope N_law ["_law_script"] (defScope s_law) := ⟨rfl, rfl, rfl, by decide +kernel, rfl, by decide +kernel, by decide +kernel⟩
section
variable {P : Program} {w : World} {K : PySem.W.Frag} {mg : Str → Option Value} {base : Heap} {Z : Adr}
def d_Unknown_init : He.DefD := ⟨("Unknown", some "__init__"), "__init__", "Unknown.__init__", defArgs s_Unknown_init, defBody s_Unknown_init, defScope s_Unknown_init, [], []⟩
def d_names_in : He.DefD := ⟨("names_in", none), "names_in", "names_in", defArgs s_names_in, defBody s_names_in, defScope s_names_in, [], []⟩
def d_told_by : He.DefD := ⟨("told_by", none), "told_by", "told_by", defArgs s_told_by, defBody s_told_by, defScope s_told_by, [], []⟩
def d_mentioned_now : He.DefD := ⟨("mentioned_now", none), "mentioned_now", "mentioned_now", defArgs s_mentioned_now, defBody s_mentioned_now, defScope s_mentioned_now, [], []⟩
def d_names_of : He.DefD := ⟨("names_of", none), "names_of", "names_of", defArgs s_names_of, defBody s_names_of, defScope s_names_of, [], []⟩
def d_reads_of : He.DefD := ⟨("reads_of", none), "reads_of", "reads_of", defArgs s_reads_of, defBody s_reads_of, defScope s_reads_of, [], []⟩
def d_need_known : He.DefD := ⟨("need_known", none), "need_known", "need_known", defArgs s_need_known, defBody s_need_known, defScope s_need_known, [], []⟩
def d_steps_from : He.DefD := ⟨("steps_from", none), "steps_from", "steps_from", defArgs s_steps_from, defBody s_steps_from, defScope s_steps_from, [], []⟩
def d_reached_from : He.DefD := ⟨("reached_from", none), "reached_from", "reached_from", defArgs s_reached_from, defBody s_reached_from, defScope s_reached_from, [], []⟩
def d_way_between : He.DefD := ⟨("way_between", none), "way_between", "way_between", defArgs s_way_between, defBody s_way_between, defScope s_way_between, [], []⟩
def d_is_way : He.DefD := ⟨("is_way", none), "is_way", "is_way", defArgs s_is_way, defBody s_is_way, defScope s_is_way, [], []⟩
def d_is_whole : He.DefD := ⟨("is_whole", none), "is_whole", "is_whole", defArgs s_is_whole, defBody s_is_whole, defScope s_is_whole, [], []⟩
def d_is_within : He.DefD := ⟨("is_within", none), "is_within", "is_within", defArgs s_is_within, defBody s_is_within, defScope s_is_within, [], []⟩
def d_is_name : He.DefD := ⟨("is_name", none), "is_name", "is_name", defArgs s_is_name, defBody s_is_name, defScope s_is_name, [], []⟩
def d_is_pointed : He.DefD := ⟨("is_pointed", none), "is_pointed", "is_pointed", defArgs s_is_pointed, defBody s_is_pointed, defScope s_is_pointed, [], []⟩
def d_is_value : He.DefD := ⟨("is_value", none), "is_value", "is_value", defArgs s_is_value, defBody s_is_value, defScope s_is_value, [], []⟩
def d_ops_told : He.DefD := ⟨("ops_told", none), "ops_told", "ops_told", defArgs s_ops_told, defBody s_ops_told, defScope s_ops_told, [], []⟩
def d_Term_parts : He.DefD := ⟨("Term", some "parts"), "parts", "Term.parts", defArgs s_Term_parts, defBody s_Term_parts, defScope s_Term_parts, [], []⟩
def d_Term_names : He.DefD := ⟨("Term", some "names"), "names", "Term.names", defArgs s_Term_names, defBody s_Term_names, defScope s_Term_names, [], []⟩
def d_Term_levels : He.DefD := ⟨("Term", some "levels"), "levels", "Term.levels", defArgs s_Term_levels, defBody s_Term_levels, defScope s_Term_levels, [], []⟩
def d_need_term : He.DefD := ⟨("need_term", none), "need_term", "need_term", defArgs s_need_term, defBody s_need_term, defScope s_need_term, [], []⟩
def d_Name_init : He.DefD := ⟨("Name", some "__init__"), "__init__", "Name.__init__", defArgs s_Name_init, defBody s_Name_init, defScope s_Name_init, [], []⟩
def d_Name_names : He.DefD := ⟨("Name", some "names"), "names", "Name.names", defArgs s_Name_names, defBody s_Name_names, defScope s_Name_names, [], []⟩
def d_Name_told : He.DefD := ⟨("Name", some "told"), "told", "Name.told", defArgs s_Name_told, defBody s_Name_told, defScope s_Name_told, [], []⟩
def d_Value_init : He.DefD := ⟨("Value", some "__init__"), "__init__", "Value.__init__", defArgs s_Value_init, defBody s_Value_init, defScope s_Value_init, [], []⟩
def d_Value_told : He.DefD := ⟨("Value", some "told"), "told", "Value.told", defArgs s_Value_told, defBody s_Value_told, defScope s_Value_told, [], []⟩
def d_Two_init : He.DefD := ⟨("Two", some "__init__"), "__init__", "Two.__init__", defArgs s_Two_init, defBody s_Two_init, defScope s_Two_init, [], []⟩
def d_Two_parts : He.DefD := ⟨("Two", some "parts"), "parts", "Two.parts", defArgs s_Two_parts, defBody s_Two_parts, defScope s_Two_parts, [], []⟩
def d_Two_told : He.DefD := ⟨("Two", some "told"), "told", "Two.told", defArgs s_Two_told, defBody s_Two_told, defScope s_Two_told, [], []⟩
def d_Not_init : He.DefD := ⟨("Not", some "__init__"), "__init__", "Not.__init__", defArgs s_Not_init, defBody s_Not_init, defScope s_Not_init, [], []⟩
def d_Not_parts : He.DefD := ⟨("Not", some "parts"), "parts", "Not.parts", defArgs s_Not_parts, defBody s_Not_parts, defScope s_Not_parts, [], []⟩
def d_Not_told : He.DefD := ⟨("Not", some "told"), "told", "Not.told", defArgs s_Not_told, defBody s_Not_told, defScope s_Not_told, [], []⟩
def d_Pick_init : He.DefD := ⟨("Pick", some "__init__"), "__init__", "Pick.__init__", defArgs s_Pick_init, defBody s_Pick_init, defScope s_Pick_init, [], []⟩
def d_Pick_parts : He.DefD := ⟨("Pick", some "parts"), "parts", "Pick.parts", defArgs s_Pick_parts, defBody s_Pick_parts, defScope s_Pick_parts, [], []⟩
def d_Pick_told : He.DefD := ⟨("Pick", some "told"), "told", "Pick.told", defArgs s_Pick_told, defBody s_Pick_told, defScope s_Pick_told, [], []⟩
def d_simple_of : He.DefD := ⟨("simple_of", none), "simple_of", "simple_of", defArgs s_simple_of, defBody s_simple_of, defScope s_simple_of, [], []⟩
def d_made_of_told : He.DefD := ⟨("made_of_told", none), "made_of_told", "made_of_told", defArgs s_made_of_told, defBody s_made_of_told, defScope s_made_of_told, [], []⟩
def d_term_of : He.DefD := ⟨("term_of", none), "term_of", "term_of", defArgs s_term_of, defBody s_term_of, defScope s_term_of, [], []⟩
def d_each_once : He.DefD := ⟨("each_once", none), "each_once", "each_once", defArgs s_each_once, defBody s_each_once, defScope s_each_once, [], []⟩
def d_Equation_init : He.DefD := ⟨("Equation", some "__init__"), "__init__", "Equation.__init__", defArgs s_Equation_init, defBody s_Equation_init, defScope s_Equation_init, [], []⟩
def d_Equation_told : He.DefD := ⟨("Equation", some "told"), "told", "Equation.told", defArgs s_Equation_told, defBody s_Equation_told, defScope s_Equation_told, [], []⟩
def d_Equation_tells : He.DefD := ⟨("Equation", some "tells"), "tells", "Equation.tells", defArgs s_Equation_tells, defBody s_Equation_tells, defScope s_Equation_tells, [], []⟩
def d_Equation_names : He.DefD := ⟨("Equation", some "names"), "names", "Equation.names", defArgs s_Equation_names, defBody s_Equation_names, defScope s_Equation_names, [], []⟩
def d_Equation_term : He.DefD := ⟨("Equation", some "term"), "term", "Equation.term", defArgs s_Equation_term, defBody s_Equation_term, defScope s_Equation_term, [], []⟩
def d_Plain_init : He.DefD := ⟨("Plain", some "__init__"), "__init__", "Plain.__init__", defArgs s_Plain_init, defBody s_Plain_init, defScope s_Plain_init, [], []⟩
def d_Plain_names : He.DefD := ⟨("Plain", some "names"), "names", "Plain.names", defArgs s_Plain_names, defBody s_Plain_names, defScope s_Plain_names, [], []⟩
def d_Plain_term : He.DefD := ⟨("Plain", some "term"), "term", "Plain.term", defArgs s_Plain_term, defBody s_Plain_term, defScope s_Plain_term, [], []⟩
def d_When_names : He.DefD := ⟨("When", some "names"), "names", "When.names", defArgs s_When_names, defBody s_When_names, defScope s_When_names, [], []⟩
def d_Same_tells : He.DefD := ⟨("Same", some "tells"), "tells", "Same.tells", defArgs s_Same_tells, defBody s_Same_tells, defScope s_Same_tells, [], []⟩
def d_Same_names : He.DefD := ⟨("Same", some "names"), "names", "Same.names", defArgs s_Same_names, defBody s_Same_names, defScope s_Same_names, [], []⟩
def d_Call_tells : He.DefD := ⟨("Call", some "tells"), "tells", "Call.tells", defArgs s_Call_tells, defBody s_Call_tells, defScope s_Call_tells, [], []⟩
def d_Call_names : He.DefD := ⟨("Call", some "names"), "names", "Call.names", defArgs s_Call_names, defBody s_Call_names, defScope s_Call_names, [], []⟩
def d_are_pointed : He.DefD := ⟨("are_pointed", none), "are_pointed", "are_pointed", defArgs s_are_pointed, defBody s_are_pointed, defScope s_are_pointed, [], []⟩
def d_is_valued : He.DefD := ⟨("is_valued", none), "is_valued", "is_valued", defArgs s_is_valued, defBody s_is_valued, defScope s_is_valued, [], []⟩
def d_plain_of : He.DefD := ⟨("plain_of", none), "plain_of", "plain_of", defArgs s_plain_of, defBody s_plain_of, defScope s_plain_of, [], []⟩
def d_valued_of : He.DefD := ⟨("valued_of", none), "valued_of", "valued_of", defArgs s_valued_of, defBody s_valued_of, defScope s_valued_of, [], []⟩
def d_call_of : He.DefD := ⟨("call_of", none), "call_of", "call_of", defArgs s_call_of, defBody s_call_of, defScope s_call_of, [], []⟩
def d_made_of : He.DefD := ⟨("made_of", none), "made_of", "made_of", defArgs s_made_of, defBody s_made_of, defScope s_made_of, [], []⟩
def d_equation_of : He.DefD := ⟨("equation_of", none), "equation_of", "equation_of", defArgs s_equation_of, defBody s_equation_of, defScope s_equation_of, [], []⟩
def d_need_names : He.DefD := ⟨("need_names", none), "need_names", "need_names", defArgs s_need_names, defBody s_need_names, defScope s_need_names, [], []⟩
def d_equations_of : He.DefD := ⟨("equations_of", none), "equations_of", "equations_of", defArgs s_equations_of, defBody s_equations_of, defScope s_equations_of, [], []⟩
def d_Node_init : He.DefD := ⟨("Node", some "__init__"), "__init__", "Node.__init__", defArgs s_Node_init, defBody s_Node_init, defScope s_Node_init, [], []⟩
def d_Node_take_tellers : He.DefD := ⟨("Node", some "take_tellers"), "take_tellers", "Node.take_tellers", defArgs s_Node_take_tellers, defBody s_Node_take_tellers, defScope s_Node_take_tellers, [], []⟩
def d_Node_need_told : He.DefD := ⟨("Node", some "need_told"), "need_told", "Node.need_told", defArgs s_Node_need_told, defBody s_Node_need_told, defScope s_Node_need_told, [], []⟩
def d_Node_told : He.DefD := ⟨("Node", some "told"), "told", "Node.told", defArgs s_Node_told, defBody s_Node_told, defScope s_Node_told, [], []⟩
def d_node_of : He.DefD := ⟨("node_of", none), "node_of", "node_of", defArgs s_node_of, defBody s_node_of, defScope s_node_of, [], []⟩
def d_cell_at_l : He.DefD := ⟨("_law_cell_at", none), "_law_cell_at", "_law_cell_at", defArgs s_cell_at_l, defBody s_cell_at_l, defScope s_cell_at_l, [], []⟩
def d_box_l : He.DefD := ⟨("_law_box", none), "_law_box", "_law_box", defArgs s_box_l, defBody s_box_l, defScope s_box_l, [], []⟩
def d_take_l : He.DefD := ⟨("_law_take", none), "_law_take", "_law_take", defArgs s_take_l, defBody s_take_l, defScope s_take_l, [], []⟩
def d_mixed_l : He.DefD := ⟨("_law_mixed", none), "_law_mixed", "_law_mixed", defArgs s_mixed_l, defBody s_mixed_l, defScope s_mixed_l, [], []⟩
def d_names_l : He.DefD := ⟨("_law_names", none), "_law_names", "_law_names", defArgs s_names_l, defBody s_names_l, defScope s_names_l, [], []⟩
def d_value_l : He.DefD := ⟨("_law_value", none), "_law_value", "_law_value", defArgs s_value_l, defBody s_value_l, defScope s_value_l, [], []⟩
def d_term_l : He.DefD := ⟨("_law_term", none), "_law_term", "_law_term", defArgs s_term_l, defBody s_term_l, defScope s_term_l, [], []⟩
def d_slower_l : He.DefD := ⟨("_law_slower", none), "_law_slower", "_law_slower", defArgs s_slower_l, defBody s_slower_l, defScope s_slower_l, [], []⟩
def d_round_l : He.DefD := ⟨("_law_round", none), "_law_round", "_law_round", defArgs s_round_l, defBody s_round_l, defScope s_round_l, [], []⟩
def d_back_l : He.DefD := ⟨("_law_back", none), "_law_back", "_law_back", defArgs s_back_l, defBody s_back_l, defScope s_back_l, [], []⟩
def d_some_l : He.DefD := ⟨("_law_some", none), "_law_some", "_law_some", defArgs s_some_l, defBody s_some_l, defScope s_some_l, [], []⟩
def d_told_by_l : He.DefD := ⟨("_law_told_by", none), "_law_told_by", "_law_told_by", defArgs s_told_by_l, defBody s_told_by_l, defScope s_told_by_l, [], []⟩
def d_drawn_l : He.DefD := ⟨("_law_drawn", none), "_law_drawn", "_law_drawn", defArgs s_drawn_l, defBody s_drawn_l, defScope s_drawn_l, [], []⟩
def d_many_l : He.DefD := ⟨("_law_many", none), "_law_many", "_law_many", defArgs s_many_l, defBody s_many_l, defScope s_many_l, [], []⟩
def d_within_l : He.DefD := ⟨("_law_within", none), "_law_within", "_law_within", defArgs s_within_l, defBody s_within_l, defScope s_within_l, [], []⟩
def d_reads_l : He.DefD := ⟨("_law_reads", none), "_law_reads", "_law_reads", defArgs s_reads_l, defBody s_reads_l, defScope s_reads_l, [], []⟩
def d_is_row_l : He.DefD := ⟨("_law_is_row", none), "_law_is_row", "_law_is_row", defArgs s_is_row_l, defBody s_is_row_l, defScope s_is_row_l, [], []⟩
def d_far_l : He.DefD := ⟨("_law_far", none), "_law_far", "_law_far", defArgs s_far_l, defBody s_far_l, defScope s_far_l, [], []⟩
def d_refused_l : He.DefD := ⟨("_law_refused", none), "_law_refused", "_law_refused", defArgs s_refused_l, defBody s_refused_l, defScope s_refused_l, [], []⟩
def d_way_right_l : He.DefD := ⟨("_law_way_right", none), "_law_way_right", "_law_way_right", defArgs s_way_right_l, defBody s_way_right_l, defScope s_way_right_l, [], []⟩
def d_law : He.DefD := ⟨("law", none), "law", "law", defArgs s_law, defBody s_law, defScope s_law, [], []⟩
def fnL0 : List He.DefD := [d_Unknown_init, d_names_in, d_told_by, d_mentioned_now, d_names_of, d_reads_of, d_need_known, d_steps_from, d_reached_from, d_way_between, d_is_way, d_is_whole, d_is_within, d_is_name, d_is_pointed, d_is_value, d_ops_told, d_Term_parts, d_Term_names, d_Term_levels, d_need_term, d_Name_init, d_Name_names, d_Name_told, d_Value_init, d_Value_told, d_Two_init, d_Two_parts, d_Two_told, d_Not_init]
def fnL1 : List He.DefD := [d_Not_parts, d_Not_told, d_Pick_init, d_Pick_parts, d_Pick_told, d_simple_of, d_made_of_told, d_term_of, d_each_once, d_Equation_init, d_Equation_told, d_Equation_tells, d_Equation_names, d_Equation_term, d_Plain_init, d_Plain_names, d_Plain_term, d_When_names, d_Same_tells, d_Same_names, d_Call_tells, d_Call_names, d_are_pointed, d_is_valued, d_plain_of, d_valued_of, d_call_of, d_made_of, d_equation_of, d_need_names]
def fnL2 : List He.DefD := [d_equations_of, d_Node_init, d_Node_take_tellers, d_Node_need_told, d_Node_told, d_node_of, d_cell_at_l, d_box_l, d_take_l, d_mixed_l, d_names_l, d_value_l, d_term_l, d_slower_l, d_round_l, d_back_l, d_some_l, d_told_by_l, d_drawn_l, d_many_l, d_within_l, d_reads_l, d_is_row_l, d_far_l, d_refused_l, d_way_right_l, d_law]
def fnL : List He.DefD := fnL0 ++ (fnL1 ++ (fnL2))
def faL0 : List He.Fa := [.glo "names_in", .glo "told_by", .glo "mentioned_now", .glo "names_of", .glo "reads_of", .glo "need_known", .glo "steps_from", .glo "reached_from", .glo "way_between", .glo "is_way", .glo "is_whole", .glo "is_within", .glo "is_name", .glo "is_pointed", .glo "is_value", .glo "ops_told", .glo "need_term", .glo "simple_of", .glo "made_of_told", .glo "term_of", .glo "each_once", .glo "are_pointed", .glo "is_valued", .glo "plain_of", .glo "valued_of", .glo "call_of", .glo "made_of", .glo "equation_of", .glo "need_names", .glo "equations_of"]
def faL1 : List He.Fa := [.glo "node_of", .glo "_law_cell_at", .glo "_law_box", .glo "_law_take", .glo "_law_mixed", .glo "_law_names", .glo "_law_value", .glo "_law_term", .glo "_law_slower", .glo "_law_round", .glo "_law_back", .glo "_law_some", .glo "_law_told_by", .glo "_law_drawn", .glo "_law_many", .glo "_law_within", .glo "_law_reads", .glo "_law_is_row", .glo "_law_far", .glo "_law_refused", .glo "_law_way_right", .glo "law", .glo "BeatError", .glo "Unknown", .glo "Term", .glo "Name", .glo "Value", .glo "Two", .glo "Not", .glo "Pick"]
def faL2 : List He.Fa := [.glo "Equation", .glo "Plain", .glo "Before", .glo "When", .glo "Hold", .glo "Like", .glo "Same", .glo "Call", .glo "Node", .free "all", .free "bool", .free "dict", .free "int", .free "isinstance", .free "len", .free "list", .free "max", .free "min", .free "range", .free "repr", .free "str", .free "tuple", .str "LETTERS" "abcdefghijklmnopqrstuvwxyz", .int "LONGEST" (8), .int "MOST" (1000000000), .int "MOST_LEVELS" (5), .int "MOST_SIGNS" (80), .glo "OPS", .glo "OWN", .int "TOLD_THINGS" (4)]
def faL : List He.Fa := faL0 ++ (faL1 ++ (faL2))
def exs0 (K : PySem.W.Frag) : List Bool := [PySem.W.isFn K (.ref (He.fAd K ("Term", some "parts"))), PySem.W.isFn K (.ref (He.fAd K ("Term", some "names"))), PySem.W.isFn K (.ref (He.fAd K ("Term", some "levels"))), PySem.W.isFn K (.ref (He.fAd K ("Name", some "__init__"))), PySem.W.isFn K (.ref (He.fAd K ("Name", some "names"))), PySem.W.isFn K (.ref (He.fAd K ("Name", some "told"))), PySem.W.isFn K (.ref (He.fAd K ("Value", some "__init__"))), PySem.W.isFn K (.ref (He.fAd K ("Value", some "told"))), PySem.W.isFn K (.ref (He.fAd K ("Two", some "__init__"))), PySem.W.isFn K (.ref (He.fAd K ("Two", some "parts"))), PySem.W.isFn K (.ref (He.fAd K ("Two", some "told"))), PySem.W.isFn K (.ref (He.fAd K ("Not", some "__init__"))), PySem.W.isFn K (.ref (He.fAd K ("Not", some "parts"))), PySem.W.isFn K (.ref (He.fAd K ("Not", some "told"))), PySem.W.isFn K (.ref (He.fAd K ("Pick", some "__init__"))), PySem.W.isFn K (.ref (He.fAd K ("Pick", some "parts"))), PySem.W.isFn K (.ref (He.fAd K ("Pick", some "told"))), PySem.W.isFn K (.ref (He.fAd K ("Equation", some "__init__"))), PySem.W.isFn K (.ref (He.fAd K ("Equation", some "told"))), PySem.W.isFn K (.ref (He.fAd K ("Equation", some "tells")))]
def exs1 (K : PySem.W.Frag) : List Bool := [PySem.W.isFn K (.ref (He.fAd K ("Equation", some "names"))), PySem.W.isFn K (.ref (He.fAd K ("Equation", some "term"))), PySem.W.isFn K (.ref (He.fAd K ("Plain", some "__init__"))), PySem.W.isFn K (.ref (He.fAd K ("Plain", some "names"))), PySem.W.isFn K (.ref (He.fAd K ("Plain", some "term"))), PySem.W.isFn K (.ref (He.fAd K ("When", some "names"))), PySem.W.isFn K (.ref (He.fAd K ("Same", some "tells"))), PySem.W.isFn K (.ref (He.fAd K ("Same", some "names"))), PySem.W.isFn K (.ref (He.fAd K ("Call", some "tells"))), PySem.W.isFn K (.ref (He.fAd K ("Call", some "names"))), PySem.W.isFn K (.ref (He.fAd K ("Node", some "__init__"))), PySem.W.isFn K (.ref (He.fAd K ("Node", some "take_tellers"))), PySem.W.isFn K (.ref (He.fAd K ("Node", some "need_told"))), PySem.W.isFn K (.ref (He.fAd K ("Node", some "told"))), baseB K (He.ga K "BeatError"), PySem.W.excIn K (He.ga K "BeatError") [.type "ValueError", .type "Exception", .type "BaseException", .type "object"] "ValueError.__new__", PySem.W.keepIn K (.ref (He.ga K "BeatError")), icB K (He.ga K "BeatError"), exB K (He.ga K "Unknown") ["name"], decide (PySem.W.findIn K (.ref (He.ga K "Unknown")) "__init__" = some (some (.ref (He.fAd K ("Unknown", some "__init__")))))]
def exs2 (K : PySem.W.Frag) : List Bool := [decide (PySem.W.typeIn K (.ref (He.fAd K ("Unknown", some "__init__"))) = some (.type "function")), tcB K (He.ga K "Name") ["name"], decide (PySem.W.findIn K (.ref (He.ga K "Name")) "__init__" = some (some (.ref (He.fAd K ("Name", some "__init__"))))), decide (PySem.W.findIn K (.ref (He.ga K "Name")) "parts" = some (some (.ref (He.fAd K ("Term", some "parts"))))), decide (PySem.W.findIn K (.ref (He.ga K "Name")) "names" = some (some (.ref (He.fAd K ("Name", some "names"))))), decide (PySem.W.findIn K (.ref (He.ga K "Name")) "levels" = some (some (.ref (He.fAd K ("Term", some "levels"))))), decide (PySem.W.findIn K (.ref (He.ga K "Name")) "told" = some (some (.ref (He.fAd K ("Name", some "told"))))), tcB K (He.ga K "Value") ["amount"], decide (PySem.W.findIn K (.ref (He.ga K "Value")) "__init__" = some (some (.ref (He.fAd K ("Value", some "__init__"))))), decide (PySem.W.findIn K (.ref (He.ga K "Value")) "parts" = some (some (.ref (He.fAd K ("Term", some "parts"))))), decide (PySem.W.findIn K (.ref (He.ga K "Value")) "names" = some (some (.ref (He.fAd K ("Term", some "names"))))), decide (PySem.W.findIn K (.ref (He.ga K "Value")) "levels" = some (some (.ref (He.fAd K ("Term", some "levels"))))), decide (PySem.W.findIn K (.ref (He.ga K "Value")) "told" = some (some (.ref (He.fAd K ("Value", some "told"))))), tcB K (He.ga K "Two") ["op", "one", "second"], decide (PySem.W.findIn K (.ref (He.ga K "Two")) "__init__" = some (some (.ref (He.fAd K ("Two", some "__init__"))))), decide (PySem.W.findIn K (.ref (He.ga K "Two")) "parts" = some (some (.ref (He.fAd K ("Two", some "parts"))))), decide (PySem.W.findIn K (.ref (He.ga K "Two")) "names" = some (some (.ref (He.fAd K ("Term", some "names"))))), decide (PySem.W.findIn K (.ref (He.ga K "Two")) "levels" = some (some (.ref (He.fAd K ("Term", some "levels"))))), decide (PySem.W.findIn K (.ref (He.ga K "Two")) "told" = some (some (.ref (He.fAd K ("Two", some "told"))))), tcB K (He.ga K "Not") ["one"]]
def exs3 (K : PySem.W.Frag) : List Bool := [decide (PySem.W.findIn K (.ref (He.ga K "Not")) "__init__" = some (some (.ref (He.fAd K ("Not", some "__init__"))))), decide (PySem.W.findIn K (.ref (He.ga K "Not")) "parts" = some (some (.ref (He.fAd K ("Not", some "parts"))))), decide (PySem.W.findIn K (.ref (He.ga K "Not")) "names" = some (some (.ref (He.fAd K ("Term", some "names"))))), decide (PySem.W.findIn K (.ref (He.ga K "Not")) "levels" = some (some (.ref (He.fAd K ("Term", some "levels"))))), decide (PySem.W.findIn K (.ref (He.ga K "Not")) "told" = some (some (.ref (He.fAd K ("Not", some "told"))))), tcB K (He.ga K "Pick") ["by", "one", "second"], decide (PySem.W.findIn K (.ref (He.ga K "Pick")) "__init__" = some (some (.ref (He.fAd K ("Pick", some "__init__"))))), decide (PySem.W.findIn K (.ref (He.ga K "Pick")) "parts" = some (some (.ref (He.fAd K ("Pick", some "parts"))))), decide (PySem.W.findIn K (.ref (He.ga K "Pick")) "names" = some (some (.ref (He.fAd K ("Term", some "names"))))), decide (PySem.W.findIn K (.ref (He.ga K "Pick")) "levels" = some (some (.ref (He.fAd K ("Term", some "levels"))))), decide (PySem.W.findIn K (.ref (He.ga K "Pick")) "told" = some (some (.ref (He.fAd K ("Pick", some "told"))))), tcB K (He.ga K "Equation") ["told_row"], decide (PySem.W.findIn K (.ref (He.ga K "Equation")) "__init__" = some (some (.ref (He.fAd K ("Equation", some "__init__"))))), decide (PySem.W.findIn K (.ref (He.ga K "Equation")) "names" = some (some (.ref (He.fAd K ("Equation", some "names"))))), decide (PySem.W.findIn K (.ref (He.ga K "Equation")) "told" = some (some (.ref (He.fAd K ("Equation", some "told"))))), decide (PySem.W.findIn K (.ref (He.ga K "Equation")) "tells" = some (some (.ref (He.fAd K ("Equation", some "tells"))))), decide (PySem.W.findIn K (.ref (He.ga K "Equation")) "term" = some (some (.ref (He.fAd K ("Equation", some "term"))))), tcB K (He.ga K "Plain") ["told_row", "kept_term"], decide (PySem.W.findIn K (.ref (He.ga K "Plain")) "__init__" = some (some (.ref (He.fAd K ("Plain", some "__init__"))))), decide (PySem.W.findIn K (.ref (He.ga K "Plain")) "names" = some (some (.ref (He.fAd K ("Plain", some "names")))))]
def exs4 (K : PySem.W.Frag) : List Bool := [decide (PySem.W.findIn K (.ref (He.ga K "Plain")) "told" = some (some (.ref (He.fAd K ("Equation", some "told"))))), decide (PySem.W.findIn K (.ref (He.ga K "Plain")) "tells" = some (some (.ref (He.fAd K ("Equation", some "tells"))))), decide (PySem.W.findIn K (.ref (He.ga K "Plain")) "term" = some (some (.ref (He.fAd K ("Plain", some "term"))))), tcB K (He.ga K "Before") ["told_row"], decide (PySem.W.findIn K (.ref (He.ga K "Before")) "__init__" = some (some (.ref (He.fAd K ("Equation", some "__init__"))))), decide (PySem.W.findIn K (.ref (He.ga K "Before")) "names" = some (some (.ref (He.fAd K ("Equation", some "names"))))), decide (PySem.W.findIn K (.ref (He.ga K "Before")) "told" = some (some (.ref (He.fAd K ("Equation", some "told"))))), decide (PySem.W.findIn K (.ref (He.ga K "Before")) "tells" = some (some (.ref (He.fAd K ("Equation", some "tells"))))), decide (PySem.W.findIn K (.ref (He.ga K "Before")) "term" = some (some (.ref (He.fAd K ("Equation", some "term"))))), tcB K (He.ga K "When") ["told_row"], decide (PySem.W.findIn K (.ref (He.ga K "When")) "__init__" = some (some (.ref (He.fAd K ("Equation", some "__init__"))))), decide (PySem.W.findIn K (.ref (He.ga K "When")) "names" = some (some (.ref (He.fAd K ("When", some "names"))))), decide (PySem.W.findIn K (.ref (He.ga K "When")) "told" = some (some (.ref (He.fAd K ("Equation", some "told"))))), decide (PySem.W.findIn K (.ref (He.ga K "When")) "tells" = some (some (.ref (He.fAd K ("Equation", some "tells"))))), decide (PySem.W.findIn K (.ref (He.ga K "When")) "term" = some (some (.ref (He.fAd K ("Equation", some "term"))))), tcB K (He.ga K "Hold") ["told_row"], decide (PySem.W.findIn K (.ref (He.ga K "Hold")) "__init__" = some (some (.ref (He.fAd K ("Equation", some "__init__"))))), decide (PySem.W.findIn K (.ref (He.ga K "Hold")) "names" = some (some (.ref (He.fAd K ("Equation", some "names"))))), decide (PySem.W.findIn K (.ref (He.ga K "Hold")) "told" = some (some (.ref (He.fAd K ("Equation", some "told"))))), decide (PySem.W.findIn K (.ref (He.ga K "Hold")) "tells" = some (some (.ref (He.fAd K ("Equation", some "tells")))))]
def exs5 (K : PySem.W.Frag) : List Bool := [decide (PySem.W.findIn K (.ref (He.ga K "Hold")) "term" = some (some (.ref (He.fAd K ("Equation", some "term"))))), tcB K (He.ga K "Like") ["told_row"], decide (PySem.W.findIn K (.ref (He.ga K "Like")) "__init__" = some (some (.ref (He.fAd K ("Equation", some "__init__"))))), decide (PySem.W.findIn K (.ref (He.ga K "Like")) "names" = some (some (.ref (He.fAd K ("Equation", some "names"))))), decide (PySem.W.findIn K (.ref (He.ga K "Like")) "told" = some (some (.ref (He.fAd K ("Equation", some "told"))))), decide (PySem.W.findIn K (.ref (He.ga K "Like")) "tells" = some (some (.ref (He.fAd K ("Equation", some "tells"))))), decide (PySem.W.findIn K (.ref (He.ga K "Like")) "term" = some (some (.ref (He.fAd K ("Equation", some "term"))))), tcB K (He.ga K "Same") ["told_row"], decide (PySem.W.findIn K (.ref (He.ga K "Same")) "__init__" = some (some (.ref (He.fAd K ("Equation", some "__init__"))))), decide (PySem.W.findIn K (.ref (He.ga K "Same")) "names" = some (some (.ref (He.fAd K ("Same", some "names"))))), decide (PySem.W.findIn K (.ref (He.ga K "Same")) "told" = some (some (.ref (He.fAd K ("Equation", some "told"))))), decide (PySem.W.findIn K (.ref (He.ga K "Same")) "tells" = some (some (.ref (He.fAd K ("Same", some "tells"))))), decide (PySem.W.findIn K (.ref (He.ga K "Same")) "term" = some (some (.ref (He.fAd K ("Equation", some "term"))))), tcB K (He.ga K "Call") ["told_row"], decide (PySem.W.findIn K (.ref (He.ga K "Call")) "__init__" = some (some (.ref (He.fAd K ("Equation", some "__init__"))))), decide (PySem.W.findIn K (.ref (He.ga K "Call")) "names" = some (some (.ref (He.fAd K ("Call", some "names"))))), decide (PySem.W.findIn K (.ref (He.ga K "Call")) "told" = some (some (.ref (He.fAd K ("Equation", some "told"))))), decide (PySem.W.findIn K (.ref (He.ga K "Call")) "tells" = some (some (.ref (He.fAd K ("Call", some "tells"))))), decide (PySem.W.findIn K (.ref (He.ga K "Call")) "term" = some (some (.ref (He.fAd K ("Equation", some "term"))))), tcB K (He.ga K "Node") ["name", "kept_inputs", "kept_outs", "kept_rows", "tellers"]]
def exs6 (K : PySem.W.Frag) : List Bool := [decide (PySem.W.findIn K (.ref (He.ga K "Node")) "__init__" = some (some (.ref (He.fAd K ("Node", some "__init__"))))), decide (PySem.W.findIn K (.ref (He.ga K "Node")) "told" = some (some (.ref (He.fAd K ("Node", some "told"))))), decide (PySem.W.findIn K (.ref (He.ga K "Node")) "take_tellers" = some (some (.ref (He.fAd K ("Node", some "take_tellers"))))), decide (PySem.W.findIn K (.ref (He.ga K "Node")) "need_told" = some (some (.ref (He.fAd K ("Node", some "need_told"))))), difB [(He.ga K "Name"), (He.ga K "Value"), (He.ga K "Two"), (He.ga K "Not"), (He.ga K "Pick")], subB K (He.ga K "Name") (He.ga K "Term"), subB K (He.ga K "Value") (He.ga K "Term"), subB K (He.ga K "Two") (He.ga K "Term"), subB K (He.ga K "Not") (He.ga K "Term"), subB K (He.ga K "Pick") (He.ga K "Term"), difB [(He.ga K "Plain"), (He.ga K "Name"), (He.ga K "Value"), (He.ga K "Two"), (He.ga K "Not"), (He.ga K "Pick")], difB [(He.ga K "Plain"), (He.ga K "Before"), (He.ga K "Hold"), (He.ga K "Like"), (He.ga K "When"), (He.ga K "Same"), (He.ga K "Call")], difB [(He.ga K "Node"), (He.ga K "Name"), (He.ga K "Value"), (He.ga K "Two"), (He.ga K "Not"), (He.ga K "Pick")], difB [(He.ga K "Node"), (He.ga K "Plain"), (He.ga K "Before"), (He.ga K "Hold"), (He.ga K "Like"), (He.ga K "When"), (He.ga K "Same"), (He.ga K "Call")], kitTab K [(He.ga K "Plain"), (He.ga K "Before"), (He.ga K "Hold"), (He.ga K "Like"), (He.ga K "When"), (He.ga K "Same"), (He.ga K "Call")] (He.ga K "Equation"), cmB K (He.ga K "Equation") (He.fAd K ("Equation", some "__init__")) "__init__", decide (PySem.W.exmOne K (.ref (He.ga K "Unknown")) (.ref (He.ga K "Unknown")) = some true), decide (PySem.W.kitOne K (.ref (He.ga K "Unknown")) (.ref (He.ga K "BeatError")) = some true), tupB K (He.ga K "OPS") ["+", "-", "*", "/", "mod", "<", "=", "&", "|"], tupB K (He.ga K "OWN") ["node", "in", "out", "before", "when", "hold", "like", "same", "call", "true", "false", "mod", "beat", "desk"]]
def exs (K : PySem.W.Frag) : List Bool := exs0 K ++ (exs1 K ++ (exs2 K ++ (exs3 K ++ (exs4 K ++ (exs5 K ++ (exs6 K))))))
abbrev RW : PySem.W.OpenRow := PySem.W.OpenLaw.row PySem.Challenge.rw_beatrows_k64_ways_told
def csL : List PySem.Str := ["BeatError", "NoValue", "NoName", "NoTerm", "NoEquation", "NoNode", "Twice", "Unknown", "NoOut", "NoRead", "Term", "Name", "Value", "Two", "Not", "Pick", "Equation", "Plain", "Before", "When", "Hold", "Like", "Same", "Call", "Node"]
def tsL : List PySem.Str := ["OPS", "OWN"]
abbrev hk : PySem.W.Hook := hookK csL tsL faL fnL (fun K => (exs K).all id)
def ob (s : PySem.W.SharedT) : He.AlD × Bool := hkObs csL tsL faL fnL (fun K => (exs K).all id) (HandSHeadRun.getT s)
theorem ob_eq (s : PySem.W.SharedT) : ob s = hk.obs s.abs := hkObs_eq (HandSHeadRun.getT_eq s)
def loose0 : List PySem.Str := ["_wall", "BeatError", "NoValue", "NoName", "NoTerm", "NoEquation", "NoNode", "Twice", "Unknown", "NoOut", "NoRead", "names_in", "told_by", "mentioned_now", "names_of", "reads_of", "need_known", "steps_from", "reached_from", "way_between", "is_row_of", "is_way", "LETTERS", "LONGEST", "MOST_SIGNS", "MOST", "OWN", "is_whole", "is_within", "is_name"]
def loose1 : List PySem.Str := ["is_pointed", "is_value", "value_text", "OPS", "ops_told", "MOST_LEVELS", "Term", "need_term", "Name", "Value", "Two", "Not", "Pick", "simple_of", "made_of_told", "term_of", "each_once", "Equation", "Plain", "Before", "When", "Hold", "Like", "Same", "Call", "are_pointed", "is_valued", "plain_of", "valued_of", "call_of"]
def loose2 : List PySem.Str := ["made_of", "equation_of", "TOLD_THINGS", "need_names", "equations_of", "Node", "node_of", "_law_cell_at", "_law_box", "_law_take", "_law_is_whole", "_law_mixed", "_law_names", "_law_value", "_law_term", "_law_slower", "_law_round", "_law_back", "_law_some", "_law_told_by", "_law_drawn", "_law_many", "_law_within", "_law_reads", "_law_ranks", "_law_is_row", "_law_is_ring", "_law_is_order", "_law_far", "_law_refused"]
def loose3 : List PySem.Str := ["_law_way_right"]
def loose : List PySem.Str := loose0 ++ (loose1 ++ (loose2 ++ (loose3)))
theorem run (w : World) : HandSHeadRun.RunEq RW (PySem.W.view RW.prog [99]) hk ob 20000 loose w := by
  intro os
  kernel_rfl

theorem ok_Unknown_init (T : Txt K mg Z) : FnOk P w K mg base CX0 1 Z.f_Unknown_init Z.fd_Unknown_init ["self", "name"] (sp_err1 Z.c_Unknown "name") := by
  refine T.F_Unknown_init.ok sc_Unknown_init (fun vs H Q E h => ?_) (fun cdv AA outer s H vs Q E hr h => ?_)
  · obtain ⟨a, v0, rfl, _⟩ := h
    rfl
  · obtain ⟨a, v0, rfl, ha, k⟩ := h
    have TX := exB_ok T.x_Unknown
    refine ⟨_, (pss_cons (ps_expr (pe_binit rfl T.m_BeatError (baseB_ok T.q_BeatError) (pa_cons (pv 0) (pa_cons pe_str pa_nil))))
      (pss_one (ps_ost (pv 0) (pv 1)))), ?_⟩
    exact err1_run TX.ox (TX.no _ (by decide +kernel)) ha k
/-! ### words: whole numbers, values -/
def sp_is_whole (K : PySem.W.Frag) : Sp := fun vs H Q _ => ∃ (v : V) (n : String) (b1 b2 : Bool), vs = [v] ∧ TyX K H v (.type n) ∧ kitB n "int" = some b1 ∧ kitB n "bool" = some b2 ∧ Q (.bl (b1 && !b2)) H
theorem u_whole_int {K : PySem.W.Frag} {H : Hp} {Q : VK} {E : XK} {i : Int} (q : Q (.bl true) H) : sp_is_whole K [.int i] H Q E := ⟨_, _, _, _, rfl, ty_int i, kb_ii, kb_ib, q⟩
theorem u_whole_bl {K : PySem.W.Frag} {H : Hp} {Q : VK} {E : XK} {i : Bool} (q : Q (.bl false) H) : sp_is_whole K [.bl i] H Q E := ⟨_, _, _, _, rfl, ty_bl i, kb_bi, kb_bb, q⟩
def sp_is_within (K : PySem.W.Frag) : Sp := fun vs H Q _ => ∃ (v : V) (lo hi : Int), vs = [v, .int lo, .int hi] ∧
  ((∃ i, v = .int i ∧ Q (.bl (decide (lo ≤ i) && decide (i ≤ hi))) H) ∨ ∃ (n : String) (b1 b2 : Bool), TyX K H v (.type n) ∧ kitB n "int" = some b1 ∧ kitB n "bool" = some b2 ∧ (b1 && !b2) = false ∧ Q (.bl false) H)
def sp_is_value (K : PySem.W.Frag) : Sp := fun vs H Q _ => ∃ (v : V), vs = [v] ∧
  ((∃ i, v = .int i ∧ Q (.bl (decide (-1000000000 ≤ i) && decide (i ≤ 1000000000))) H) ∨ (∃ b, v = .bl b ∧ Q (.bl true) H) ∨ ∃ (n : String), TyX K H v (.type n) ∧ kitB n "int" = some false ∧ kitB n "bool" = some false ∧ Q (.bl false) H)
theorem ok_is_whole (T : Txt K mg Z) : FnOk P w K mg base CX0 1 Z.f_is_whole Z.fd_is_whole ["thing"] (sp_is_whole K) := by
  refine T.F_is_whole.ok sc_is_whole (fun vs H Q E h => ?_) (fun cdv AA outer s H vs Q E hr h => ?_)
  · obtain ⟨v, n, b1, b2, rfl, _⟩ := h
    rfl
  · obtain ⟨v, n, b1, b2, rfl, ty, h1, h2, k⟩ := h
    refine ⟨_, (pss_one (ps_ret (pe_and (pe_callB call_isi (by rfl) T.n_isinstance (by decide +kernel) (pa_cons (pv 0) (pa_cons (pe_bltn (v := .ty "int") (by rfl) T.n_int (by decide +kernel) rfl) pa_nil))) (pe_one (pe_not (pe_callB call_isi (by rfl) T.n_isinstance (by decide +kernel) (pa_cons (pv 0) (pa_cons (pe_bltn (v := .ty "bool") (by rfl) T.n_bool (by decide +kernel) rfl) pa_nil)))))))), ?_⟩
    walk_at "ss"
    refine isi ty h1 ?_
    walk_at "ss"
    refine if_cs (fun hb => ?_) (fun hb => ?_)
    · walk_at "ss"
      refine isi ty h2 ?_
      walk_at "ss"
      subst hb
      exact k
    · walk_at "ss"
      subst hb
      exact k
theorem ok_is_within (T : Txt K mg Z) : FnOk P w K mg base CX0 2 Z.f_is_within Z.fd_is_within ["thing", "low", "high"] (sp_is_within K) := by
  have G_is_whole := ok_is_whole (P := P) (w := w) (base := base) T
  refine T.F_is_within.ok sc_is_within (fun vs H Q E h => ?_) (fun cdv AA outer s H vs Q E hr h => ?_)
  · obtain ⟨v, lo, hi, rfl, _⟩ := h
    rfl
  · obtain ⟨v, lo, hi, rfl, k⟩ := h
    refine ⟨_, (pss_one (ps_ret (pe_and (pe_call G_is_whole (hr.mono (by omega)) rfl T.g_is_whole T.F_is_whole.kp T.b_is_whole .nil pass0 (pa_cons (pv 0) pa_nil)) (pe_one (pe_chain op_le op_le (pv 1) (pv 0) (pv 2)))))), ?_⟩
    rcases k with ⟨i, rfl, k⟩ | ⟨n, b1, b2, ty, h1, h2, hb, k⟩
    · walk_at "ss"
      refine u_whole_int ?_
      walk_at "ss"
      refine if_cs (fun hb => ?_) (fun hb => ?_)
      · walk_at "ss"
        rw [hb] at k
        exact k
      · walk_at "ss"
        rw [hb] at k
        exact k
    · walk_at "ss"
      refine ⟨_, _, _, _, rfl, ty, h1, h2, ?_⟩
      walk_at "ss"
      exact if_ff hb k
theorem ok_is_value (T : Txt K mg Z) : FnOk P w K mg base CX0 3 Z.f_is_value Z.fd_is_value ["thing"] (sp_is_value K) := by
  have G_is_within := ok_is_within (P := P) (w := w) (base := base) T
  refine T.F_is_value.ok sc_is_value (fun vs H Q E h => ?_) (fun cdv AA outer s H vs Q E hr h => ?_)
  · obtain ⟨v, rfl, _⟩ := h
    rfl
  · obtain ⟨v, rfl, k⟩ := h
    refine ⟨_, (pss_one (ps_ret (pe_or (pe_callB call_isi (by rfl) T.n_isinstance (by decide +kernel) (pa_cons (pv 0) (pa_cons (pe_bltn (v := .ty "bool") (by rfl) T.n_bool (by decide +kernel) rfl) pa_nil))) (pe_one (pe_call G_is_within (hr.mono (by omega)) rfl T.g_is_within T.F_is_within.kp T.b_is_within .nil pass0 (pa_cons (pv 0) (pa_cons (pe_un un_neg (pe_gcst rfl T.c_MOST)) (pa_cons (pe_gcst rfl T.c_MOST) pa_nil)))))))), ?_⟩
    rcases k with ⟨i, rfl, k⟩ | ⟨b, rfl, k⟩ | ⟨n, ty, h1, h2, k⟩
    · walk_at "ss"
      refine isi (ty_int i) kb_ib ?_
      walk_at "ss"
      refine ⟨_, _, _, rfl, .inl ⟨_, rfl, ?_⟩⟩
      exact k
    · walk_at "ss"
      refine isi (ty_bl b) kb_bb ?_
      walk_at "ss"
      exact k
    · walk_at "ss"
      refine isi ty h2 ?_
      walk_at "ss"
      refine ⟨_, _, _, rfl, .inr ⟨_, _, _, ty, h1, h2, rfl, ?_⟩⟩
      exact k

/-! ### the law's cells and draws -/
def sp_cell_at_l (K : PySem.W.Frag) : Sp := fun vs H Q _ => ∃ (a : Addr) (ns : List Int) (k : Int), vs = [.ref a, .int k] ∧ SqL K H a (ns.map V.int) ∧ 0 ≤ k ∧ ∀ n, Q (.int n) H
def sp_box_l : Sp := fun vs H Q _ => ∃ (c : Int), vs = [.int c] ∧ ∀ p H2, H p = none → Ex H H2 → BoxAt H2 p → Q (.ref p) H2
def sp_take_l : Sp := fun vs H Q _ => ∃ (b : Addr) (m : Int), vs = [.ref b, .int m] ∧ BoxAt H b ∧ 0 < m ∧ m < 1073741824 ∧ ∀ d H2, 0 ≤ d → d < m → ExB b H H2 → BoxAt H2 b → Q (.int d) H2
theorem ok_cell_at_l (T : Txt K mg Z) : FnOk P w K mg base CX0 1 Z.f_cell_at_l Z.fd_cell_at_l ["_law_script", "_law_k"] (sp_cell_at_l K) := by
  refine T.F_cell_at_l.ok sc_cell_at_l (fun vs H Q E h => ?_) (fun cdv AA outer s H vs Q E hr h => ?_)
  · obtain ⟨a, ns, k, rfl, _⟩ := h
    rfl
  · obtain ⟨a, ns, k, rfl, hS, h0, q⟩ := h
    refine ⟨_, (pss_cons (ps_if (pt_cmpR op_lt (pv 1) (pe_callB call_len_seq (by rfl) T.n_len (by decide +kernel) (pa_cons (pv 0) pa_nil)) (nomark _)) (pss_one (ps_ret (pe_ix ix_list (pv 0) (pv 1) (fun _ _ => rfl)))) pss_nil)
      (pss_one (ps_ret (pe_op op_add (pe_op op_mul pe_int (pv 1)) pe_int)))), ?_⟩
    walk_at "ss"
    refine ⟨_, _, rfl, .inl hS, ?_⟩
    walk_at "ss"
    refine if_cs (fun hb => ?_) (fun hb => ?_)
    · walk_at "ss"
      obtain ⟨j, rfl⟩ := Int.eq_ofNat_of_zero_le h0
      have hl := of_decide_eq_true hb
      rw [List.length_map] at hl
      have hj : j < ns.length := by omega
      refine c_ixL hS (atI_nat (v := .int (ns[j]'hj)) ?_) (q _)
      rw [List.getElem?_map, List.getElem?_eq_getElem hj] <;> rfl
    · walk_at "ss"
      refine c_I (.inl ⟨by decide, by decide⟩) ?_
      walk_at "ss"
      exact q _
theorem ok_box_l (T : Txt K mg Z) : FnOk P w K mg base CX0 1 Z.f_box_l Z.fd_box_l ["_law_cell"] sp_box_l := by
  refine T.F_box_l.ok sc_box_l (fun vs H Q E h => ?_) (fun cdv AA outer s H vs Q E hr h => ?_)
  · obtain ⟨c, rfl, _⟩ := h
    rfl
  · obtain ⟨c, rfl, k⟩ := h
    refine ⟨_, (pss_cons (ps_if (pt_cmpR op_ge (pv 0) (pe_op op_pow pe_int pe_int) (nomark _)) (pss_one (ps_ret (pe_lst (pa_cons (pv 0) (pa_cons (pe_op op_mod (pv 0) pe_int) (pa_cons pe_int pa_nil)))))) pss_nil)
      (pss_one (ps_ret (pe_lst (pa_cons pe_int (pa_cons (pe_op op_mod (pv 0) pe_int) (pa_cons pe_int pa_nil))))))), ?_⟩
    walk_at "ss"
    refine c_I ⟨by decide, by decide, by decide⟩ ?_
    walk_at "ss"
    refine if_cs (fun hb => ?_) (fun _ => ?_)
    · have hc : (0 : Int) ≤ c := by
        have := of_decide_eq_true hb
        have h0 : (0 : Int) ≤ 10 ^ Int.toNat 18 := by decide
        omega
      walk_at "ss"
      refine c_I (by decide) ?_
      walk_at "ss"
      exact newL fun p H2 hp e2 h2 => k p H2 hp e2 ⟨_, _, _, hc, h2⟩
    · walk_at "ss"
      refine c_I (by decide) ?_
      walk_at "ss"
      exact newL fun p H2 hp e2 h2 => k p H2 hp e2 ⟨_, _, _, Int.le_refl _, h2⟩
theorem ix3_0 {a b c : V} : atI [a, b, c] 0 = some a := rfl
theorem ix3_1 {a b c : V} : atI [a, b, c] 1 = some b := rfl
theorem ix3_2 {a b c : V} : atI [a, b, c] 2 = some c := rfl
theorem emod_mul {a m : Int} (h : 0 < m) (hm : m < 1073741824 * 1073741824) {b : Int} : CMul (a % m) b := by
  have h1 := Int.emod_nonneg a (by omega : m ≠ 0)
  have h2 := Int.emod_lt_of_pos a h
  exact .inl ⟨by omega, by omega⟩
theorem ok_take_l (T : Txt K mg Z) : FnOk P w K mg base CX0 1 Z.f_take_l Z.fd_take_l ["_law_box_here", "_law_many_here"] sp_take_l := by
  refine T.F_take_l.ok sc_take_l (fun vs H Q E h => ?_) (fun cdv AA outer s H vs Q E hr h => ?_)
  · obtain ⟨b, m, rfl, _⟩ := h
    rfl
  · obtain ⟨b, m, rfl, ⟨x, y, z, hx, hB⟩, m0, m1, k⟩ := h
    refine ⟨_, (pss_cons (ps_if (pt_cmpR op_gt (pe_ix ix_list (pv 0) pe_int (fun _ _ => rfl)) pe_int (nomark _)) (pss_cons (ps_set (i := 2) sc_take_l.nd rfl (Or.inl rfl) (pe_op op_mod (pe_ix ix_list (pv 0) pe_int (fun _ _ => rfl)) (pv 1)))
      (pss_cons (ps_asg (pe_op op_fdiv (pe_ix ix_list (pv 0) pe_int (fun _ _ => rfl)) (pv 1)) (pg_sub (pv 0) pe_int set_list))
      (pss_one (ps_ret (pv 2))))) pss_nil)
      (pss_cons (ps_asg (pe_op op_add (pe_ix ix_list (pv 0) pe_int (fun _ _ => rfl)) pe_int) (pg_sub (pv 0) pe_int set_list))
      (pss_cons (ps_set (i := 2) sc_take_l.nd rfl (Or.inl rfl) (pe_op op_mod (pe_op op_add (pe_op op_add (pe_op op_mul (pe_ix ix_list (pv 0) pe_int (fun _ _ => rfl)) pe_int) (pe_op op_mul pe_int (pe_ix ix_list (pv 0) pe_int (fun _ _ => rfl)))) pe_int) pe_int))
      (pss_cons (ps_set (i := 2) sc_take_l.nd rfl (Or.inl rfl) (pe_op op_mod (pe_op op_add (pe_op op_add (pe_op op_mul (pv 2) (pv 2)) (pe_op op_mul pe_int (pe_ix ix_list (pv 0) pe_int (fun _ _ => rfl)))) pe_int) pe_int))
      (pss_one (ps_ret (pe_op op_mod (pe_op op_mod (pe_op op_mul (pv 2) (pv 2)) pe_int) (pv 1)))))))), ?_⟩
    walk_at "ss"
    refine c_ixL (SqL.of hB) ix3_0 ?_
    walk_at "ss"
    refine if_cs (fun hb => ?_) (fun hb => ?_)
    · walk_at "ss"
      refine c_ixL (SqL.of hB) ix3_0 ?_
      walk_at "ss"
      refine c_I m0 ?_
      walk_at "ss"
      refine c_ixL (SqL.of hB) ix3_0 ?_
      walk_at "ss"
      refine c_I ⟨m0, m1⟩ ?_
      walk_at "ss"
      refine c_setL hB rfl ?_
      walk_at "ss"
      refine k _ _ (Int.emod_nonneg _ (by omega)) (Int.emod_lt_of_pos _ m0) ExB.upd ⟨_, _, _, Int.ediv_nonneg hx (by omega), upd_same⟩
    · walk_at "ss"
      refine c_ixL (SqL.of hB) ix3_2 ?_
      walk_at "ss"
      refine c_setL hB rfl ?_
      have hB2 : (upd H b (.lst [.int x, .int y, .int (z + 1)])) b = some (.lst [.int x, .int y, .int (z + 1)]) := upd_same
      walk_at "ss"
      refine c_ixL (SqL.of hB2) ix3_1 ?_
      walk_at "ss"
      refine c_I (.inr ⟨by decide, by decide⟩) ?_
      walk_at "ss"
      refine c_ixL (SqL.of hB2) ix3_2 ?_
      walk_at "ss"
      refine c_I (.inl ⟨by decide, by decide⟩) ?_
      walk_at "ss"
      refine c_I (by decide) ?_
      walk_at "ss"
      refine c_I (emod_mul (by decide) (by decide)) ?_
      walk_at "ss"
      refine c_ixL (SqL.of hB2) ix3_2 ?_
      walk_at "ss"
      refine c_I (.inl ⟨by decide, by decide⟩) ?_
      walk_at "ss"
      refine c_I (by decide) ?_
      walk_at "ss"
      refine c_I (emod_mul (by decide) (by decide)) ?_
      walk_at "ss"
      refine c_I (by decide) ?_
      walk_at "ss"
      refine c_I m0 ?_
      exact k _ _ (Int.emod_nonneg _ (by omega)) (Int.emod_lt_of_pos _ m0) ExB.upd ⟨_, _, _, hx, upd_same⟩

theorem box_ne {H : Hp} {b a : Addr} {o : HO} (h : BoxAt H b) (ha : H a = some o) (n : ∀ x y z : Int, o ≠ .lst [.int x, .int y, .int z]) : a ≠ b := by
  obtain ⟨x, y, z, _, q⟩ := h
  exact ne_of ha q (n x y z)
theorem at4 {v0 v1 v2 v3 : V} {d : Int} (h0 : 0 ≤ d) (h1 : d < 4) : ∃ v, atI [v0, v1, v2, v3] d = some v ∧ (d = 0 ∧ v = v0 ∨ d = 1 ∧ v = v1 ∨ d = 2 ∧ v = v2 ∨ d = 3 ∧ v = v3) := by
  have : d = 0 ∨ d = 1 ∨ d = 2 ∨ d = 3 := by omega
  rcases this with rfl | rfl | rfl | rfl
  · exact ⟨v0, rfl, .inl ⟨rfl, rfl⟩⟩
  · exact ⟨v1, rfl, .inr (.inl ⟨rfl, rfl⟩)⟩
  · exact ⟨v2, rfl, .inr (.inr (.inl ⟨rfl, rfl⟩))⟩
  · exact ⟨v3, rfl, .inr (.inr (.inr ⟨rfl, rfl⟩))⟩
/-- an item of a list that is asked by a draw: it is one of them -/
theorem at_in {xs : List V} {d : Int} (h0 : 0 ≤ d) (h1 : d < (xs.length : Int)) : ∃ v, atI xs d = some v ∧ v ∈ xs := by
  obtain ⟨j, rfl⟩ := Int.eq_ofNat_of_zero_le h0
  have hj : j < xs.length := by omega
  exact ⟨xs[j], atI_nat (List.getElem?_eq_getElem hj), List.getElem_mem hj⟩

/-! ### names -/
open TL (tl)
def ownW : List Str := ["node", "in", "out", "before", "when", "hold", "like", "same", "call", "true", "false", "mod", "beat", "desk"]
def ownV : List V := ownW.map V.str
def letC (c : Nat) : Bool := decide (97 ≤ c) && decide (c ≤ 122)
theorem tl_let : ∀ c : Nat, decide (c ∈ tl "abcdefghijklmnopqrstuvwxyz") = letC c := by
  intro c
  have e : tl "abcdefghijklmnopqrstuvwxyz" = [97, 98, 99, 100, 101, 102, 103, 104, 105, 106, 107, 108, 109, 110, 111, 112, 113, 114, 115, 116, 117, 118, 119, 120, 121, 122] := by decide +kernel
  rw [e]
  unfold letC
  rw [Bool.eq_iff_iff, decide_eq_true_eq, Bool.and_eq_true, decide_eq_true_eq, decide_eq_true_eq]
  simp only [List.mem_cons, List.not_mem_nil, or_false]
  omega
def isName (t : Str) : Bool := (decide (1 ≤ (t.length : Int)) && decide ((t.length : Int) ≤ 8)) && !inV (.str t) ownV && (tl t).all letC
def isPointed (t : Str) : Bool := decide ((t.length : Int) ≤ 80) && (Txt.split t ".").all isName
theorem kb_ss : kitB "str" "str" = some true := by decide +kernel
def sp_is_name (K : PySem.W.Frag) : Sp := fun vs H Q _ => ∃ (v : V), vs = [v] ∧ ((∃ t : Str, v = .str t ∧ t.length ≤ 50000 ∧ RetV (.bl (isName t)) H Q) ∨ ∃ n : String, TyX K H v (.type n) ∧ kitB n "str" = some false ∧ Q (.bl false) H)
theorem own_flat : ownV.all flatV = true := rfl
theorem ok_is_name (T : Txt K mg Z) : FnOk P w K mg base CX0 1 Z.f_is_name Z.fd_is_name ["thing"] (sp_is_name K) := by
  refine T.F_is_name.ok sc_is_name (fun vs H Q E h => ?_) (fun cdv AA outer s H vs Q E hr h => ?_)
  · obtain ⟨v, rfl, _⟩ := h
    rfl
  · obtain ⟨v, rfl, h⟩ := h
    refine ⟨_, (pss_cons (ps_if (PW.pt (pw_or (pt_not (pt_val (pe_callB call_isi (by rfl) T.n_isinstance (by decide +kernel) (pa_cons (pv 0) (pa_cons (pe_bltn (v := .ty "str") (by rfl) T.n_str (by decide +kernel) rfl) pa_nil))))) (pw_or (pt_not (pt_chain op_le op_le pe_int (pe_callB call_len_str (by rfl) T.n_len (by decide +kernel) (pa_cons (pv 0) pa_nil)) (pe_gcst rfl T.c_LONGEST))) (pw_or1 (pt_cmpR op_in_seq (pv 0) (pe_gcst rfl T.c_OWN) (by rfl)))))) (pss_one (ps_ret pe_bl)) pss_nil)
      (pss_one (ps_ret (pe_callB (cr_all rfl) (by rfl) T.n_all (by decide +kernel) (pa_cons (pe_lc (own := [("sign", 1)]) (g := (gName 1)) (tt := tYes) (te := (tOp (fun x y H Q => ∃ (c : Nat) (z : Str), x = .str ⟨#[c]⟩ ∧ y = .str z ∧ Q (.bl (decide (c ∈ z.cps.toList))) H) (tVar 1) (tC (.str "abcdefghijklmnopqrstuvwxyz")))) rfl sc_is_name.nd (pi_str (pv 0)) (blkOk_by (own := [("sign", 1)]) (N := N_is_name) (sc := defScope s_is_name) (by decide +kernel)) (fun _ _ _ _ _ => (pg_name (i := 1) sc_is_name.nd rfl (Or.inl rfl))) (fun _ _ _ _ _ => pts_nil) (fun _ _ _ _ _ => (pe_cmpR op_in_sign (pv 1) (pe_gcst rfl T.c_LETTERS) (by rfl)))) pa_nil))))), ?_⟩
    rcases h with ⟨t, rfl, hl, k⟩ | ⟨n, ty, kb, k⟩
    · unfold isName at k
      walk_at "ss"
      refine isi (ty_str t) kb_ss ?_
      walk_at "ss"
      refine ⟨Evl.sz_of (by omega), ?_⟩
      walk_at "ss"
      cases hlen : (decide (1 ≤ (t.length : Int)) && decide ((t.length : Int) ≤ 8)) with
      | false =>
        rw [hlen] at k
        refine if_cs (fun h1 => ?_) (fun h1 => ?_)
        · walk_at "ss"
          rw [h1, Bool.true_and] at hlen
          rw [hlen]
          walk_at "ss"
          exact k _ (Ex.refl _)
        · walk_at "ss"
          exact k _ (Ex.refl _)
      | true =>
        rw [hlen, Bool.true_and] at k
        rw [Bool.and_eq_true] at hlen
        rw [hlen.1]
        walk_at "ss"
        rw [hlen.2]
        walk_at "ss"
        refine c_in (.inr (T.t_OWN _)) rfl own_flat ?_
        refine ⟨_, rfl, if_cs (fun ho => ?_) (fun ho => ?_)⟩
        · have ho' : inV (.str t) ownV = true := ho
          rw [ho'] at k
          walk_at "ss"
          exact k _ (Ex.refl _)
        have ho' : inV (.str t) ownV = false := ho
        rw [ho', Bool.not_false, Bool.true_and] at k
        walk_at "ss"
        refine lcS (fun c => some (.bl (letC c))) hl (fun c hc => ?_) ?_
        · intro H2 e2 R hR
          walk_at "ss"
          rw [show decide (c ∈ (Str.ofString "abcdefghijklmnopqrstuvwxyz").cps.toList) = letC c from tl_let c]
          exact hR _ (Ex.refl _)
        rw [fm_some]
        intro p H2 hp e2 h2
        walk_at "ss"
        refine ⟨p, (tl t).map letC, rfl, SqL.of (by rw [h2, List.map_map]; rfl), ?_⟩
        have ea : ((tl t).map letC).all id = (tl t).all letC := by rw [List.all_map]; rfl
        rw [ea]
        exact k _ e2
    · walk_at "ss"
      refine isi ty kb ?_
      walk_at "ss"
      exact k
/-! parts of a split text -/
theorem spl_parts (S : List Nat) : ∀ (k : Nat) (acc l : List Nat) (p : List Nat), p ∈ TL.spl S k acc l → p.length ≤ acc.length + l.length ∧ ∀ c ∈ p, c ∈ acc ∨ c ∈ l := by
  intro k acc l
  induction l generalizing k acc with
  | nil =>
    intro p hp
    rw [TL.spl_nil] at hp
    have : p = acc := by simpa using hp
    subst this
    exact ⟨by simp, fun c hc => .inl hc⟩
  | cons a l ih =>
    intro p hp
    cases k with
    | succ k =>
      have hp' : p ∈ TL.spl S k acc l := hp
      obtain ⟨h1, h2⟩ := ih k acc p hp'
      exact ⟨by rw [List.length_cons]; omega, fun c hc => (h2 c hc).imp id (List.mem_cons_of_mem _)⟩
    | zero =>
      cases hh : TL.pre S (a :: l) with
      | true =>
        rw [TL.spl_hit hh] at hp
        rcases List.mem_cons.mp hp with rfl | hp
        · exact ⟨by omega, fun c hc => .inl hc⟩
        · obtain ⟨h1, h2⟩ := ih _ [] p hp
          exact ⟨by rw [List.length_nil] at h1; rw [List.length_cons]; omega, fun c hc => .inr (List.mem_cons_of_mem _ ((h2 c hc).resolve_left (by simp)))⟩
      | false =>
        rw [TL.spl_miss hh] at hp
        obtain ⟨h1, h2⟩ := ih 0 (acc ++ [a]) p hp
        refine ⟨by rw [List.length_append, List.length_singleton] at h1; rw [List.length_cons]; omega, fun c hc => ?_⟩
        rcases h2 c hc with h | h
        · rcases List.mem_append.mp h with h | h
          · exact .inl h
          · exact .inr (by have : c = a := by simpa using h
                           rw [this]; exact List.mem_cons_self)
        · exact .inr (List.mem_cons_of_mem _ h)
theorem split_pt {t p : Str} (h : p ∈ Txt.split t ".") : p.length ≤ t.length ∧ ∀ c ∈ tl p, c ∈ tl t := by
  have e := TL.split_spl t "." (by decide +kernel) (TL.kind_ok (by decide +kernel))
  have hm : tl p ∈ TL.spl (tl ".") 0 [] (tl t) := by
    rw [← e]
    exact List.mem_map_of_mem h
  obtain ⟨h1, h2⟩ := spl_parts _ _ _ _ _ hm
  rw [tl_len, tl_len, List.length_nil, Nat.zero_add] at h1
  exact ⟨h1, fun c hc => (h2 c hc).resolve_left (by simp)⟩
def sp_is_pointed (K : PySem.W.Frag) : Sp := fun vs H Q _ => ∃ (v : V), vs = [v] ∧ ((∃ t : Str, v = .str t ∧ t.length ≤ 40000 ∧ RetV (.bl (isPointed t)) H Q) ∨ ∃ n : String, TyX K H v (.type n) ∧ kitB n "str" = some false ∧ Q (.bl false) H)
theorem spl_count (S : List Nat) : ∀ (k : Nat) (acc l : List Nat), (TL.spl S k acc l).length ≤ l.length + 1 := by
  intro k acc l
  induction l generalizing k acc with
  | nil => rw [TL.spl_nil]; simp
  | cons a l ih =>
    cases k with
    | succ k => exact Nat.le_trans (ih k acc) (by rw [List.length_cons]; omega)
    | zero =>
      cases hh : TL.pre S (a :: l) with
      | true =>
        rw [TL.spl_hit hh, List.length_cons, List.length_cons]
        exact Nat.succ_le_succ (ih _ [])
      | false =>
        rw [TL.spl_miss hh, List.length_cons]
        exact Nat.le_trans (ih 0 _) (by omega)
theorem split_count {t : Str} : (Txt.split t ".").length ≤ t.length + 1 := by
  have e := TL.split_spl t "." (by decide +kernel) (TL.kind_ok (by decide +kernel))
  have h := spl_count (tl ".") 0 [] (tl t)
  rw [← e, List.length_map, tl_len] at h
  exact h
theorem ok_is_pointed (T : Txt K mg Z) : FnOk P w K mg base CX0 2 Z.f_is_pointed Z.fd_is_pointed ["thing"] (sp_is_pointed K) := by
  have G_is_name := ok_is_name (P := P) (w := w) (base := base) T
  refine T.F_is_pointed.ok sc_is_pointed (fun vs H Q E h => ?_) (fun cdv AA outer s H vs Q E hr h => ?_)
  · obtain ⟨v, rfl, _⟩ := h
    rfl
  · obtain ⟨v, rfl, h⟩ := h
    refine ⟨_, (pss_cons (ps_if (PW.pt (pw_or (pt_not (pt_val (pe_callB call_isi (by rfl) T.n_isinstance (by decide +kernel) (pa_cons (pv 0) (pa_cons (pe_bltn (v := .ty "str") (by rfl) T.n_str (by decide +kernel) rfl) pa_nil))))) (pw_or1 (pt_cmpR op_gt (pe_callB call_len_str (by rfl) T.n_len (by decide +kernel) (pa_cons (pv 0) pa_nil)) (pe_gcst rfl T.c_MOST_SIGNS) (nomark _))))) (pss_one (ps_ret pe_bl)) pss_nil)
      (pss_one (ps_ret (pe_callB (cr_all rfl) (by rfl) T.n_all (by decide +kernel) (pa_cons (pe_lc (own := [("part", 1)]) (g := (gName 1)) (tt := tYes) (te := (tCall (sp_is_name K) [] E0 (tCons (tVar 1) tNil))) rfl sc_is_pointed.nd (pi_list (pe_split (pv 0) pe_str)) (blkOk_by (own := [("part", 1)]) (N := N_is_pointed) (sc := defScope s_is_pointed) (by decide +kernel)) (fun _ _ _ _ _ => (pg_name (i := 1) sc_is_pointed.nd rfl (Or.inl rfl))) (fun _ _ _ _ _ => pts_nil) (fun _ _ _ _ _ => (pe_call G_is_name (hr.mono (by omega)) rfl T.g_is_name T.F_is_name.kp T.b_is_name .nil pass0 (pa_cons (pv 1) pa_nil)))) pa_nil))))), ?_⟩
    rcases h with ⟨t, rfl, hl, k⟩ | ⟨n, ty, kb, k⟩
    · unfold isPointed at k
      walk_at "ss"
      refine isi (ty_str t) kb_ss ?_
      walk_at "ss"
      refine ⟨Evl.sz_of (by omega), ?_⟩
      walk_at "ss"
      refine if_cs (fun h80 => ?_) (fun h80 => ?_)
      · have : ¬ (t.length : Int) ≤ 80 := by have := of_decide_eq_true h80; omega
        rw [decide_eq_false this] at k
        walk_at "ss"
        exact k _ (Ex.refl _)
      have : (t.length : Int) ≤ 80 := by have := of_decide_eq_false h80; omega
      rw [decide_eq_true this, Bool.true_and] at k
      walk_at "ss"
      refine ⟨⟨_, rfl⟩, ?_⟩
      walk_at "ss"
      refine ⟨Evl.sz_of (by omega), fun q hq => ?_⟩
      have f1 : Ex H (upd H q (.lst ((Txt.split t ".").map V.str))) := Ex.new hq
      generalize hH1 : upd H q (.lst ((Txt.split t ".").map V.str)) = H1 at f1
      have g1 : H1 q = some (.lst ((Txt.split t ".").map V.str)) := by rw [← hH1, upd_same]
      walk_at "ss"
      refine ⟨⟨_, SqL.of g1⟩, lcLv (fun v => match v with | .str p => some (.bl (isName p)) | _ => none) (SqL.of g1) (by have := split_count (t := t); rw [List.length_map]; omega) (fun v hv => ?_) ?_⟩
      · obtain ⟨p, hp, rfl⟩ := List.mem_map.mp hv
        have hpl := (split_pt hp).1
        intro H2 e2 R hR
        walk_at "ss"
        refine ⟨_, rfl, .inl ⟨_, rfl, by omega, fun H3 e3 => ?_⟩⟩
        exact hR _ e3
      have em : ((Txt.split t ".").map V.str).filterMap (fun v => match v with | .str p => some (V.bl (isName p)) | _ => none) = ((Txt.split t ".").map isName).map V.bl := by
        rw [List.filterMap_map, List.map_map]
        exact fm_some (F := fun p => V.bl (isName p)) _
      rw [em]
      intro p2 H2 hp2 e2 g2
      walk_at "ss"
      refine ⟨p2, (Txt.split t ".").map isName, rfl, SqL.of g2, ?_⟩
      have ea : ((Txt.split t ".").map isName).all id = (Txt.split t ".").all isName := by rw [List.all_map]; rfl
      rw [ea]
      exact k _ (f1.trans e2)
    · walk_at "ss"
      refine isi ty kb ?_
      walk_at "ss"
      exact k

/-! ### terms: the plain side -/
inductive Tm where
  | nm (s : Str)
  | vl (v : V)
  | two (op : Str) (a b : Tm)
  | nt (a : Tm)
  | pk (c a b : Tm)
def Tm.parts : Tm → List Tm
  | .two _ a b => [a, b]
  | .nt a => [a]
  | .pk c a b => [c, a, b]
  | _ => []
def Tm.dep : Tm → Nat
  | .nm _ => 1
  | .vl _ => 1
  | .two _ a b => 1 + max a.dep b.dep
  | .nt a => 1 + a.dep
  | .pk c a b => 1 + max (max c.dep a.dep) b.dep
def addN (found more : List Str) : List Str := found ++ more.filter fun n => !found.contains n
def Tm.names : Tm → List Str
  | .nm s => [s]
  | .vl _ => []
  | .two _ a b => addN (addN [] a.names) b.names
  | .nt a => addN [] a.names
  | .pk c a b => addN (addN (addN [] c.names) a.names) b.names
theorem Tm.names_parts (t : Tm) (h : ∀ s, t ≠ .nm s) : t.names = t.parts.foldl (fun acc p => addN acc p.names) [] := by
  cases t with
  | nm s => exact absurd rfl (h s)
  | vl v => rfl
  | two op a b => rfl
  | nt a => rfl
  | pk c a b => rfl
theorem Tm.dep_parts (t : Tm) : (t.dep : Int) = 1 + maxL (t.parts.map fun p => (p.dep : Int)) := by
  have m2 : ∀ a b : Nat, PySem.W.maxOf (a : Int) [(b : Int)] = ((max a b : Nat) : Int) := by
    intro a b
    show (if decide ((a : Int) < (b : Int)) = true then (b : Int) else (a : Int)) = _
    by_cases h : (a : Int) < (b : Int)
    · rw [if_pos (decide_eq_true h)]; omega
    · rw [if_neg (by rw [decide_eq_false h]; decide)]; omega
  have m3 : ∀ a b c : Nat, PySem.W.maxOf (a : Int) [(b : Int), (c : Int)] = ((max (max a b) c : Nat) : Int) := by
    intro a b c
    have h1 := m2 a b
    have h2 := m2 (max a b) c
    show PySem.W.maxOf (PySem.W.maxOf (a : Int) [(b : Int)]) [(c : Int)] = _
    rw [h1, h2]
  cases t with
  | nm s => rfl
  | vl v => rfl
  | two op a b =>
    show ((1 + max a.dep b.dep : Nat) : Int) = 1 + PySem.W.maxOf (a.dep : Int) [(b.dep : Int)]
    rw [m2]; omega
  | nt a =>
    show ((1 + a.dep : Nat) : Int) = 1 + (a.dep : Int)
    omega
  | pk c a b =>
    show ((1 + max (max c.dep a.dep) b.dep : Nat) : Int) = 1 + PySem.W.maxOf (c.dep : Int) [(a.dep : Int), (b.dep : Int)]
    rw [m3]; omega
theorem Tm.dep_pos (t : Tm) : 1 ≤ t.dep := by cases t <;> simp [Tm.dep] <;> omega
theorem Tm.dep_part {t p : Tm} (h : p ∈ t.parts) : p.dep + 1 ≤ t.dep := by
  cases t with
  | nm s => cases h
  | vl v => cases h
  | two op a b =>
    simp only [Tm.parts, List.mem_cons, List.not_mem_nil, or_false] at h
    rcases h with rfl | rfl <;> simp only [Tm.dep] <;> omega
  | nt a =>
    simp only [Tm.parts, List.mem_cons, List.not_mem_nil, or_false] at h
    subst h; simp only [Tm.dep]; omega
  | pk c a b =>
    simp only [Tm.parts, List.mem_cons, List.not_mem_nil, or_false] at h
    rcases h with rfl | rfl | rfl <;> simp only [Tm.dep] <;> omega
theorem Tm.parts_len (t : Tm) : t.parts.length ≤ 3 := by cases t <;> simp [Tm.parts]
/-! ### terms in the heap -/
def TermAt (Z : Adr) (H : Hp) : Tm → V → Prop
  | .nm s, v => ∃ a dx, v = .ref a ∧ H a = some (.ins Z.c_Name dx [("name", .str s)])
  | .vl x, v => ∃ a dx, v = .ref a ∧ H a = some (.ins Z.c_Value dx [("amount", x)])
  | .two op p q, v => ∃ a dx v1 v2, v = .ref a ∧ H a = some (.ins Z.c_Two dx [("op", .str op), ("one", v1), ("second", v2)]) ∧ TermAt Z H p v1 ∧ TermAt Z H q v2
  | .nt p, v => ∃ a dx v1, v = .ref a ∧ H a = some (.ins Z.c_Not dx [("one", v1)]) ∧ TermAt Z H p v1
  | .pk c p q, v => ∃ a dx v0 v1 v2, v = .ref a ∧ H a = some (.ins Z.c_Pick dx [("by", v0), ("one", v1), ("second", v2)]) ∧ TermAt Z H c v0 ∧ TermAt Z H p v1 ∧ TermAt Z H q v2
def InsK (H H2 : Hp) : Prop := ∀ a C dx fs, H a = some (.ins C dx fs) → H2 a = some (.ins C dx fs)
theorem TermAt.keep {Z : Adr} {H H2 : Hp} (e : InsK H H2) : ∀ {t : Tm} {v : V}, TermAt Z H t v → TermAt Z H2 t v := by
  intro t
  induction t with
  | nm s => rintro v ⟨a, dx, h1, h2⟩; exact ⟨a, dx, h1, e _ _ _ _ h2⟩
  | vl x => rintro v ⟨a, dx, h1, h2⟩; exact ⟨a, dx, h1, e _ _ _ _ h2⟩
  | two op p q ihp ihq => rintro v ⟨a, dx, v1, v2, h1, h2, h3, h4⟩; exact ⟨a, dx, v1, v2, h1, e _ _ _ _ h2, ihp h3, ihq h4⟩
  | nt p ihp => rintro v ⟨a, dx, v1, h1, h2, h3⟩; exact ⟨a, dx, v1, h1, e _ _ _ _ h2, ihp h3⟩
  | pk c p q ihc ihp ihq => rintro v ⟨a, dx, v0, v1, v2, h1, h2, h3, h4, h5⟩; exact ⟨a, dx, v0, v1, v2, h1, e _ _ _ _ h2, ihc h3, ihp h4, ihq h5⟩
theorem TermAt.up {Z : Adr} {H H2 : Hp} {t : Tm} {v : V} (h : TermAt Z H t v) (e : Ex H H2) : TermAt Z H2 t v := h.keep fun a C dx fs q => e _ _ q
theorem TermAt.upB {Z : Adr} {H H2 : Hp} {t : Tm} {v : V} {b : Addr} (h : TermAt Z H t v) (e : ExB b H H2) (hB : BoxAt H b) : TermAt Z H2 t v := h.keep fun a C dx fs q => e _ _ (box_ne hB q (fun _ _ _ z => by cases z)) q
def MC (Z : Adr) (C : Addr) : Prop := C = Z.c_Name ∨ C = Z.c_Value ∨ C = Z.c_Two ∨ C = Z.c_Not ∨ C = Z.c_Pick
/-- the class that a term is made of -/
def clsT (Z : Adr) : Tm → Addr
  | .nm _ => Z.c_Name
  | .vl _ => Z.c_Value
  | .two .. => Z.c_Two
  | .nt _ => Z.c_Not
  | .pk .. => Z.c_Pick
theorem clsT_MC (Z : Adr) (t : Tm) : MC Z (clsT Z t) := by
  cases t
  · exact .inl rfl
  · exact .inr (.inl rfl)
  · exact .inr (.inr (.inl rfl))
  · exact .inr (.inr (.inr (.inl rfl)))
  · exact .inr (.inr (.inr (.inr rfl)))
def fieldsOff (fs : List (Str × V)) : Prop := fs.lookup ("parts" : Str) = none ∧ fs.lookup ("names" : Str) = none ∧ fs.lookup ("levels" : Str) = none ∧ fs.lookup ("told" : Str) = none
theorem TermAt.cls {Z : Adr} {H : Hp} {t : Tm} {v : V} (h : TermAt Z H t v) : ∃ a dx fs, v = .ref a ∧ H a = some (.ins (clsT Z t) dx fs) ∧ fieldsOff fs := by
  have n1 : ∀ m f : Str, m ≠ f → (m == f) = false := fun m f h => by simpa using h
  cases t with
  | nm s =>
    obtain ⟨a, dx, h1, h2⟩ := h
    refine ⟨a, dx, _, h1, h2, ?_, ?_, ?_, ?_⟩ <;> (simp only [List.lookup]; rw [n1 _ _ (by decide +kernel)])
  | vl x =>
    obtain ⟨a, dx, h1, h2⟩ := h
    refine ⟨a, dx, _, h1, h2, ?_, ?_, ?_, ?_⟩ <;> (simp only [List.lookup]; rw [n1 _ _ (by decide +kernel)])
  | two op p q =>
    obtain ⟨a, dx, v1, v2, h1, h2, _⟩ := h
    refine ⟨a, dx, _, h1, h2, ?_, ?_, ?_, ?_⟩ <;> (simp only [List.lookup]; rw [n1 _ _ (by decide +kernel)]; simp only []; rw [n1 _ _ (by decide +kernel)]; simp only []; rw [n1 _ _ (by decide +kernel)])
  | nt p =>
    obtain ⟨a, dx, v1, h1, h2, _⟩ := h
    refine ⟨a, dx, _, h1, h2, ?_, ?_, ?_, ?_⟩ <;> (simp only [List.lookup]; rw [n1 _ _ (by decide +kernel)])
  | pk c p q =>
    obtain ⟨a, dx, v0, v1, v2, h1, h2, _⟩ := h
    refine ⟨a, dx, _, h1, h2, ?_, ?_, ?_, ?_⟩ <;> (simp only [List.lookup]; rw [n1 _ _ (by decide +kernel)]; simp only []; rw [n1 _ _ (by decide +kernel)]; simp only []; rw [n1 _ _ (by decide +kernel)])

/-! ### methods of terms: parts, levels, names -/
theorem lk_hd {f : Str} {v : V} {fs : List (Str × V)} : List.lookup f ((f, v) :: fs) = some v := by simp [List.lookup]
theorem lk_tl {f g : Str} {v : V} {fs : List (Str × V)} {r : Option V} (h : (f == g) = false) (k : List.lookup f fs = r) : List.lookup f ((g, v) :: fs) = r := by
  simp only [List.lookup, h]
  exact k
theorem put_tl {f g : Str} {v w : V} {fs : List (Str × V)} (h : decide (g = f) = false) : putF f v ((g, w) :: fs) = (g, w) :: putF f v fs := by rw [putF, if_neg (of_decide_eq_false h)]
theorem cls_two (T : Txt K mg Z) {t : Tm} (h : clsT Z t = Z.c_Two) : ∃ op a b, t = .two op a b := by
  cases t with
  | nm s => exact absurd h (difB_ne (i := 0) (j := 2) T.fact_dif rfl rfl (by decide))
  | vl s => exact absurd h (difB_ne (i := 1) (j := 2) T.fact_dif rfl rfl (by decide))
  | two op a b => exact ⟨_, _, _, rfl⟩
  | nt a => exact absurd h.symm (difB_ne (i := 2) (j := 3) T.fact_dif rfl rfl (by decide))
  | pk c a b => exact absurd h.symm (difB_ne (i := 2) (j := 4) T.fact_dif rfl rfl (by decide))
theorem cls_nt (T : Txt K mg Z) {t : Tm} (h : clsT Z t = Z.c_Not) : ∃ a, t = .nt a := by
  cases t with
  | nm s => exact absurd h (difB_ne (i := 0) (j := 3) T.fact_dif rfl rfl (by decide))
  | vl s => exact absurd h (difB_ne (i := 1) (j := 3) T.fact_dif rfl rfl (by decide))
  | two op a b => exact absurd h (difB_ne (i := 2) (j := 3) T.fact_dif rfl rfl (by decide))
  | nt a => exact ⟨_, rfl⟩
  | pk c a b => exact absurd h.symm (difB_ne (i := 3) (j := 4) T.fact_dif rfl rfl (by decide))
theorem cls_pk (T : Txt K mg Z) {t : Tm} (h : clsT Z t = Z.c_Pick) : ∃ c a b, t = .pk c a b := by
  cases t with
  | nm s => exact absurd h (difB_ne (i := 0) (j := 4) T.fact_dif rfl rfl (by decide))
  | vl s => exact absurd h (difB_ne (i := 1) (j := 4) T.fact_dif rfl rfl (by decide))
  | two op a b => exact absurd h (difB_ne (i := 2) (j := 4) T.fact_dif rfl rfl (by decide))
  | nt a => exact absurd h (difB_ne (i := 3) (j := 4) T.fact_dif rfl rfl (by decide))
  | pk c a b => exact ⟨_, _, _, rfl⟩
theorem cls_nm (T : Txt K mg Z) {t : Tm} (h : clsT Z t = Z.c_Name) : ∃ s, t = .nm s := by
  cases t with
  | nm s => exact ⟨_, rfl⟩
  | vl s => exact absurd h.symm (difB_ne (i := 0) (j := 1) T.fact_dif rfl rfl (by decide))
  | two op a b => exact absurd h.symm (difB_ne (i := 0) (j := 2) T.fact_dif rfl rfl (by decide))
  | nt a => exact absurd h.symm (difB_ne (i := 0) (j := 3) T.fact_dif rfl rfl (by decide))
  | pk c a b => exact absurd h.symm (difB_ne (i := 0) (j := 4) T.fact_dif rfl rfl (by decide))
theorem cls_vl (T : Txt K mg Z) {t : Tm} (h : clsT Z t = Z.c_Value) : ∃ s, t = .vl s := by
  cases t with
  | nm s => exact absurd h (difB_ne (i := 0) (j := 1) T.fact_dif rfl rfl (by decide))
  | vl s => exact ⟨_, rfl⟩
  | two op a b => exact absurd h.symm (difB_ne (i := 1) (j := 2) T.fact_dif rfl rfl (by decide))
  | nt a => exact absurd h.symm (difB_ne (i := 1) (j := 3) T.fact_dif rfl rfl (by decide))
  | pk c a b => exact absurd h.symm (difB_ne (i := 1) (j := 4) T.fact_dif rfl rfl (by decide))
def PartsAt (Z : Adr) (H : Hp) : List Tm → List V → Prop
  | [], [] => True
  | t :: ts, v :: vs => TermAt Z H t v ∧ PartsAt Z H ts vs
  | _, _ => False
theorem PartsAt.len {Z : Adr} {H : Hp} : ∀ {ts : List Tm} {vs : List V}, PartsAt Z H ts vs → vs.length = ts.length
  | [], [], _ => rfl
  | t :: ts, v :: vs, h => by rw [List.length_cons, List.length_cons, PartsAt.len h.2]
theorem PartsAt.at {Z : Adr} {H : Hp} : ∀ {ts : List Tm} {vs : List V} {i : Nat} {v : V}, PartsAt Z H ts vs → vs[i]? = some v → ∃ t, ts[i]? = some t ∧ TermAt Z H t v
  | [], [], i, v, _, h => by simp at h
  | t :: ts, w :: vs, 0, v, h, e => by
    have : w = v := by simpa using e
    subst this
    exact ⟨t, rfl, h.1⟩
  | t :: ts, w :: vs, i + 1, v, h, e => by
    rw [List.getElem?_cons_succ] at e
    obtain ⟨t2, h2, h3⟩ := PartsAt.at h.2 e
    exact ⟨t2, by rw [List.getElem?_cons_succ]; exact h2, h3⟩
theorem PartsAt.up {Z : Adr} {H H2 : Hp} (e : Ex H H2) : ∀ {ts : List Tm} {vs : List V}, PartsAt Z H ts vs → PartsAt Z H2 ts vs
  | [], [], _ => True.intro
  | t :: ts, v :: vs, h => ⟨h.1.up e, PartsAt.up e h.2⟩
def spk_parts (Z : Adr) (S : Tm → Prop) : Sp := fun vs H Q _ => ∃ t v, vs = [v] ∧ TermAt Z H t v ∧ S t ∧ ∀ ws p H2, H p = none → Ex H H2 → H2 p = some (.lst ws) → PartsAt Z H2 t.parts ws → Q (.ref p) H2
def spm_parts (Z : Adr) (C : Addr) : Sp := spk_parts Z fun t => clsT Z t = C
theorem ok_Term_parts (T : Txt K mg Z) : FnOk P w K mg base CX0 1 Z.f_Term_parts Z.fd_Term_parts ["self"] (spk_parts Z fun t => t.parts = []) := by
  refine T.F_Term_parts.ok sc_Term_parts (fun vs H Q E h => ?_) (fun cdv AA outer s H vs Q E hr h => ?_)
  · obtain ⟨t, v, rfl, _⟩ := h
    rfl
  · obtain ⟨t, v, rfl, ht, hp, k⟩ := h
    refine ⟨_, (pss_one (ps_ret (pe_lst pa_nil))), ?_⟩
    walk_at "ss"
    refine newL fun p H2 h0 e2 g2 => k _ p H2 h0 e2 g2 ?_
    rw [hp]
    exact True.intro
theorem ok_Two_parts (T : Txt K mg Z) : FnOk P w K mg base CX0 1 Z.f_Two_parts Z.fd_Two_parts ["self"] (spk_parts Z fun t => ∃ op a b, t = .two op a b) := by
  refine T.F_Two_parts.ok sc_Two_parts (fun vs H Q E h => ?_) (fun cdv AA outer s H vs Q E hr h => ?_)
  · obtain ⟨t, v, rfl, _⟩ := h
    rfl
  · obtain ⟨t, v, rfl, ht, ⟨op, x, y, rfl⟩, k⟩ := h
    have TX := tcB_ok T.x_Two
    obtain ⟨a, dx, v1, v2, rfl, ha, h1, h2⟩ := ht
    refine ⟨_, (pss_one (ps_ret (pe_lst (pa_cons (pe_fld (pv 0) (by rfl)) (pa_cons (pe_fld (pv 0) (by rfl)) pa_nil))))), ?_⟩
    walk_at "ss"
    refine ⟨_, _, _, _, _, rfl, ha, TX.cl, TX.no _ (by decide +kernel), lk_tl (by decide +kernel) lk_hd, ?_⟩
    walk_at "ss"
    refine ⟨_, _, _, _, _, rfl, ha, TX.cl, TX.no _ (by decide +kernel), lk_tl (by decide +kernel) (lk_tl (by decide +kernel) lk_hd), ?_⟩
    walk_at "ss"
    exact newL fun p H2 h0 e2 g2 => k _ p H2 h0 e2 g2 ⟨h1.up e2, h2.up e2, True.intro⟩
theorem ok_Not_parts (T : Txt K mg Z) : FnOk P w K mg base CX0 1 Z.f_Not_parts Z.fd_Not_parts ["self"] (spk_parts Z fun t => ∃ a, t = .nt a) := by
  refine T.F_Not_parts.ok sc_Not_parts (fun vs H Q E h => ?_) (fun cdv AA outer s H vs Q E hr h => ?_)
  · obtain ⟨t, v, rfl, _⟩ := h
    rfl
  · obtain ⟨t, v, rfl, ht, ⟨x, rfl⟩, k⟩ := h
    have TX := tcB_ok T.x_Not
    obtain ⟨a, dx, v1, rfl, ha, h1⟩ := ht
    refine ⟨_, (pss_one (ps_ret (pe_lst (pa_cons (pe_fld (pv 0) (by rfl)) pa_nil)))), ?_⟩
    walk_at "ss"
    refine ⟨_, _, _, _, _, rfl, ha, TX.cl, TX.no _ (by decide +kernel), lk_hd, ?_⟩
    walk_at "ss"
    exact newL fun p H2 h0 e2 g2 => k _ p H2 h0 e2 g2 ⟨h1.up e2, True.intro⟩
theorem ok_Pick_parts (T : Txt K mg Z) : FnOk P w K mg base CX0 1 Z.f_Pick_parts Z.fd_Pick_parts ["self"] (spk_parts Z fun t => ∃ c a b, t = .pk c a b) := by
  refine T.F_Pick_parts.ok sc_Pick_parts (fun vs H Q E h => ?_) (fun cdv AA outer s H vs Q E hr h => ?_)
  · obtain ⟨t, v, rfl, _⟩ := h
    rfl
  · obtain ⟨t, v, rfl, ht, ⟨c, x, y, rfl⟩, k⟩ := h
    have TX := tcB_ok T.x_Pick
    obtain ⟨a, dx, v0, v1, v2, rfl, ha, h0, h1, h2⟩ := ht
    refine ⟨_, (pss_one (ps_ret (pe_lst (pa_cons (pe_fld (pv 0) (by rfl)) (pa_cons (pe_fld (pv 0) (by rfl)) (pa_cons (pe_fld (pv 0) (by rfl)) pa_nil)))))), ?_⟩
    walk_at "ss"
    refine ⟨_, _, _, _, _, rfl, ha, TX.cl, TX.no _ (by decide +kernel), lk_hd, ?_⟩
    walk_at "ss"
    refine ⟨_, _, _, _, _, rfl, ha, TX.cl, TX.no _ (by decide +kernel), lk_tl (by decide +kernel) lk_hd, ?_⟩
    walk_at "ss"
    refine ⟨_, _, _, _, _, rfl, ha, TX.cl, TX.no _ (by decide +kernel), lk_tl (by decide +kernel) (lk_tl (by decide +kernel) lk_hd), ?_⟩
    walk_at "ss"
    exact newL fun p H2 hp e2 g2 => k _ p H2 hp e2 g2 ⟨h0.up e2, h1.up e2, h2.up e2, True.intro⟩
theorem gm_parts (T : Txt K mg Z) : ∀ C, MC Z C → MOk P w K mg base CX0 1 C "parts" (spm_parts Z C) := by
  rintro C (rfl | rfl | rfl | rfl | rfl)
  · exact ⟨(tcB_ok T.x_Name).cl, _, _, _, ⟨T.h_parts_Name, T.y_Term_parts, T.F_Term_parts.kp⟩, (ok_Term_parts T).imp fun vs H Q E ⟨t, v, e, h, hc, k⟩ => ⟨t, v, e, h, (by obtain ⟨s, rfl⟩ := cls_nm T hc; rfl), k⟩, T.b_Term_parts⟩
  · exact ⟨(tcB_ok T.x_Value).cl, _, _, _, ⟨T.h_parts_Value, T.y_Term_parts, T.F_Term_parts.kp⟩, (ok_Term_parts T).imp fun vs H Q E ⟨t, v, e, h, hc, k⟩ => ⟨t, v, e, h, (by obtain ⟨s, rfl⟩ := cls_vl T hc; rfl), k⟩, T.b_Term_parts⟩
  · exact ⟨(tcB_ok T.x_Two).cl, _, _, _, ⟨T.h_parts_Two, T.y_Two_parts, T.F_Two_parts.kp⟩, (ok_Two_parts T).imp fun vs H Q E ⟨t, v, e, h, hc, k⟩ => ⟨t, v, e, h, cls_two T hc, k⟩, T.b_Two_parts⟩
  · exact ⟨(tcB_ok T.x_Not).cl, _, _, _, ⟨T.h_parts_Not, T.y_Not_parts, T.F_Not_parts.kp⟩, (ok_Not_parts T).imp fun vs H Q E ⟨t, v, e, h, hc, k⟩ => ⟨t, v, e, h, cls_nt T hc, k⟩, T.b_Not_parts⟩
  · exact ⟨(tcB_ok T.x_Pick).cl, _, _, _, ⟨T.h_parts_Pick, T.y_Pick_parts, T.F_Pick_parts.kp⟩, (ok_Pick_parts T).imp fun vs H Q E ⟨t, v, e, h, hc, k⟩ => ⟨t, v, e, h, cls_pk T hc, k⟩, T.b_Pick_parts⟩
/-! levels -/
def spt_levels (Z : Adr) (n : Nat) : Sp := fun vs H Q _ => ∃ t v, vs = [v] ∧ TermAt Z H t v ∧ t.dep ≤ n ∧ RetV (.int (t.dep : Nat)) H Q
def spm_levels (Z : Adr) (n : Nat) (C : Addr) : Sp := spt_levels Z n
theorem ok_Term_levels (T : Txt K mg Z) {n : Nat} (GM_parts : ∀ C, MC Z C → MOk P w K mg base CX0 1 C "parts" (spm_parts Z C)) (GM_levels : ∀ C, MC Z C → MOk P w K mg base CX0 (n + 2) C "levels" (spm_levels Z n C)) : FnOk P w K mg base CX0 (n + 3) Z.f_Term_levels Z.fd_Term_levels ["self"] (spt_levels Z (n + 1)) := by
  refine T.F_Term_levels.ok sc_Term_levels (fun vs H Q E h => ?_) (fun cdv AA outer s H vs Q E hr h => ?_)
  · obtain ⟨t, v, rfl, _⟩ := h
    rfl
  · obtain ⟨t, v, rfl, ht, hd, k⟩ := h
    obtain ⟨a, dx, fs, rfl, ha, l1, l2, l3, l4⟩ := ht.cls
    refine ⟨_, (pss_one (ps_ret (pe_op op_add pe_int (pe_callBK (call_maxD hr) (by rfl) T.n_max (by decide +kernel) (pa_cons (pe_lc (own := [("part", 1)]) (g := (gName 1)) (tt := tYes) (te := (tMP (MC Z) "levels" (spm_levels Z n) E0 (tVar 1) tNil)) rfl sc_Term_levels.nd (pi_list (pe_methP0 (pv 0) GM_parts (hr.mono (by omega)) pass0)) (blkOk_by (own := [("part", 1)]) (N := N_Term_levels) (sc := defScope s_Term_levels) (by decide +kernel)) (fun _ _ _ _ _ => (pg_name (i := 1) sc_Term_levels.nd rfl (Or.inl rfl))) (fun _ _ _ _ _ => pts_nil) (fun _ _ _ _ _ => (pe_methP0 (pv 1) GM_levels (hr.mono (by omega)) pass0))) pa_nil) (pk_cons pe_int pk_nil))))), ?_⟩
    walk_at "ss"
    refine ⟨a, _, dx, fs, rfl, ha, clsT_MC Z t, l1, ?_⟩
    walk_at "ss"
    refine ⟨t, _, rfl, ht, rfl, fun ws p H2 hp e2 g2 hw => ?_⟩
    have hl := hw.len
    have hl3 := t.parts_len
    refine ⟨p, rfl, ⟨_, SqL.of g2⟩, lcL (fun i => (t.parts[i]?).bind fun q => some (.int (q.dep : Nat))) (SqL.of g2) (by omega) (fun i x hx => ?_) ?_⟩
    · obtain ⟨q, hq, hqx⟩ := hw.at hx
      intro H3 e3 R hR
      have hqx3 := hqx.up e3
      obtain ⟨a4, dx4, fs4, rfl, ha4, m1, m2, m3, m4⟩ := hqx3.cls
      walk_at "ss"
      refine ⟨a4, _, dx4, fs4, rfl, ha4, clsT_MC Z q, m3, ?_⟩
      walk_at "ss"
      have := Tm.dep_part (List.mem_of_getElem? hq)
      refine ⟨q, _, rfl, hqx3, by omega, fun H4 e4 => ?_⟩
      rw [hq] at hR
      exact hR _ e4
    rw [hl, fm_range, fm_some]
    intro p3 H3 hp3 e3 g3
    walk_at "ss"
    have em : t.parts.map (fun q => V.int (q.dep : Nat)) = (t.parts.map fun q => ((q.dep : Nat) : Int)).map V.int := by rw [List.map_map]; rfl
    rw [em] at g3
    have ed := t.dep_parts
    refine ⟨p3, _, _, rfl, rfl, SqL.of g3, fun e0 => ?_, fun y ys e0 => ?_⟩
    · walk_at "ss"
      rw [e0] at ed
      have e1 : (1 : Int) + 0 = (t.dep : Nat) := by rw [ed]; rfl
      rw [e1]
      exact k _ (e2.trans e3)
    · walk_at "ss"
      rw [e0] at ed
      have e1 : (1 : Int) + PySem.W.maxOf y ys = (t.dep : Nat) := by rw [ed]; rfl
      rw [e1]
      exact k _ (e2.trans e3)
theorem mok_none {n k : Nat} {C : Addr} {m : Str} {f : Addr} {fd : FuncData} {ps : List Str} {sp : Sp} (cl : Cls K C) (hm : Meth K C m f) (hb : Binds K fd ps []) (h : ∀ vs H Q E, ¬ sp vs H Q E) : MOk P w K mg base CX0 k C m sp :=
  ⟨cl, f, fd, ps, hm, ⟨fun vs H Q E q => (h _ _ _ _ q).elim, fun _ _ _ _ _ _ _ _ _ _ _ _ _ q => (h _ _ _ _ q).elim⟩, hb⟩
theorem gm_levels (T : Txt K mg Z) : ∀ n, ∀ C, MC Z C → MOk P w K mg base CX0 (n + 2) C "levels" (spm_levels Z n C) := by
  intro n
  induction n with
  | zero =>
    have hN : ∀ vs H Q E, ¬ spt_levels Z 0 vs H Q E := fun vs H Q E ⟨t, v, _, _, hd, _⟩ => by have := t.dep_pos; omega
    rintro C (rfl | rfl | rfl | rfl | rfl)
    · exact mok_none (n := 0) (tcB_ok T.x_Name).cl ⟨T.h_levels_Name, T.y_Term_levels, T.F_Term_levels.kp⟩ T.b_Term_levels hN
    · exact mok_none (n := 0) (tcB_ok T.x_Value).cl ⟨T.h_levels_Value, T.y_Term_levels, T.F_Term_levels.kp⟩ T.b_Term_levels hN
    · exact mok_none (n := 0) (tcB_ok T.x_Two).cl ⟨T.h_levels_Two, T.y_Term_levels, T.F_Term_levels.kp⟩ T.b_Term_levels hN
    · exact mok_none (n := 0) (tcB_ok T.x_Not).cl ⟨T.h_levels_Not, T.y_Term_levels, T.F_Term_levels.kp⟩ T.b_Term_levels hN
    · exact mok_none (n := 0) (tcB_ok T.x_Pick).cl ⟨T.h_levels_Pick, T.y_Term_levels, T.F_Term_levels.kp⟩ T.b_Term_levels hN
  | succ n ih =>
    have F := ok_Term_levels (P := P) (w := w) (base := base) T (gm_parts T) ih
    rintro C (rfl | rfl | rfl | rfl | rfl)
    · exact ⟨(tcB_ok T.x_Name).cl, _, _, _, ⟨T.h_levels_Name, T.y_Term_levels, T.F_Term_levels.kp⟩, F, T.b_Term_levels⟩
    · exact ⟨(tcB_ok T.x_Value).cl, _, _, _, ⟨T.h_levels_Value, T.y_Term_levels, T.F_Term_levels.kp⟩, F, T.b_Term_levels⟩
    · exact ⟨(tcB_ok T.x_Two).cl, _, _, _, ⟨T.h_levels_Two, T.y_Term_levels, T.F_Term_levels.kp⟩, F, T.b_Term_levels⟩
    · exact ⟨(tcB_ok T.x_Not).cl, _, _, _, ⟨T.h_levels_Not, T.y_Term_levels, T.F_Term_levels.kp⟩, F, T.b_Term_levels⟩
    · exact ⟨(tcB_ok T.x_Pick).cl, _, _, _, ⟨T.h_levels_Pick, T.y_Term_levels, T.F_Term_levels.kp⟩, F, T.b_Term_levels⟩

/-! names -/
theorem PartsAt.keep {Z : Adr} {H H2 : Hp} (e : InsK H H2) : ∀ {ts : List Tm} {vs : List V}, PartsAt Z H ts vs → PartsAt Z H2 ts vs
  | [], [], _ => True.intro
  | t :: ts, v :: vs, h => ⟨h.1.keep e, PartsAt.keep e h.2⟩
theorem InsK.lst {H : Hp} {f : Addr} {xs : List V} {o : HO} (h : H f = some (.lst xs)) : InsK H (upd H f o) := fun a C dx fs ha => by
  rw [upd_ne (ne_of ha h (fun z => by cases z))]
  exact ha
theorem addN_len (a b : List Str) : (addN a b).length ≤ a.length + b.length := by
  unfold addN
  rw [List.length_append]
  have := List.length_filter_le (fun n => !a.contains n) b
  omega
theorem Tm.names_len (t : Tm) : t.names.length ≤ 3 ^ t.dep := by
  induction t with
  | nm s => simp [Tm.names, Tm.dep]
  | vl v => simp [Tm.names, Tm.dep]
  | two op a b iha ihb =>
    have h1 := addN_len [] a.names
    have h2 := addN_len (addN [] a.names) b.names
    have p1 : 3 ^ a.dep ≤ 3 ^ max a.dep b.dep := Nat.pow_le_pow_right (by decide) (by omega)
    have p2 : 3 ^ b.dep ≤ 3 ^ max a.dep b.dep := Nat.pow_le_pow_right (by decide) (by omega)
    have e : 3 ^ (1 + max a.dep b.dep) = 3 * 3 ^ max a.dep b.dep := by rw [Nat.pow_add]
    show (addN (addN [] a.names) b.names).length ≤ 3 ^ (1 + max a.dep b.dep)
    rw [e]
    simp only [List.length_nil] at h1
    omega
  | nt a iha =>
    have h1 := addN_len [] a.names
    have e : 3 ^ (1 + a.dep) = 3 * 3 ^ a.dep := by rw [Nat.pow_add]
    show (addN [] a.names).length ≤ 3 ^ (1 + a.dep)
    rw [e]
    simp only [List.length_nil] at h1
    omega
  | pk c a b ihc iha ihb =>
    have h0 := addN_len [] c.names
    have h1 := addN_len (addN [] c.names) a.names
    have h2 := addN_len (addN (addN [] c.names) a.names) b.names
    have p0 : 3 ^ c.dep ≤ 3 ^ max (max c.dep a.dep) b.dep := Nat.pow_le_pow_right (by decide) (by omega)
    have p1 : 3 ^ a.dep ≤ 3 ^ max (max c.dep a.dep) b.dep := Nat.pow_le_pow_right (by decide) (by omega)
    have p2 : 3 ^ b.dep ≤ 3 ^ max (max c.dep a.dep) b.dep := Nat.pow_le_pow_right (by decide) (by omega)
    have e : 3 ^ (1 + max (max c.dep a.dep) b.dep) = 3 * 3 ^ max (max c.dep a.dep) b.dep := by rw [Nat.pow_add]
    show (addN (addN (addN [] c.names) a.names) b.names).length ≤ 3 ^ (1 + max (max c.dep a.dep) b.dep)
    rw [e]
    simp only [List.length_nil] at h0
    omega
theorem names_729 {t : Tm} (h : t.dep ≤ 6) : t.names.length ≤ 729 := by
  have h1 := t.names_len
  have h2 : 3 ^ t.dep ≤ 3 ^ 6 := Nat.pow_le_pow_right (by decide) h
  have e : (3 : Nat) ^ 6 = 729 := rfl
  omega
theorem inV_str {n : Str} : ∀ {F : List Str}, inV (.str n) (F.map V.str) = F.contains n
  | [] => rfl
  | a :: F => by
    have ih := inV_str (n := n) (F := F)
    unfold inV at ih ⊢
    rw [List.map_cons, List.any_cons, ih, List.contains_cons]
    show (a == n || F.contains n) = (n == a || F.contains n)
    rw [Bool.beq_comm]
theorem fm_new {F : List Str} : ∀ {l : List Str}, (l.map V.str).filterMap (fun x => if inV x (F.map V.str) then none else some x) = (l.filter fun n => !F.contains n).map V.str
  | [] => rfl
  | a :: l => by
    rw [List.map_cons, List.filterMap_cons, inV_str, List.filter_cons, fm_new]
    cases F.contains a <;> rfl
theorem flat_strs : ∀ {F : List Str}, (F.map V.str).all flatV = true
  | [] => rfl
  | a :: F => by rw [List.map_cons, List.all_cons, flat_strs] <;> rfl
def spt_names (Z : Adr) (n : Nat) (S : Tm → Prop) : Sp := fun vs H Q _ => ∃ t v, vs = [v] ∧ TermAt Z H t v ∧ S t ∧ t.dep ≤ n ∧ t.dep ≤ 6 ∧ RetL (t.names.map V.str) H Q
def spm_names (Z : Adr) (n : Nat) (C : Addr) : Sp := spt_names Z n fun t => clsT Z t = C
theorem ok_Name_names (T : Txt K mg Z) : FnOk P w K mg base CX0 1 Z.f_Name_names Z.fd_Name_names ["self"] (spt_names Z 1 fun t => ∃ s, t = .nm s) := by
  refine T.F_Name_names.ok sc_Name_names (fun vs H Q E h => ?_) (fun cdv AA outer s H vs Q E hr h => ?_)
  · obtain ⟨t, v, rfl, _⟩ := h
    rfl
  · obtain ⟨t, v, rfl, ht, ⟨s, rfl⟩, _, _, k⟩ := h
    have TX := tcB_ok T.x_Name
    obtain ⟨a, dx, rfl, ha⟩ := ht
    refine ⟨_, (pss_one (ps_ret (pe_lst (pa_cons (pe_fld (pv 0) (by rfl)) pa_nil)))), ?_⟩
    walk_at "ss"
    refine ⟨_, _, _, _, _, rfl, ha, TX.cl, TX.no _ (by decide +kernel), lk_hd, ?_⟩
    walk_at "ss"
    exact newL k
theorem ok_Term_names (T : Txt K mg Z) {n : Nat} (GM_parts : ∀ C, MC Z C → MOk P w K mg base CX0 1 C "parts" (spm_parts Z C)) (GM_names : ∀ C, MC Z C → MOk P w K mg base CX0 (n + 2) C "names" (spm_names Z n C)) : FnOk P w K mg base CX0 (n + 3) Z.f_Term_names Z.fd_Term_names ["self"] (spt_names Z (n + 1) fun t => ∀ s, t ≠ .nm s) := by
  refine T.F_Term_names.ok sc_Term_names (fun vs H Q E h => ?_) (fun cdv AA outer s H vs Q E hr h => ?_)
  · obtain ⟨t, v, rfl, _⟩ := h
    rfl
  · obtain ⟨t, v, rfl, ht, hS, hd, h6, k⟩ := h
    obtain ⟨a, dx, fs, rfl, ha, l1, l2, l3, l4⟩ := ht.cls
    refine ⟨_, (pss_cons (ps_set (i := 1) sc_Term_names.nd rfl (Or.inr rfl) (pe_lst pa_nil))
      (pss_cons (ps_for PassesOwn.never rfl (pi_list (pe_methP0 (pv 0) GM_parts (hr.mono (by omega)) pass0)) (pg_name (i := 2) sc_Term_names.nd rfl (Or.inl rfl)) (pss_one (ps_expr (pe_bm PySem.F.plainAttrs_list PySem.F.slot_list_extend PySem.F.type_list_extend mt_extend (pv 1) (pa_cons (pe_lc (own := [("name", 3)]) (g := (gName 3)) (tt := (tTest (tOp (rIn K true) (tVar 3) (tVar 1)))) (te := (tVar 3)) rfl sc_Term_names.nd (pi_list (pe_methP0 (pv 2) GM_names (hr.mono (by omega)) pass0)) (blkOk_by (own := [("name", 3)]) (N := N_Term_names) (sc := defScope s_Term_names) (by decide +kernel)) (fun _ _ _ _ _ => (pg_name (i := 3) sc_Term_names.nd rfl (Or.inl rfl))) (fun _ _ _ _ _ => (pts_one (pt_cmpR op_notIn_seq (pv 3) (pv 1) (by rfl)))) (fun _ _ _ _ _ => (pv 3))) pa_nil)))))
      (pss_one (ps_ret (pv 1))))), ?_⟩
    walk_at "ss"
    refine newL fun f H1 hf e1 g1 => ?_
    walk_at "ss"
    refine ⟨a, _, dx, fs, rfl, e1 _ _ ha, clsT_MC Z t, l1, ?_⟩
    walk_at "ss"
    refine ⟨t, _, rfl, ht.up e1, rfl, fun ws p H2 hp e2 g2 hw => ?_⟩
    have nfp : f ≠ p := ne_of_none g1 hp
    have hwl := hw.len
    refine ⟨p, rfl, ⟨_, SqL.of g2⟩, forL (xs := ws) (fun i σ' G => (∃ v2 v3, σ' = [some (.ref a), some (.ref f), v2, v3]) ∧ Ex H G ∧ G p = some (.lst ws) ∧ G f = some (.lst (((t.parts.take i).foldl (fun acc q => addN acc q.names) []).map V.str)) ∧ ((t.parts.take i).foldl (fun acc q => addN acc q.names) []).length ≤ i * 729 ∧ PartsAt Z G t.parts ws) ⟨⟨_, _, rfl⟩, e1.trans e2, g2, e2 _ _ g1, Nat.zero_le _, hw⟩ (fun i σ' G _ q => SqL.of q.2.2.1) ?_ ?_⟩
    · rintro i x σ' G hx ⟨⟨v2, v3, rfl⟩, eG, gp, gf, hbd, hw⟩
      obtain ⟨q, hq, hqx⟩ := hw.at hx
      have hi := (List.getElem?_eq_some_iff.mp hq).1
      have hl3 := t.parts_len
      have ef : (t.parts.take (i + 1)).foldl (fun acc q => addN acc q.names) [] = addN ((t.parts.take i).foldl (fun acc q => addN acc q.names) []) q.names := by
        rw [List.take_add_one, hq, List.foldl_append] <;> rfl
      generalize hF : (t.parts.take i).foldl (fun acc q => addN acc q.names) [] = F at gf ef hbd
      obtain ⟨a4, dx4, fs4, rfl, ha4, m1, m2, m3, m4⟩ := hqx.cls
      walk_at "ss"
      refine ⟨.inl ⟨rfl, _, SqL.of gf⟩, ?_⟩
      walk_at "ss"
      refine ⟨a4, _, dx4, fs4, rfl, ha4, clsT_MC Z q, m2, ?_⟩
      walk_at "ss"
      have hdp := Tm.dep_part (List.mem_of_getElem? hq)
      have hq7 := names_729 (t := q) (by omega)
      refine ⟨q, _, rfl, hqx, rfl, by omega, by omega, fun p5 H5 hp5 e5 g5 => ?_⟩
      refine ⟨p5, rfl, ⟨_, SqL.of g5⟩, lcLv (fun x => if inV x (F.map V.str) then none else some x) (SqL.of g5) (by rw [List.length_map]; omega) (fun x hx => ?_) ?_⟩
      · obtain ⟨s, hs, rfl⟩ := List.mem_map.mp hx
        intro H6 e6 R hR
        walk_at "ss"
        refine c_notin (.inl (SqL.of (e6 _ _ (e5 _ _ gf)))) rfl flat_strs ?_
        refine ⟨_, rfl, ?_⟩
        cases hin : inV (.str s) (F.map V.str) with
        | true =>
          rw [hin] at hR
          walk_at "ss"
          exact hR _ (Ex.refl _)
        | false =>
          rw [hin] at hR
          walk_at "ss"
          exact hR _ (Ex.refl _)
      rw [fm_new]
      intro p6 H6 hp6 e6 g6
      walk_at "ss"
      have gf6 := e6 _ _ (e5 _ _ gf)
      have hfl : (q.names.filter fun n => !F.contains n).length ≤ q.names.length := List.length_filter_le _ _
      refine ⟨f, p6, _, _, rfl, rfl, gf6, g6, Evl.sz_of (by rw [List.length_map, List.length_map]; omega), ?_⟩
      walk_at "ss"
      refine ⟨⟨_, _, rfl⟩, Ex.mut (eG.trans (e5.trans e6)) hf, by rw [upd_ne nfp.symm]; exact e6 _ _ (e5 _ _ gp), ?_, ?_, (hw.up (e5.trans e6)).keep (InsK.lst gf6)⟩
      · rw [upd_same, ef, ← List.map_append] <;> rfl
      · rw [ef]
        have := addN_len F q.names
        rw [Nat.succ_mul]
        omega
    · rintro σ' G ⟨⟨v2, v3, rfl⟩, eG, gp, gf, hbd, hw⟩
      walk_at "ss"
      rw [hwl, List.take_length, ← Tm.names_parts t hS] at gf
      exact k f G hf eG gf
theorem gm_names (T : Txt K mg Z) : ∀ n, ∀ C, MC Z C → MOk P w K mg base CX0 (n + 2) C "names" (spm_names Z n C) := by
  intro n
  induction n with
  | zero =>
    have hN : ∀ C vs H Q E, ¬ spm_names Z 0 C vs H Q E := fun C vs H Q E ⟨t, v, _, _, _, hd, _⟩ => by have := t.dep_pos; omega
    rintro C (rfl | rfl | rfl | rfl | rfl)
    · exact mok_none (n := 0) (tcB_ok T.x_Name).cl ⟨T.h_names_Name, T.y_Name_names, T.F_Name_names.kp⟩ T.b_Name_names (hN _)
    · exact mok_none (n := 0) (tcB_ok T.x_Value).cl ⟨T.h_names_Value, T.y_Term_names, T.F_Term_names.kp⟩ T.b_Term_names (hN _)
    · exact mok_none (n := 0) (tcB_ok T.x_Two).cl ⟨T.h_names_Two, T.y_Term_names, T.F_Term_names.kp⟩ T.b_Term_names (hN _)
    · exact mok_none (n := 0) (tcB_ok T.x_Not).cl ⟨T.h_names_Not, T.y_Term_names, T.F_Term_names.kp⟩ T.b_Term_names (hN _)
    · exact mok_none (n := 0) (tcB_ok T.x_Pick).cl ⟨T.h_names_Pick, T.y_Term_names, T.F_Term_names.kp⟩ T.b_Term_names (hN _)
  | succ n ih =>
    have F := ok_Term_names (P := P) (w := w) (base := base) T (gm_parts T) ih
    have F1 := (ok_Name_names (P := P) (w := w) (base := base) T).mono (show 1 ≤ n + 1 + 2 by omega)
    rintro C (rfl | rfl | rfl | rfl | rfl)
    · exact ⟨(tcB_ok T.x_Name).cl, _, _, _, ⟨T.h_names_Name, T.y_Name_names, T.F_Name_names.kp⟩, F1.imp fun vs H Q E ⟨t, v, e, h, hc, hd, h6, k⟩ => ⟨t, v, e, h, cls_nm T hc, (by obtain ⟨s, rfl⟩ := cls_nm T hc; exact Nat.le_refl _), h6, k⟩, T.b_Name_names⟩
    · exact ⟨(tcB_ok T.x_Value).cl, _, _, _, ⟨T.h_names_Value, T.y_Term_names, T.F_Term_names.kp⟩, F.imp fun vs H Q E ⟨t, v, e, h, hc, hd, h6, k⟩ => ⟨t, v, e, h, (by obtain ⟨s, rfl⟩ := cls_vl T hc; exact fun _ z => by cases z), hd, h6, k⟩, T.b_Term_names⟩
    · exact ⟨(tcB_ok T.x_Two).cl, _, _, _, ⟨T.h_names_Two, T.y_Term_names, T.F_Term_names.kp⟩, F.imp fun vs H Q E ⟨t, v, e, h, hc, hd, h6, k⟩ => ⟨t, v, e, h, (by obtain ⟨_, _, _, rfl⟩ := cls_two T hc; exact fun _ z => by cases z), hd, h6, k⟩, T.b_Term_names⟩
    · exact ⟨(tcB_ok T.x_Not).cl, _, _, _, ⟨T.h_names_Not, T.y_Term_names, T.F_Term_names.kp⟩, F.imp fun vs H Q E ⟨t, v, e, h, hc, hd, h6, k⟩ => ⟨t, v, e, h, (by obtain ⟨_, rfl⟩ := cls_nt T hc; exact fun _ z => by cases z), hd, h6, k⟩, T.b_Term_names⟩
    · exact ⟨(tcB_ok T.x_Pick).cl, _, _, _, ⟨T.h_names_Pick, T.y_Term_names, T.F_Term_names.kp⟩, F.imp fun vs H Q E ⟨t, v, e, h, hc, hd, h6, k⟩ => ⟨t, v, e, h, (by obtain ⟨_, _, _, rfl⟩ := cls_pk T hc; exact fun _ z => by cases z), hd, h6, k⟩, T.b_Term_names⟩

/-! ### what a term tells -/
def ToldAt (H : Hp) : Tm → V → Prop
  | .nm s, v => ∃ a, v = .ref a ∧ H a = some (.tup [.str "name", .str s])
  | .vl x, v => ∃ a, v = .ref a ∧ H a = some (.tup [.str "value", x])
  | .two op p q, v => ∃ a v1 v2, v = .ref a ∧ H a = some (.tup [.str "two", .str op, v1, v2]) ∧ ToldAt H p v1 ∧ ToldAt H q v2
  | .nt p, v => ∃ a v1, v = .ref a ∧ H a = some (.tup [.str "not", v1]) ∧ ToldAt H p v1
  | .pk c p q, v => ∃ a v0 v1 v2, v = .ref a ∧ H a = some (.tup [.str "pick", v0, v1, v2]) ∧ ToldAt H c v0 ∧ ToldAt H p v1 ∧ ToldAt H q v2
def TupK (H H2 : Hp) : Prop := ∀ a xs, H a = some (.tup xs) → H2 a = some (.tup xs)
theorem ToldAt.keep {H H2 : Hp} (e : TupK H H2) : ∀ {t : Tm} {v : V}, ToldAt H t v → ToldAt H2 t v := by
  intro t
  induction t with
  | nm s => rintro v ⟨a, h1, h2⟩; exact ⟨a, h1, e _ _ h2⟩
  | vl x => rintro v ⟨a, h1, h2⟩; exact ⟨a, h1, e _ _ h2⟩
  | two op p q ihp ihq => rintro v ⟨a, v1, v2, h1, h2, h3, h4⟩; exact ⟨a, v1, v2, h1, e _ _ h2, ihp h3, ihq h4⟩
  | nt p ihp => rintro v ⟨a, v1, h1, h2, h3⟩; exact ⟨a, v1, h1, e _ _ h2, ihp h3⟩
  | pk c p q ihc ihp ihq => rintro v ⟨a, v0, v1, v2, h1, h2, h3, h4, h5⟩; exact ⟨a, v0, v1, v2, h1, e _ _ h2, ihc h3, ihp h4, ihq h5⟩
theorem ToldAt.up {H H2 : Hp} {t : Tm} {v : V} (h : ToldAt H t v) (e : Ex H H2) : ToldAt H2 t v := h.keep fun a xs q => e _ _ q
theorem ToldAt.upB {H H2 : Hp} {t : Tm} {v : V} {b : Addr} (h : ToldAt H t v) (e : ExB b H H2) (hB : BoxAt H b) : ToldAt H2 t v := h.keep fun a xs q => e _ _ (box_ne hB q (fun _ _ _ z => by cases z)) q
def spt_told (Z : Adr) (n : Nat) (S : Tm → Prop) : Sp := fun vs H Q _ => ∃ t v, vs = [v] ∧ TermAt Z H t v ∧ S t ∧ t.dep ≤ n ∧ ∀ u H2, Ex H H2 → ToldAt H2 t u → Q u H2
def spm_told (Z : Adr) (n : Nat) (C : Addr) : Sp := spt_told Z n fun t => clsT Z t = C
theorem ok_Name_told (T : Txt K mg Z) : FnOk P w K mg base CX0 1 Z.f_Name_told Z.fd_Name_told ["self"] (spt_told Z 1 fun t => ∃ s, t = .nm s) := by
  refine T.F_Name_told.ok sc_Name_told (fun vs H Q E h => ?_) (fun cdv AA outer s H vs Q E hr h => ?_)
  · obtain ⟨t, v, rfl, _⟩ := h
    rfl
  · obtain ⟨t, v, rfl, ht, ⟨s, rfl⟩, _, k⟩ := h
    have TX := tcB_ok T.x_Name
    obtain ⟨a, dx, rfl, ha⟩ := ht
    refine ⟨_, (pss_one (ps_ret (pe_tup (pa_cons pe_str (pa_cons (pe_fld (pv 0) (by rfl)) pa_nil))))), ?_⟩
    walk_at "ss"
    refine ⟨_, _, _, _, _, rfl, ha, TX.cl, TX.no _ (by decide +kernel), lk_hd, ?_⟩
    walk_at "ss"
    exact newT fun p H2 hp e2 g2 => k _ _ e2 ⟨p, rfl, g2⟩
theorem ok_Value_told (T : Txt K mg Z) : FnOk P w K mg base CX0 1 Z.f_Value_told Z.fd_Value_told ["self"] (spt_told Z 1 fun t => ∃ s, t = .vl s) := by
  refine T.F_Value_told.ok sc_Value_told (fun vs H Q E h => ?_) (fun cdv AA outer s H vs Q E hr h => ?_)
  · obtain ⟨t, v, rfl, _⟩ := h
    rfl
  · obtain ⟨t, v, rfl, ht, ⟨s, rfl⟩, _, k⟩ := h
    have TX := tcB_ok T.x_Value
    obtain ⟨a, dx, rfl, ha⟩ := ht
    refine ⟨_, (pss_one (ps_ret (pe_tup (pa_cons pe_str (pa_cons (pe_fld (pv 0) (by rfl)) pa_nil))))), ?_⟩
    walk_at "ss"
    refine ⟨_, _, _, _, _, rfl, ha, TX.cl, TX.no _ (by decide +kernel), lk_hd, ?_⟩
    walk_at "ss"
    exact newT fun p H2 hp e2 g2 => k _ _ e2 ⟨p, rfl, g2⟩
theorem ok_Two_told (T : Txt K mg Z) {n : Nat} (GM_told : ∀ C, MC Z C → MOk P w K mg base CX0 (n + 2) C "told" (spm_told Z n C)) : FnOk P w K mg base CX0 (n + 3) Z.f_Two_told Z.fd_Two_told ["self"] (spt_told Z (n + 1) fun t => ∃ op a b, t = .two op a b) := by
  refine T.F_Two_told.ok sc_Two_told (fun vs H Q E h => ?_) (fun cdv AA outer s H vs Q E hr h => ?_)
  · obtain ⟨t, v, rfl, _⟩ := h
    rfl
  · obtain ⟨t, v, rfl, ht, ⟨op, x, y, rfl⟩, hd, k⟩ := h
    have TX := tcB_ok T.x_Two
    obtain ⟨a, dx, v1, v2, rfl, ha, h1, h2⟩ := ht
    simp only [Tm.dep] at hd
    refine ⟨_, (pss_one (ps_ret (pe_tup (pa_cons pe_str (pa_cons (pe_fld (pv 0) (by rfl)) (pa_cons (pe_methP0 (pe_fld (pv 0) (by rfl)) GM_told (hr.mono (by omega)) pass0) (pa_cons (pe_methP0 (pe_fld (pv 0) (by rfl)) GM_told (hr.mono (by omega)) pass0) pa_nil))))))), ?_⟩
    walk_at "ss"
    refine ⟨_, _, _, _, _, rfl, ha, TX.cl, TX.no _ (by decide +kernel), lk_hd, ?_⟩
    walk_at "ss"
    refine ⟨_, _, _, _, _, rfl, ha, TX.cl, TX.no _ (by decide +kernel), lk_tl (by decide +kernel) lk_hd, ?_⟩
    obtain ⟨a3, dx3, fs3, rfl, ha3, m1, m2, m3, m4⟩ := h1.cls
    refine ⟨a3, _, dx3, fs3, rfl, ha3, clsT_MC Z x, m4, ?_⟩
    walk_at "ss"
    refine ⟨x, _, rfl, h1, rfl, by omega, fun u1 H1 e1 t1 => ?_⟩
    walk_at "ss"
    refine ⟨_, _, _, _, _, rfl, e1 _ _ ha, TX.cl, TX.no _ (by decide +kernel), lk_tl (by decide +kernel) (lk_tl (by decide +kernel) lk_hd), ?_⟩
    have h2' := h2.up e1
    obtain ⟨a4, dx4, fs4, rfl, ha4, m1, m2, m3, m4⟩ := h2'.cls
    refine ⟨a4, _, dx4, fs4, rfl, ha4, clsT_MC Z y, m4, ?_⟩
    walk_at "ss"
    refine ⟨y, _, rfl, h2', rfl, by omega, fun u2 H2 e2 t2 => ?_⟩
    walk_at "ss"
    exact newT fun p H3 hp e3 g3 => k _ _ (e1.trans (e2.trans e3)) ⟨p, _, _, rfl, g3, t1.up (e2.trans e3), t2.up e3⟩
theorem ok_Not_told (T : Txt K mg Z) {n : Nat} (GM_told : ∀ C, MC Z C → MOk P w K mg base CX0 (n + 2) C "told" (spm_told Z n C)) : FnOk P w K mg base CX0 (n + 3) Z.f_Not_told Z.fd_Not_told ["self"] (spt_told Z (n + 1) fun t => ∃ a, t = .nt a) := by
  refine T.F_Not_told.ok sc_Not_told (fun vs H Q E h => ?_) (fun cdv AA outer s H vs Q E hr h => ?_)
  · obtain ⟨t, v, rfl, _⟩ := h
    rfl
  · obtain ⟨t, v, rfl, ht, ⟨x, rfl⟩, hd, k⟩ := h
    have TX := tcB_ok T.x_Not
    obtain ⟨a, dx, v1, rfl, ha, h1⟩ := ht
    simp only [Tm.dep] at hd
    refine ⟨_, (pss_one (ps_ret (pe_tup (pa_cons pe_str (pa_cons (pe_methP0 (pe_fld (pv 0) (by rfl)) GM_told (hr.mono (by omega)) pass0) pa_nil))))), ?_⟩
    walk_at "ss"
    refine ⟨_, _, _, _, _, rfl, ha, TX.cl, TX.no _ (by decide +kernel), lk_hd, ?_⟩
    obtain ⟨a3, dx3, fs3, rfl, ha3, m1, m2, m3, m4⟩ := h1.cls
    refine ⟨a3, _, dx3, fs3, rfl, ha3, clsT_MC Z x, m4, ?_⟩
    walk_at "ss"
    refine ⟨x, _, rfl, h1, rfl, by omega, fun u1 H1 e1 t1 => ?_⟩
    walk_at "ss"
    exact newT fun p H3 hp e3 g3 => k _ _ (e1.trans e3) ⟨p, _, rfl, g3, t1.up e3⟩
theorem ok_Pick_told (T : Txt K mg Z) {n : Nat} (GM_told : ∀ C, MC Z C → MOk P w K mg base CX0 (n + 2) C "told" (spm_told Z n C)) : FnOk P w K mg base CX0 (n + 3) Z.f_Pick_told Z.fd_Pick_told ["self"] (spt_told Z (n + 1) fun t => ∃ c a b, t = .pk c a b) := by
  refine T.F_Pick_told.ok sc_Pick_told (fun vs H Q E h => ?_) (fun cdv AA outer s H vs Q E hr h => ?_)
  · obtain ⟨t, v, rfl, _⟩ := h
    rfl
  · obtain ⟨t, v, rfl, ht, ⟨c, x, y, rfl⟩, hd, k⟩ := h
    have TX := tcB_ok T.x_Pick
    obtain ⟨a, dx, v0, v1, v2, rfl, ha, h0, h1, h2⟩ := ht
    simp only [Tm.dep] at hd
    refine ⟨_, (pss_one (ps_ret (pe_tup (pa_cons pe_str (pa_cons (pe_methP0 (pe_fld (pv 0) (by rfl)) GM_told (hr.mono (by omega)) pass0) (pa_cons (pe_methP0 (pe_fld (pv 0) (by rfl)) GM_told (hr.mono (by omega)) pass0) (pa_cons (pe_methP0 (pe_fld (pv 0) (by rfl)) GM_told (hr.mono (by omega)) pass0) pa_nil))))))), ?_⟩
    walk_at "ss"
    refine ⟨_, _, _, _, _, rfl, ha, TX.cl, TX.no _ (by decide +kernel), lk_hd, ?_⟩
    obtain ⟨a3, dx3, fs3, rfl, ha3, m1, m2, m3, m4⟩ := h0.cls
    refine ⟨a3, _, dx3, fs3, rfl, ha3, clsT_MC Z c, m4, ?_⟩
    walk_at "ss"
    refine ⟨c, _, rfl, h0, rfl, by omega, fun u0 H0 e0 t0 => ?_⟩
    walk_at "ss"
    refine ⟨_, _, _, _, _, rfl, e0 _ _ ha, TX.cl, TX.no _ (by decide +kernel), lk_tl (by decide +kernel) lk_hd, ?_⟩
    have h1' := h1.up e0
    obtain ⟨a4, dx4, fs4, rfl, ha4, m1, m2, m3, m4⟩ := h1'.cls
    refine ⟨a4, _, dx4, fs4, rfl, ha4, clsT_MC Z x, m4, ?_⟩
    walk_at "ss"
    refine ⟨x, _, rfl, h1', rfl, by omega, fun u1 H1 e1 t1 => ?_⟩
    walk_at "ss"
    refine ⟨_, _, _, _, _, rfl, e1 _ _ (e0 _ _ ha), TX.cl, TX.no _ (by decide +kernel), lk_tl (by decide +kernel) (lk_tl (by decide +kernel) lk_hd), ?_⟩
    have h2' := h2.up (e0.trans e1)
    obtain ⟨a5, dx5, fs5, rfl, ha5, m1, m2, m3, m4⟩ := h2'.cls
    refine ⟨a5, _, dx5, fs5, rfl, ha5, clsT_MC Z y, m4, ?_⟩
    walk_at "ss"
    refine ⟨y, _, rfl, h2', rfl, by omega, fun u2 H2 e2 t2 => ?_⟩
    walk_at "ss"
    exact newT fun p H3 hp e3 g3 => k _ _ (e0.trans (e1.trans (e2.trans e3))) ⟨p, _, _, _, rfl, g3, t0.up (e1.trans (e2.trans e3)), t1.up (e2.trans e3), t2.up e3⟩
theorem gm_told (T : Txt K mg Z) : ∀ n, ∀ C, MC Z C → MOk P w K mg base CX0 (n + 2) C "told" (spm_told Z n C) := by
  intro n
  induction n with
  | zero =>
    have hN : ∀ C vs H Q E, ¬ spm_told Z 0 C vs H Q E := fun C vs H Q E ⟨t, v, _, _, _, hd, _⟩ => by have := t.dep_pos; omega
    rintro C (rfl | rfl | rfl | rfl | rfl)
    · exact mok_none (n := 0) (tcB_ok T.x_Name).cl ⟨T.h_told_Name, T.y_Name_told, T.F_Name_told.kp⟩ T.b_Name_told (hN _)
    · exact mok_none (n := 0) (tcB_ok T.x_Value).cl ⟨T.h_told_Value, T.y_Value_told, T.F_Value_told.kp⟩ T.b_Value_told (hN _)
    · exact mok_none (n := 0) (tcB_ok T.x_Two).cl ⟨T.h_told_Two, T.y_Two_told, T.F_Two_told.kp⟩ T.b_Two_told (hN _)
    · exact mok_none (n := 0) (tcB_ok T.x_Not).cl ⟨T.h_told_Not, T.y_Not_told, T.F_Not_told.kp⟩ T.b_Not_told (hN _)
    · exact mok_none (n := 0) (tcB_ok T.x_Pick).cl ⟨T.h_told_Pick, T.y_Pick_told, T.F_Pick_told.kp⟩ T.b_Pick_told (hN _)
  | succ n ih =>
    have F1 := (ok_Name_told (P := P) (w := w) (base := base) T).mono (show 1 ≤ n + 1 + 2 by omega)
    have F2 := (ok_Value_told (P := P) (w := w) (base := base) T).mono (show 1 ≤ n + 1 + 2 by omega)
    have F3 := ok_Two_told (P := P) (w := w) (base := base) T ih
    have F4 := ok_Not_told (P := P) (w := w) (base := base) T ih
    have F5 := ok_Pick_told (P := P) (w := w) (base := base) T ih
    rintro C (rfl | rfl | rfl | rfl | rfl)
    · exact ⟨(tcB_ok T.x_Name).cl, _, _, _, ⟨T.h_told_Name, T.y_Name_told, T.F_Name_told.kp⟩, F1.imp fun vs H Q E ⟨t, v, e, h, hc, hd, k⟩ => ⟨t, v, e, h, cls_nm T hc, (by obtain ⟨s, rfl⟩ := cls_nm T hc; exact Nat.le_refl _), k⟩, T.b_Name_told⟩
    · exact ⟨(tcB_ok T.x_Value).cl, _, _, _, ⟨T.h_told_Value, T.y_Value_told, T.F_Value_told.kp⟩, F2.imp fun vs H Q E ⟨t, v, e, h, hc, hd, k⟩ => ⟨t, v, e, h, cls_vl T hc, (by obtain ⟨s, rfl⟩ := cls_vl T hc; exact Nat.le_refl _), k⟩, T.b_Value_told⟩
    · exact ⟨(tcB_ok T.x_Two).cl, _, _, _, ⟨T.h_told_Two, T.y_Two_told, T.F_Two_told.kp⟩, F3.imp fun vs H Q E ⟨t, v, e, h, hc, hd, k⟩ => ⟨t, v, e, h, cls_two T hc, hd, k⟩, T.b_Two_told⟩
    · exact ⟨(tcB_ok T.x_Not).cl, _, _, _, ⟨T.h_told_Not, T.y_Not_told, T.F_Not_told.kp⟩, F4.imp fun vs H Q E ⟨t, v, e, h, hc, hd, k⟩ => ⟨t, v, e, h, cls_nt T hc, hd, k⟩, T.b_Not_told⟩
    · exact ⟨(tcB_ok T.x_Pick).cl, _, _, _, ⟨T.h_told_Pick, T.y_Pick_told, T.F_Pick_told.kp⟩, F5.imp fun vs H Q E ⟨t, v, e, h, hc, hd, k⟩ => ⟨t, v, e, h, cls_pk T hc, hd, k⟩, T.b_Pick_told⟩

/-! ### terms made -/
def opsW : List Str := ["+", "-", "*", "/", "mod", "<", "=", "&", "|"]
def opsV2 : List V := opsW.map V.str
def sp_ops_told : Sp := fun vs H Q _ => vs = [] ∧ RetL opsV2 H Q
theorem ok_ops_told (T : Txt K mg Z) : FnOk P w K mg base CX0 1 Z.f_ops_told Z.fd_ops_told [] sp_ops_told := by
  refine T.F_ops_told.ok sc_ops_told (fun vs H Q E h => ?_) (fun cdv AA outer s H vs Q E hr h => ?_)
  · obtain ⟨rfl, _⟩ := h
    rfl
  · obtain ⟨rfl, k⟩ := h
    refine ⟨_, (pss_one (ps_ret (pe_callTy call_list_of (by rfl) T.n_list (by decide +kernel) (pa_cons (pe_gcst rfl T.c_OPS) pa_nil)))), ?_⟩
    walk_at "ss"
    refine ⟨_, _, rfl, .inr (T.t_OPS _), fun l hl => ?_⟩
    exact k l _ hl (Ex.new hl) upd_same
theorem subB_ok {C c : Addr} (h : subB K C c = true) : PySem.W.kitOne K (.ref C) (.ref c) = some true ∧ PySem.W.mroIn K C (.type "object") = some true ∧ PySem.W.findIn K (.ref C) "__eq__" = some (some (.builtin "object.__eq__")) := by
  unfold subB at h
  simp only [Bool.and_eq_true, decide_eq_true_eq] at h
  exact h
theorem TermAt.ty (T : Txt K mg Z) {H : Hp} {t : Tm} {v : V} (h : TermAt Z H t v) : TyX K H v (.ref (clsT Z t)) ∧ subB K (clsT Z t) Z.c_Term = true := by
  obtain ⟨a, dx, fs, rfl, ha, _⟩ := h.cls
  cases t with
  | nm s => exact ⟨(tcB_ok T.x_Name).ty ha, T.fact_is_Name⟩
  | vl s => exact ⟨(tcB_ok T.x_Value).ty ha, T.fact_is_Value⟩
  | two op x y => exact ⟨(tcB_ok T.x_Two).ty ha, T.fact_is_Two⟩
  | nt x => exact ⟨(tcB_ok T.x_Not).ty ha, T.fact_is_Not⟩
  | pk c x y => exact ⟨(tcB_ok T.x_Pick).ty ha, T.fact_is_Pick⟩
theorem is_term (T : Txt K mg Z) {H : Hp} {t : Tm} {v : V} {Q : VK} (h : TermAt Z H t v) (q : Q (.bl true) H) : rIsi K [v, .ref Z.c_Term] H Q :=
  ⟨v, .ref Z.c_Term, _, _, true, rfl, .own _, (h.ty T).1, (subB_ok (h.ty T).2).1, q⟩
theorem TermAt.noneOr (T : Txt K mg Z) {H : Hp} {t : Tm} {v : V} (h : TermAt Z H t v) : NoneOr K H v := by
  obtain ⟨a, dx, fs, rfl, ha, _⟩ := h.cls
  exact .inr ⟨a, _, dx, fs, rfl, ha, (subB_ok (h.ty T).2).2.1, (subB_ok (h.ty T).2).2.2⟩
def sp_need_term (Z : Adr) : Sp := fun vs H Q _ => ∃ t v, vs = [v] ∧ TermAt Z H t v ∧ t.dep ≤ 4 ∧ RetV v H Q
theorem ok_need_term (T : Txt K mg Z) : FnOk P w K mg base CX0 8 Z.f_need_term Z.fd_need_term ["thing"] (sp_need_term Z) := by
  refine T.F_need_term.ok sc_need_term (fun vs H Q E h => ?_) (fun cdv AA outer s H vs Q E hr h => ?_)
  · obtain ⟨t, v, rfl, _⟩ := h
    rfl
  · obtain ⟨t, v, rfl, ht, hd, k⟩ := h
    have GM_levels := gm_levels (P := P) (w := w) (base := base) T 4
    refine ⟨_, (pss_cons (ps_if (PW.pt (pw_or (pt_not (pt_val (pe_callB call_isi (by rfl) T.n_isinstance (by decide +kernel) (pa_cons (pv 0) (pa_cons (pe_gcst (v := .ref Z.c_Term) rfl ⟨_, T.m_Term, rfl⟩) pa_nil))))) (pw_or1 (pt_cmpR op_ge (pe_methP0 (pv 0) GM_levels (hr.mono (by omega)) pass0) (pe_gcst rfl T.c_MOST_LEVELS) (nomark _))))) (pss_one ps_never) pss_nil)
      (pss_one (ps_ret (pv 0)))), ?_⟩
    walk_at "ss"
    refine is_term T ht ?_
    walk_at "ss"
    obtain ⟨a, dx, fs, rfl, ha, l1, l2, l3, l4⟩ := ht.cls
    refine ⟨a, _, dx, fs, rfl, ha, clsT_MC Z t, l3, ?_⟩
    walk_at "ss"
    refine ⟨t, _, rfl, ht, hd, fun H1 e1 => ?_⟩
    walk_at "ss"
    refine if_ff (decide_eq_false (by omega)) ?_
    walk_at "ss"
    exact k _ e1
def isVal : V → Bool
  | .bl _ => true
  | .int i => decide (-1000000000 ≤ i) && decide (i ≤ 1000000000)
  | _ => false
theorem is_val {v : V} (h : isVal v = true) {H : Hp} {Q : VK} {E : XK} (q : Q (.bl true) H) : sp_is_value K [v] H Q E := by
  cases v with
  | bl b => exact ⟨_, rfl, .inr (.inl ⟨_, rfl, q⟩)⟩
  | int i =>
    refine ⟨_, rfl, .inl ⟨_, rfl, ?_⟩⟩
    rw [show (decide (-1000000000 ≤ i) && decide (i ≤ 1000000000)) = true from h]
    exact q
  | _ => exact absurd h Bool.false_ne_true
def sp_Name_init (Z : Adr) : Sp := fun vs H Q _ => ∃ x dx s H0, vs = [.ref x, .str s] ∧ H x = some (.ins Z.c_Name dx []) ∧ H0 x = none ∧ Ex H0 H ∧ isPointed s = true ∧ s.length ≤ 1000 ∧ ∀ H2, Ex H0 H2 → H2 x = some (.ins Z.c_Name dx [("name", .str s)]) → Q .non H2
def sp_Value_init (Z : Adr) : Sp := fun vs H Q _ => ∃ x dx v H0, vs = [.ref x, v] ∧ H x = some (.ins Z.c_Value dx []) ∧ H0 x = none ∧ Ex H0 H ∧ isVal v = true ∧ ∀ H2, Ex H0 H2 → H2 x = some (.ins Z.c_Value dx [("amount", v)]) → Q .non H2
def sp_Two_init (Z : Adr) : Sp := fun vs H Q _ => ∃ x dx op p q v1 v2 H0, vs = [.ref x, .str op, v1, v2] ∧ H x = some (.ins Z.c_Two dx []) ∧ H0 x = none ∧ Ex H0 H ∧ op ∈ opsW ∧ TermAt Z H0 p v1 ∧ TermAt Z H0 q v2 ∧ p.dep ≤ 4 ∧ q.dep ≤ 4 ∧
  ∀ H2, Ex H0 H2 → H2 x = some (.ins Z.c_Two dx [("op", .str op), ("one", v1), ("second", v2)]) → Q .non H2
def sp_Not_init (Z : Adr) : Sp := fun vs H Q _ => ∃ x dx p v1 H0, vs = [.ref x, v1] ∧ H x = some (.ins Z.c_Not dx []) ∧ H0 x = none ∧ Ex H0 H ∧ TermAt Z H0 p v1 ∧ p.dep ≤ 4 ∧ ∀ H2, Ex H0 H2 → H2 x = some (.ins Z.c_Not dx [("one", v1)]) → Q .non H2
def sp_Pick_init (Z : Adr) : Sp := fun vs H Q _ => ∃ x dx c p q v0 v1 v2 H0, vs = [.ref x, v0, v1, v2] ∧ H x = some (.ins Z.c_Pick dx []) ∧ H0 x = none ∧ Ex H0 H ∧ TermAt Z H0 c v0 ∧ TermAt Z H0 p v1 ∧ TermAt Z H0 q v2 ∧ c.dep ≤ 4 ∧ p.dep ≤ 4 ∧ q.dep ≤ 4 ∧
  ∀ H2, Ex H0 H2 → H2 x = some (.ins Z.c_Pick dx [("by", v0), ("one", v1), ("second", v2)]) → Q .non H2
theorem ok_Name_init (T : Txt K mg Z) : FnOk P w K mg base CX0 3 Z.f_Name_init Z.fd_Name_init ["self", "name"] (sp_Name_init Z) := by
  have G_is_pointed := ok_is_pointed (P := P) (w := w) (base := base) T
  refine T.F_Name_init.ok sc_Name_init (fun vs H Q E h => ?_) (fun cdv AA outer s H vs Q E hr h => ?_)
  · obtain ⟨x, dx, s, H0, rfl, _⟩ := h
    rfl
  · obtain ⟨x, dx, s, H0, rfl, hx, h0, e0, hp, hl, k⟩ := h
    have TX := tcB_ok T.x_Name
    refine ⟨_, (pss_cons (ps_if (pt_not (pt_val (pe_call G_is_pointed (hr.mono (by omega)) rfl T.g_is_pointed T.F_is_pointed.kp T.b_is_pointed .nil pass0 (pa_cons (pv 1) pa_nil)))) (pss_one ps_never) pss_nil)
      (pss_one (ps_fld (pv 0) (pv 1) (by rfl)))), ?_⟩
    walk_at "ss"
    refine ⟨_, rfl, .inl ⟨s, rfl, by omega, fun H1 e1 => ?_⟩⟩
    rw [hp]
    walk_at "ss"
    refine ⟨x, _, dx, _, rfl, e1 _ _ hx, TX.cl, TX.no _ (by decide +kernel), by simp, ?_⟩
    walk_at "ss"
    exact k _ (Ex.mut (e0.trans e1) h0) upd_same
theorem ok_Value_init (T : Txt K mg Z) : FnOk P w K mg base CX0 4 Z.f_Value_init Z.fd_Value_init ["self", "value"] (sp_Value_init Z) := by
  have G_is_value := ok_is_value (P := P) (w := w) (base := base) T
  refine T.F_Value_init.ok sc_Value_init (fun vs H Q E h => ?_) (fun cdv AA outer s H vs Q E hr h => ?_)
  · obtain ⟨x, dx, s, H0, rfl, _⟩ := h
    rfl
  · obtain ⟨x, dx, v, H0, rfl, hx, h0, e0, hp, k⟩ := h
    have TX := tcB_ok T.x_Value
    refine ⟨_, (pss_cons (ps_if (pt_not (pt_val (pe_call G_is_value (hr.mono (by omega)) rfl T.g_is_value T.F_is_value.kp T.b_is_value .nil pass0 (pa_cons (pv 1) pa_nil)))) (pss_one ps_never) pss_nil)
      (pss_one (ps_fld (pv 0) (pv 1) (by rfl)))), ?_⟩
    walk_at "ss"
    refine is_val hp ?_
    walk_at "ss"
    refine ⟨x, _, dx, _, rfl, hx, TX.cl, TX.no _ (by decide +kernel), by simp, ?_⟩
    walk_at "ss"
    exact k _ (Ex.mut e0 h0) upd_same
theorem in_ops {op : Str} (h : op ∈ opsW) : inV (.str op) opsV2 = true := by
  unfold opsV2
  rw [inV_str]
  exact List.contains_iff_mem.mpr h
theorem ok_Two_init (T : Txt K mg Z) : FnOk P w K mg base CX0 9 Z.f_Two_init Z.fd_Two_init ["self", "op", "one", "other"] (sp_Two_init Z) := by
  have G_ops_told := ok_ops_told (P := P) (w := w) (base := base) T
  have G_need_term := ok_need_term (P := P) (w := w) (base := base) T
  refine T.F_Two_init.ok sc_Two_init (fun vs H Q E h => ?_) (fun cdv AA outer s H vs Q E hr h => ?_)
  · obtain ⟨x, dx, op, p, q, v1, v2, H0, rfl, _⟩ := h
    rfl
  · obtain ⟨x, dx, op, p, q, v1, v2, H0, rfl, hx, h0, e0, ho, h1, h2, d1, d2, k⟩ := h
    have TX := tcB_ok T.x_Two
    refine ⟨_, (pss_cons (ps_if (PW.pt (pw_or (pt_not (pt_val (pe_callB call_isi (by rfl) T.n_isinstance (by decide +kernel) (pa_cons (pv 1) (pa_cons (pe_bltn (v := .ty "str") (by rfl) T.n_str (by decide +kernel) rfl) pa_nil))))) (pw_or1 (pt_cmpR op_notIn_seq (pv 1) (pe_call0 G_ops_told (hr.mono (by omega)) rfl T.g_ops_told T.F_ops_told.kp T.b_ops_told .nil pass0) (by rfl))))) (pss_one ps_never) pss_nil)
      (pss_cons (ps_fld (pv 0) (pv 1) (by rfl))
      (pss_cons (ps_fld (pv 0) (pe_call G_need_term (hr.mono (by omega)) rfl T.g_need_term T.F_need_term.kp T.b_need_term .nil pass0 (pa_cons (pv 2) pa_nil)) (by rfl))
      (pss_one (ps_fld (pv 0) (pe_call G_need_term (hr.mono (by omega)) rfl T.g_need_term T.F_need_term.kp T.b_need_term .nil pass0 (pa_cons (pv 3) pa_nil)) (by rfl)))))), ?_⟩
    walk_at "ss"
    refine isi (ty_str op) kb_ss ?_
    walk_at "ss"
    refine ⟨rfl, fun pl H1 hpl e1 g1 => ?_⟩
    refine c_notin (.inl (SqL.of g1)) rfl flat_strs ?_
    rw [in_ops ho]
    walk_at "ss"
    refine ⟨x, _, dx, _, rfl, e1 _ _ hx, TX.cl, TX.no _ (by decide +kernel), by simp, ?_⟩
    have e2 : Ex H0 (upd H1 x (.ins Z.c_Two dx (putF "op" (.str op) []))) := Ex.mut (e0.trans e1) h0
    have hx2 : upd H1 x (.ins Z.c_Two dx (putF "op" (.str op) [])) x = some (.ins Z.c_Two dx [("op", .str op)]) := upd_same
    generalize upd H1 x (.ins Z.c_Two dx (putF "op" (.str op) [])) = H2 at e2 hx2
    walk_at "ss"
    refine ⟨p, v1, rfl, h1.up e2, d1, fun H3 e3 => ?_⟩
    walk_at "ss"
    refine ⟨x, _, dx, _, rfl, e3 _ _ hx2, TX.cl, TX.no _ (by decide +kernel), by simp, ?_⟩
    rw [put_tl (by decide +kernel)]
    have e4 : Ex H0 (upd H3 x (.ins Z.c_Two dx (("op", .str op) :: putF "one" v1 []))) := Ex.mut (e2.trans e3) h0
    have hx4 : upd H3 x (.ins Z.c_Two dx (("op", .str op) :: putF "one" v1 [])) x = some (.ins Z.c_Two dx [("op", .str op), ("one", v1)]) := upd_same
    generalize upd H3 x (.ins Z.c_Two dx (("op", .str op) :: putF "one" v1 [])) = H4 at e4 hx4
    walk_at "ss"
    refine ⟨q, v2, rfl, h2.up e4, d2, fun H5 e5 => ?_⟩
    walk_at "ss"
    refine ⟨x, _, dx, _, rfl, e5 _ _ hx4, TX.cl, TX.no _ (by decide +kernel), by simp, ?_⟩
    rw [put_tl (by decide +kernel), put_tl (by decide +kernel)]
    walk_at "ss"
    exact k _ (Ex.mut (e4.trans e5) h0) upd_same
theorem ok_Not_init (T : Txt K mg Z) : FnOk P w K mg base CX0 9 Z.f_Not_init Z.fd_Not_init ["self", "one"] (sp_Not_init Z) := by
  have G_need_term := ok_need_term (P := P) (w := w) (base := base) T
  refine T.F_Not_init.ok sc_Not_init (fun vs H Q E h => ?_) (fun cdv AA outer s H vs Q E hr h => ?_)
  · obtain ⟨x, dx, p, v1, H0, rfl, _⟩ := h
    rfl
  · obtain ⟨x, dx, p, v1, H0, rfl, hx, h0, e0, h1, d1, k⟩ := h
    have TX := tcB_ok T.x_Not
    refine ⟨_, (pss_one (ps_fld (pv 0) (pe_call G_need_term (hr.mono (by omega)) rfl T.g_need_term T.F_need_term.kp T.b_need_term .nil pass0 (pa_cons (pv 1) pa_nil)) (by rfl))), ?_⟩
    walk_at "ss"
    refine ⟨p, v1, rfl, h1.up e0, d1, fun H3 e3 => ?_⟩
    walk_at "ss"
    refine ⟨x, _, dx, _, rfl, e3 _ _ hx, TX.cl, TX.no _ (by decide +kernel), by simp, ?_⟩
    walk_at "ss"
    exact k _ (Ex.mut (e0.trans e3) h0) upd_same
theorem ok_Pick_init (T : Txt K mg Z) : FnOk P w K mg base CX0 9 Z.f_Pick_init Z.fd_Pick_init ["self", "by", "one", "other"] (sp_Pick_init Z) := by
  have G_need_term := ok_need_term (P := P) (w := w) (base := base) T
  refine T.F_Pick_init.ok sc_Pick_init (fun vs H Q E h => ?_) (fun cdv AA outer s H vs Q E hr h => ?_)
  · obtain ⟨x, dx, c, p, q, v0, v1, v2, H0, rfl, _⟩ := h
    rfl
  · obtain ⟨x, dx, c, p, q, v0, v1, v2, H0, rfl, hx, h0, e0, hc, h1, h2, d0, d1, d2, k⟩ := h
    have TX := tcB_ok T.x_Pick
    refine ⟨_, (pss_cons (ps_fld (pv 0) (pe_call G_need_term (hr.mono (by omega)) rfl T.g_need_term T.F_need_term.kp T.b_need_term .nil pass0 (pa_cons (pv 1) pa_nil)) (by rfl))
      (pss_cons (ps_fld (pv 0) (pe_call G_need_term (hr.mono (by omega)) rfl T.g_need_term T.F_need_term.kp T.b_need_term .nil pass0 (pa_cons (pv 2) pa_nil)) (by rfl))
      (pss_one (ps_fld (pv 0) (pe_call G_need_term (hr.mono (by omega)) rfl T.g_need_term T.F_need_term.kp T.b_need_term .nil pass0 (pa_cons (pv 3) pa_nil)) (by rfl))))), ?_⟩
    walk_at "ss"
    refine ⟨c, v0, rfl, hc.up e0, d0, fun H1 e1 => ?_⟩
    walk_at "ss"
    refine ⟨x, _, dx, _, rfl, e1 _ _ hx, TX.cl, TX.no _ (by decide +kernel), by simp, ?_⟩
    have e2 : Ex H0 (upd H1 x (.ins Z.c_Pick dx (putF "by" v0 []))) := Ex.mut (e0.trans e1) h0
    have hx2 : upd H1 x (.ins Z.c_Pick dx (putF "by" v0 [])) x = some (.ins Z.c_Pick dx [("by", v0)]) := upd_same
    generalize upd H1 x (.ins Z.c_Pick dx (putF "by" v0 [])) = H2 at e2 hx2
    walk_at "ss"
    refine ⟨p, v1, rfl, h1.up e2, d1, fun H3 e3 => ?_⟩
    walk_at "ss"
    refine ⟨x, _, dx, _, rfl, e3 _ _ hx2, TX.cl, TX.no _ (by decide +kernel), by simp, ?_⟩
    rw [put_tl (by decide +kernel)]
    have e4 : Ex H0 (upd H3 x (.ins Z.c_Pick dx (("by", v0) :: putF "one" v1 []))) := Ex.mut (e2.trans e3) h0
    have hx4 : upd H3 x (.ins Z.c_Pick dx (("by", v0) :: putF "one" v1 [])) x = some (.ins Z.c_Pick dx [("by", v0), ("one", v1)]) := upd_same
    generalize upd H3 x (.ins Z.c_Pick dx (("by", v0) :: putF "one" v1 [])) = H4 at e4 hx4
    walk_at "ss"
    refine ⟨q, v2, rfl, h2.up e4, d2, fun H5 e5 => ?_⟩
    walk_at "ss"
    refine ⟨x, _, dx, _, rfl, e5 _ _ hx4, TX.cl, TX.no _ (by decide +kernel), by simp, ?_⟩
    rw [put_tl (by decide +kernel), put_tl (by decide +kernel)]
    walk_at "ss"
    exact k _ (Ex.mut (e4.trans e5) h0) upd_same
/-- what is made where: a new one, all else kept -/
def RetM (Z : Adr) (t : Tm) (H : Hp) (Q : VK) : Prop := ∀ v H2, Ex H H2 → TermAt Z H2 t v → Q v H2
theorem RetM.up {t : Tm} {H0 H : Hp} {Q : VK} (k : RetM Z t H0 Q) (e : Ex H0 H) : RetM Z t H Q := fun v H2 e2 => k v H2 (e.trans e2)
theorem mk_heap {H : Hp} {x dx : Addr} {C : Addr} (hx : H x = none) (hd : H dx = none) : Ex H (upd (upd H dx (.own x)) x (.ins C dx [])) := fun a o h => by
  rw [upd_ne (ne_of_none h hx), upd_ne (ne_of_none h hd)]
  exact h
theorem mk_Name {H : Hp} {Q : VK} {E : XK} {s : Str} (hp : isPointed s = true) (hl : s.length ≤ 1000) (k : RetM Z (.nm s) H Q) : MkP2 Z.c_Name (sp_Name_init Z) [.str s] H Q E := fun x dx hx hd _ =>
  ⟨x, dx, s, H, rfl, upd_same, hx, mk_heap hx hd, hp, hl, fun H2 e2 g2 => ⟨rfl, k _ _ e2 ⟨x, dx, rfl, g2⟩⟩⟩
theorem mk_Value {H : Hp} {Q : VK} {E : XK} {v : V} (hp : isVal v = true) (k : RetM Z (.vl v) H Q) : MkP2 Z.c_Value (sp_Value_init Z) [v] H Q E := fun x dx hx hd _ =>
  ⟨x, dx, v, H, rfl, upd_same, hx, mk_heap hx hd, hp, fun H2 e2 g2 => ⟨rfl, k _ _ e2 ⟨x, dx, rfl, g2⟩⟩⟩
theorem mk_Two {H : Hp} {Q : VK} {E : XK} {op : Str} {p q : Tm} {v1 v2 : V} (ho : op ∈ opsW) (h1 : TermAt Z H p v1) (h2 : TermAt Z H q v2) (d1 : p.dep ≤ 4) (d2 : q.dep ≤ 4) (k : RetM Z (.two op p q) H Q) : MkP2 Z.c_Two (sp_Two_init Z) [.str op, v1, v2] H Q E := fun x dx hx hd _ =>
  ⟨x, dx, op, p, q, v1, v2, H, rfl, upd_same, hx, mk_heap hx hd, ho, h1, h2, d1, d2, fun H2 e2 g2 => ⟨rfl, k _ _ e2 ⟨x, dx, v1, v2, rfl, g2, h1.up e2, h2.up e2⟩⟩⟩
theorem mk_Not {H : Hp} {Q : VK} {E : XK} {p : Tm} {v1 : V} (h1 : TermAt Z H p v1) (d1 : p.dep ≤ 4) (k : RetM Z (.nt p) H Q) : MkP2 Z.c_Not (sp_Not_init Z) [v1] H Q E := fun x dx hx hd _ =>
  ⟨x, dx, p, v1, H, rfl, upd_same, hx, mk_heap hx hd, h1, d1, fun H2 e2 g2 => ⟨rfl, k _ _ e2 ⟨x, dx, v1, rfl, g2, h1.up e2⟩⟩⟩
theorem mk_Pick {H : Hp} {Q : VK} {E : XK} {c p q : Tm} {v0 v1 v2 : V} (h0 : TermAt Z H c v0) (h1 : TermAt Z H p v1) (h2 : TermAt Z H q v2) (d0 : c.dep ≤ 4) (d1 : p.dep ≤ 4) (d2 : q.dep ≤ 4) (k : RetM Z (.pk c p q) H Q) : MkP2 Z.c_Pick (sp_Pick_init Z) [v0, v1, v2] H Q E := fun x dx hx hd _ =>
  ⟨x, dx, c, p, q, v0, v1, v2, H, rfl, upd_same, hx, mk_heap hx hd, h0, h1, h2, d0, d1, d2, fun H2 e2 g2 => ⟨rfl, k _ _ e2 ⟨x, dx, v0, v1, v2, rfl, g2, h0.up e2, h1.up e2, h2.up e2⟩⟩⟩

/-! ### terms of what was told -/
def Tm.good : Tm → Prop
  | .nm s => isPointed s = true ∧ s.length ≤ 80 ∧ OkT s
  | .vl v => isVal v = true
  | .two op a b => op ∈ opsW ∧ a.good ∧ b.good
  | .nt a => a.good
  | .pk c a b => c.good ∧ a.good ∧ b.good
def valD : V → PyData
  | .bl b => .bool b
  | .int i => .int i
  | _ => .none
def Tm.data : Tm → PyData
  | .nm s => .tuple [.str "name", .str s]
  | .vl v => .tuple [.str "value", valD v]
  | .two op a b => .tuple [.str "two", .str op, a.data, b.data]
  | .nt a => .tuple [.str "not", a.data]
  | .pk c a b => .tuple [.str "pick", c.data, a.data, b.data]
theorem ToldAt.dp {H : Hp} : ∀ {t : Tm} {u : V}, t.good → ToldAt H t u → Dp K H u t.data := by
  intro t
  induction t with
  | nm s => rintro u _ ⟨a, rfl, h⟩; exact .tup (SqT.of h) (.cons (.str _) (.cons (.str _) .nil))
  | vl v =>
    rintro u g ⟨a, rfl, h⟩
    refine .tup (SqT.of h) (.cons (.str _) (.cons ?_ .nil))
    cases v with
    | bl b => exact .bl b
    | int i => exact .int i
    | _ => exact absurd g Bool.false_ne_true
  | two op p q ihp ihq => rintro u g ⟨a, v1, v2, rfl, h, h1, h2⟩; exact .tup (SqT.of h) (.cons (.str _) (.cons (.str _) (.cons (ihp g.2.1 h1) (.cons (ihq g.2.2 h2) .nil))))
  | nt p ihp => rintro u g ⟨a, v1, rfl, h, h1⟩; exact .tup (SqT.of h) (.cons (.str _) (.cons (ihp g h1) .nil))
  | pk c p q ihc ihp ihq => rintro u g ⟨a, v0, v1, v2, rfl, h, h0, h1, h2⟩; exact .tup (SqT.of h) (.cons (.str _) (.cons (ihc g.1 h0) (.cons (ihp g.2.1 h1) (.cons (ihq g.2.2 h2) .nil))))
theorem ok_lit {s : Str} (h : (TL.tl s).all (fun c => decide (c < 1114112)) = true) {n : Nat} (hl : s.length ≤ n) : RpOk 0 n (.str s) := (rp_str (OkT.lit h)).mono (Nat.le_refl _) hl
theorem ops_lit {op : Str} (h : op ∈ opsW) : RpOk 0 5 (.str op) := by
  have : opsW.all (fun s => (TL.tl s).all (fun c => decide (c < 1114112)) && decide (s.length ≤ 5)) = true := by decide +kernel
  have := List.all_eq_true.mp this op h
  rw [Bool.and_eq_true, decide_eq_true_eq] at this
  exact ok_lit this.1 this.2
theorem Tm.rp : ∀ {t : Tm}, t.good → RpOk t.dep (200 * 4 ^ t.dep) t.data := by
  intro t
  induction t with
  | nm s =>
    intro g
    refine (rp_tup (rp_cons (ok_lit (n := 4) (by decide +kernel) (by decide +kernel)) (rp_cons (rp_str g.2.2) rp_nil))).mono (by show 0 + 1 ≤ 1; omega) ?_
    have := g.2.1
    show 4 + 1 + (s.length + 1 + 0) ≤ 200 * 4 ^ 1
    omega
  | vl v =>
    intro g
    have hv : RpOk 0 0 (valD v) := by
      cases v with
      | bl b => exact rp_bl b
      | int i =>
        have g' : (decide (-1000000000 ≤ i) && decide (i ≤ 1000000000)) = true := g
        rw [Bool.and_eq_true, decide_eq_true_eq, decide_eq_true_eq] at g'
        exact rp_int (by omega)
      | _ => exact absurd g Bool.false_ne_true
    exact (rp_tup (rp_cons (ok_lit (n := 5) (by decide +kernel) (by decide +kernel)) (rp_cons hv rp_nil))).mono (by show 0 + 1 ≤ 1; omega) (by show 5 + 1 + (0 + 1 + 0) ≤ 200 * 4 ^ 1; omega)
  | two op a b iha ihb =>
    intro g
    have p1 : 4 ^ a.dep ≤ 4 ^ max a.dep b.dep := Nat.pow_le_pow_right (by decide) (by omega)
    have p2 : 4 ^ b.dep ≤ 4 ^ max a.dep b.dep := Nat.pow_le_pow_right (by decide) (by omega)
    have p3 : 1 ≤ 4 ^ max a.dep b.dep := Nat.one_le_pow _ _ (by decide)
    have e : 4 ^ (1 + max a.dep b.dep) = 4 * 4 ^ max a.dep b.dep := by rw [Nat.pow_add]
    refine (rp_tup (rp_cons (ok_lit (n := 4) (by decide +kernel) (by decide +kernel)) (rp_cons (ops_lit g.1) (rp_cons (iha g.2.1) (rp_cons (ihb g.2.2) rp_nil))))).mono ?_ ?_
    · show max 0 (max 0 (max a.dep (max b.dep 0))) + 1 ≤ 1 + max a.dep b.dep
      omega
    · show 4 + 1 + (5 + 1 + (200 * 4 ^ a.dep + 1 + (200 * 4 ^ b.dep + 1 + 0))) ≤ 200 * 4 ^ (1 + max a.dep b.dep)
      rw [e]
      omega
  | nt a iha =>
    intro g
    have p3 : 1 ≤ 4 ^ a.dep := Nat.one_le_pow _ _ (by decide)
    have e : 4 ^ (1 + a.dep) = 4 * 4 ^ a.dep := by rw [Nat.pow_add]
    refine (rp_tup (rp_cons (ok_lit (n := 4) (by decide +kernel) (by decide +kernel)) (rp_cons (iha g) rp_nil))).mono ?_ ?_
    · show max 0 (max a.dep 0) + 1 ≤ 1 + a.dep
      omega
    · show 4 + 1 + (200 * 4 ^ a.dep + 1 + 0) ≤ 200 * 4 ^ (1 + a.dep)
      rw [e]
      omega
  | pk c a b ihc iha ihb =>
    intro g
    have p0 : 4 ^ c.dep ≤ 4 ^ max (max c.dep a.dep) b.dep := Nat.pow_le_pow_right (by decide) (by omega)
    have p1 : 4 ^ a.dep ≤ 4 ^ max (max c.dep a.dep) b.dep := Nat.pow_le_pow_right (by decide) (by omega)
    have p2 : 4 ^ b.dep ≤ 4 ^ max (max c.dep a.dep) b.dep := Nat.pow_le_pow_right (by decide) (by omega)
    have p3 : 1 ≤ 4 ^ max (max c.dep a.dep) b.dep := Nat.one_le_pow _ _ (by decide)
    have e : 4 ^ (1 + max (max c.dep a.dep) b.dep) = 4 * 4 ^ max (max c.dep a.dep) b.dep := by rw [Nat.pow_add]
    refine (rp_tup (rp_cons (ok_lit (n := 4) (by decide +kernel) (by decide +kernel)) (rp_cons (ihc g.1) (rp_cons (iha g.2.1) (rp_cons (ihb g.2.2) rp_nil))))).mono ?_ ?_
    · show max 0 (max c.dep (max a.dep (max b.dep 0))) + 1 ≤ 1 + max (max c.dep a.dep) b.dep
      omega
    · show 4 + 1 + (200 * 4 ^ c.dep + 1 + (200 * 4 ^ a.dep + 1 + (200 * 4 ^ b.dep + 1 + 0))) ≤ 200 * 4 ^ (1 + max (max c.dep a.dep) b.dep)
      rw [e]
      omega
theorem NL.ins {H H2 : Hp} (e : NL H H2) : InsK H H2 := fun a C dx fs h => e a _ (fun _ z => by cases z) h
theorem NL.tups {H H2 : Hp} (e : NL H H2) : TupK H H2 := fun a xs h => e a _ (fun _ z => by cases z) h
def sp_simple_of (Z : Adr) : Sp := fun vs H Q _ => (∃ s, vs = [.str "name", .str s] ∧ isPointed s = true ∧ s.length ≤ 80 ∧ RetM Z (.nm s) H Q) ∨ ∃ v, vs = [.str "value", v] ∧ isVal v = true ∧ RetM Z (.vl v) H Q
theorem ok_simple_of (T : Txt K mg Z) : FnOk P w K mg base CX0 6 Z.f_simple_of Z.fd_simple_of ["word", "thing"] (sp_simple_of Z) := by
  have G_is_pointed := ok_is_pointed (P := P) (w := w) (base := base) T
  have G_is_value := ok_is_value (P := P) (w := w) (base := base) T
  have G_Name_init := ok_Name_init (P := P) (w := w) (base := base) T
  have G_Value_init := ok_Value_init (P := P) (w := w) (base := base) T
  refine T.F_simple_of.ok sc_simple_of (fun vs H Q E h => ?_) (fun cdv AA outer s H vs Q E hr h => ?_)
  · rcases h with ⟨s, rfl, _⟩ | ⟨v, rfl, _⟩ <;> rfl
  · refine ⟨_, (pss_cons (ps_if (PW.pt (pw_and (pt_cmpR op_eq (pv 0) pe_str (nomark _)) (pw_and1 (pt_val (pe_call G_is_pointed (hr.mono (by omega)) rfl T.g_is_pointed T.F_is_pointed.kp T.b_is_pointed .nil pass0 (pa_cons (pv 1) pa_nil)))))) (pss_one (ps_ret (pe_make ⟨(tcB_ok T.x_Name).makes, T.i_Name, T.y_Name_init, (tcB_ok T.x_Name).kp⟩ G_Name_init (hr.mono (by omega)) rfl T.m_Name T.b_Name_init .nil pass0 (pa_cons (pv 1) pa_nil)))) pss_nil)
      (pss_cons (ps_if (PW.pt (pw_and (pt_cmpR op_eq (pv 0) pe_str (nomark _)) (pw_and1 (pt_val (pe_call G_is_value (hr.mono (by omega)) rfl T.g_is_value T.F_is_value.kp T.b_is_value .nil pass0 (pa_cons (pv 1) pa_nil)))))) (pss_one (ps_ret (pe_make ⟨(tcB_ok T.x_Value).makes, T.i_Value, T.y_Value_init, (tcB_ok T.x_Value).kp⟩ G_Value_init (hr.mono (by omega)) rfl T.m_Value T.b_Value_init .nil pass0 (pa_cons (pv 1) pa_nil)))) pss_nil)
      (pss_one (ps_ret pe_non)))), ?_⟩
    rcases h with ⟨s, rfl, hp, hl, k⟩ | ⟨v, rfl, hp, k⟩
    · walk_at "ss"
      rw [str_eq rfl]
      walk_at "ss"
      refine ⟨_, rfl, .inl ⟨s, rfl, by omega, fun H1 e1 => ?_⟩⟩
      rw [hp]
      walk_at "ss"
      exact mk_Name hp (by omega) (k.up e1)
    · walk_at "ss"
      rw [str_ne (by decide +kernel)]
      walk_at "ss"
      rw [str_eq rfl]
      walk_at "ss"
      refine is_val hp ?_
      walk_at "ss"
      exact mk_Value hp k

theorem int_ne {i j : Int} (h : i ≠ j) : decide (V.int i = V.int j) = false := decide_eq_false fun e => h (V.int.inj e)
theorem int_eq {i j : Int} (h : i = j) : decide (V.int i = V.int j) = true := decide_eq_true (by rw [h])
theorem kb_tt : kitB "tuple" "tuple" = some true := by decide +kernel
def sp_made (Z : Adr) (n : Nat) : Sp := fun vs H Q _ => ∃ (t : Tm) (u : V) (l : Nat), vs = [u, .int (l : Nat)] ∧ ToldAt H t u ∧ t.good ∧ t.dep ≤ l ∧ l ≤ n ∧ l ≤ 5 ∧ RetM Z t H Q
theorem ok_made_of_told (T : Txt K mg Z) {n : Nat} (G_made_of_told : FnOk P w K mg base CX0 (n + 12) Z.f_made_of_told Z.fd_made_of_told ["told", "left"] (sp_made Z n)) : FnOk P w K mg base CX0 (n + 13) Z.f_made_of_told Z.fd_made_of_told ["told", "left"] (sp_made Z (n + 1)) := by
  have G_simple_of := ok_simple_of (P := P) (w := w) (base := base) T
  have G_ops_told := ok_ops_told (P := P) (w := w) (base := base) T
  have G_Two_init := ok_Two_init (P := P) (w := w) (base := base) T
  have G_Not_init := ok_Not_init (P := P) (w := w) (base := base) T
  have G_Pick_init := ok_Pick_init (P := P) (w := w) (base := base) T
  refine T.F_made_of_told.ok sc_made_of_told (fun vs H Q E h => ?_) (fun cdv AA outer s H vs Q E hr h => ?_)
  · obtain ⟨t, u, l, rfl, _⟩ := h
    rfl
  · obtain ⟨t, u, l, rfl, ht, hg, hd, hl, h5, k⟩ := h
    have hd0 := t.dep_pos
    refine ⟨_, (pss_cons (ps_if (PW.pt (pw_or (pt_cmpR op_eq (pv 1) pe_int (nomark _)) (pw_or (pt_not (pt_val (pe_callB call_isi (by rfl) T.n_isinstance (by decide +kernel) (pa_cons (pv 0) (pa_cons (pe_bltn (v := .ty "tuple") (by rfl) T.n_tuple (by decide +kernel) rfl) pa_nil))))) (pw_or (pt_cmpR op_lt (pe_callB call_len_seq (by rfl) T.n_len (by decide +kernel) (pa_cons (pv 0) pa_nil)) pe_int (nomark _)) (pw_or1 (pt_not (pt_val (pe_callB call_isi (by rfl) T.n_isinstance (by decide +kernel) (pa_cons (pe_ix ix_tup (pv 0) pe_int (fun _ _ => rfl)) (pa_cons (pe_bltn (v := .ty "str") (by rfl) T.n_str (by decide +kernel) rfl) pa_nil)))))))))) (pss_one (ps_ret pe_non)) pss_nil)
      (pss_cons (ps_set (i := 2) sc_made_of_told.nd rfl (Or.inl rfl) (pe_ix ix_tup (pv 0) pe_int (fun _ _ => rfl)))
      (pss_cons (ps_if (PW.pt (pw_and (pt_cmpR op_in_seq (pv 2) (pe_tup (pa_cons pe_str (pa_cons pe_str pa_nil))) (by rfl)) (pw_and1 (pt_cmpR op_eq (pe_callB call_len_seq (by rfl) T.n_len (by decide +kernel) (pa_cons (pv 0) pa_nil)) pe_int (nomark _))))) (pss_one (ps_ret (pe_call G_simple_of (hr.mono (by omega)) rfl T.g_simple_of T.F_simple_of.kp T.b_simple_of .nil pass0 (pa_cons (pv 2) (pa_cons (pe_ix ix_tup (pv 0) pe_int (fun _ _ => rfl)) pa_nil))))) pss_nil)
      (pss_cons (ps_set (i := 3) sc_made_of_told.nd rfl (Or.inl rfl) (pe_op op_add pe_int (pe_callTy call_int1 (by rfl) T.n_int (by decide +kernel) (pa_cons (pe_cmpR op_eq (pv 2) pe_str (nomark _)) pa_nil))))
      (pss_cons (ps_setLc (i := 4) (own := [("one", 5)]) (g := (gName 5)) (tt := tYes) (te := (tCall (sp_made Z n) [] E0 (tCons (tVar 5) (tCons (tOp (rI0 fun i j => .int (i - j)) (tVar 1) (tC (.int 1))) tNil)))) rfl sc_made_of_told.nd rfl rfl (sw_true rfl rfl rfl (by decide +kernel)) (pi_tup (pe_slice sl_tup (pv 0) (po_some (pv 3)) po_none)) (blkOk_by (own := [("one", 5)]) (N := N_made_of_told) (sc := defScope s_made_of_told) (by decide +kernel)) (fun _ _ _ _ _ => (pg_name (i := 5) sc_made_of_told.nd rfl (Or.inl rfl))) (fun _ _ _ _ _ => pts_nil) (fun _ _ _ _ _ => (pe_call G_made_of_told (hr.mono (by omega)) rfl T.g_made_of_told T.F_made_of_told.kp T.b_made_of_told .nil pass0 (pa_cons (pv 5) (pa_cons (pe_op op_sub (pv 1) pe_int) pa_nil)))))
      (pss_cons (ps_if (pt_cmpR (op_noneIn hr.units) pe_non (pv 4) (by rfl)) (pss_one (ps_ret pe_non)) pss_nil)
      (pss_cons (ps_if (PW.pt (pw_and (pt_cmpR op_eq (pv 2) pe_str (nomark _)) (pw_and (pt_cmpR op_eq (pe_callB call_len_seq (by rfl) T.n_len (by decide +kernel) (pa_cons (pv 4) pa_nil)) pe_int (nomark _)) (pw_and (pt_val (pe_callB call_isi (by rfl) T.n_isinstance (by decide +kernel) (pa_cons (pe_ix ix_tup (pv 0) pe_int (fun _ _ => rfl)) (pa_cons (pe_bltn (v := .ty "str") (by rfl) T.n_str (by decide +kernel) rfl) pa_nil)))) (pw_and1 (pt_cmpR op_in_seq (pe_ix ix_tup (pv 0) pe_int (fun _ _ => rfl)) (pe_call0 G_ops_told (hr.mono (by omega)) rfl T.g_ops_told T.F_ops_told.kp T.b_ops_told .nil pass0) (by rfl))))))) (pss_one (ps_ret (pe_make ⟨(tcB_ok T.x_Two).makes, T.i_Two, T.y_Two_init, (tcB_ok T.x_Two).kp⟩ G_Two_init (hr.mono (by omega)) rfl T.m_Two T.b_Two_init .nil pass0 (pa_cons (pe_ix ix_tup (pv 0) pe_int (fun _ _ => rfl)) (pa_cons (pe_ix ix_list (pv 4) pe_int (fun _ _ => rfl)) (pa_cons (pe_ix ix_list (pv 4) pe_int (fun _ _ => rfl)) pa_nil)))))) pss_nil)
      (pss_cons (ps_if (PW.pt (pw_and (pt_cmpR op_eq (pv 2) pe_str (nomark _)) (pw_and1 (pt_cmpR op_eq (pe_callB call_len_seq (by rfl) T.n_len (by decide +kernel) (pa_cons (pv 4) pa_nil)) pe_int (nomark _))))) (pss_one (ps_ret (pe_make ⟨(tcB_ok T.x_Not).makes, T.i_Not, T.y_Not_init, (tcB_ok T.x_Not).kp⟩ G_Not_init (hr.mono (by omega)) rfl T.m_Not T.b_Not_init .nil pass0 (pa_cons (pe_ix ix_list (pv 4) pe_int (fun _ _ => rfl)) pa_nil)))) pss_nil)
      (pss_cons (ps_if (PW.pt (pw_and (pt_cmpR op_eq (pv 2) pe_str (nomark _)) (pw_and1 (pt_cmpR op_eq (pe_callB call_len_seq (by rfl) T.n_len (by decide +kernel) (pa_cons (pv 4) pa_nil)) pe_int (nomark _))))) (pss_one (ps_ret (pe_make ⟨(tcB_ok T.x_Pick).makes, T.i_Pick, T.y_Pick_init, (tcB_ok T.x_Pick).kp⟩ G_Pick_init (hr.mono (by omega)) rfl T.m_Pick T.b_Pick_init .nil pass0 (pa_cons (pe_ix ix_list (pv 4) pe_int (fun _ _ => rfl)) (pa_cons (pe_ix ix_list (pv 4) pe_int (fun _ _ => rfl)) (pa_cons (pe_ix ix_list (pv 4) pe_int (fun _ _ => rfl)) pa_nil)))))) pss_nil)
      (pss_one (ps_ret pe_non))))))))))), ?_⟩
    cases t with
    | nm s =>
      obtain ⟨a, rfl, ha⟩ := ht
      walk_at "ss"
      rw [int_ne (by omega)]
      walk_at "ss"
      refine isi (ty_tup ha) kb_tt ?_
      walk_at "ss"
      refine ⟨a, _, rfl, .inr (SqT.of ha), ?_⟩
      walk_at "ss"
      refine if_ff rfl ?_
      walk_at "ss"
      refine c_ixT (SqT.of ha) rfl ?_
      walk_at "ss"
      refine isi (ty_str _) kb_ss ?_
      walk_at "ss"
      refine c_ixT (SqT.of ha) rfl ?_
      walk_at "ss"
      refine newT fun p1 H1 hp1 e1 g1 => ?_
      refine c_in (.inr (SqT.of g1)) rfl rfl ?_
      have ha1 := e1 _ _ ha
      rw [show inV (V.str "name") [V.str "name", V.str "value"] = true from by decide +kernel]
      walk_at "ss"
      refine ⟨a, _, rfl, .inr (SqT.of ha1), ?_⟩
      walk_at "ss"
      refine if_tt rfl ?_
      walk_at "ss"
      refine c_ixT (SqT.of ha1) rfl ?_
      walk_at "ss"
      exact .inl ⟨_, rfl, hg.1, hg.2.1, k.up e1⟩
    | vl v =>
      obtain ⟨a, rfl, ha⟩ := ht
      walk_at "ss"
      rw [int_ne (by omega)]
      walk_at "ss"
      refine isi (ty_tup ha) kb_tt ?_
      walk_at "ss"
      refine ⟨a, _, rfl, .inr (SqT.of ha), ?_⟩
      walk_at "ss"
      refine if_ff rfl ?_
      walk_at "ss"
      refine c_ixT (SqT.of ha) rfl ?_
      walk_at "ss"
      refine isi (ty_str _) kb_ss ?_
      walk_at "ss"
      refine c_ixT (SqT.of ha) rfl ?_
      walk_at "ss"
      refine newT fun p1 H1 hp1 e1 g1 => ?_
      refine c_in (.inr (SqT.of g1)) rfl rfl ?_
      have ha1 := e1 _ _ ha
      rw [show inV (V.str "value") [V.str "name", V.str "value"] = true from by decide +kernel]
      walk_at "ss"
      refine ⟨a, _, rfl, .inr (SqT.of ha1), ?_⟩
      walk_at "ss"
      refine if_tt rfl ?_
      walk_at "ss"
      refine c_ixT (SqT.of ha1) rfl ?_
      walk_at "ss"
      exact .inr ⟨_, rfl, hg, k.up e1⟩
    | two op tx ty =>
      obtain ⟨a, v1, v2, rfl, ha, h_tx, h_ty⟩ := ht
      obtain ⟨gop, g_tx, g_ty⟩ := hg
      simp only [Tm.dep] at hd hd0
      walk_at "ss"
      rw [int_ne (by omega)]
      walk_at "ss"
      refine isi (ty_tup ha) kb_tt ?_
      walk_at "ss"
      refine ⟨a, _, rfl, .inr (SqT.of ha), ?_⟩
      walk_at "ss"
      refine if_ff rfl ?_
      walk_at "ss"
      refine c_ixT (SqT.of ha) rfl ?_
      walk_at "ss"
      refine isi (ty_str _) kb_ss ?_
      walk_at "ss"
      refine c_ixT (SqT.of ha) rfl ?_
      walk_at "ss"
      refine newT fun p1 H1 hp1 e1 g1 => ?_
      refine c_in (.inr (SqT.of g1)) rfl rfl ?_
      have ha1 := e1 _ _ ha
      rw [show inV (V.str "two") [V.str "name", V.str "value"] = false from by decide +kernel]
      walk_at "ss"
      rw [str_eq rfl]
      walk_at "ss"
      refine .inr ⟨_, rfl, ?_⟩
      walk_at "ss"
      refine ⟨a, _, rfl, SqT.of ha1, fun z => absurd (show (2 : Nat) = 0 from z.1) (by decide), fun p2 hp2 => ?_⟩
      have e2 : Ex H1 (upd H1 p2 (.tup [v1, v2])) := Ex.new hp2
      have g2 : upd H1 p2 (.tup [v1, v2]) p2 = some (.tup [v1, v2]) := upd_same
      show ∃ a, _
      rw [show cutV [V.str "two", V.str op, v1, v2] _ none = [v1, v2] from rfl]
      generalize upd H1 p2 (.tup [v1, v2]) = H2 at e2 g2
      have e12 := e1.trans e2
      refine ⟨p2, rfl, ⟨_, SqT.of g2⟩, lcTN (fun i y G => ∃ t, ([tx, ty] : List Tm)[i]? = some t ∧ TermAt Z G t y) (fun i y G G2 en ⟨t, h1, h2⟩ => ⟨t, h1, h2.keep (NL.ins en)⟩) (SqT.of g2) (by simp) (fun i x hx => ?_) ?_⟩
      · intro H3 e3 R N hR
        have hi : i < 2 := by simpa using (List.getElem?_eq_some_iff.mp hx).1
        walk_at "ss"
        have go : ∃ t, ([tx, ty] : List Tm)[i]? = some t ∧ ToldAt H t x ∧ t.good ∧ t.dep + 1 ≤ l := by
          have hi' : i = 0 ∨ i = 1 := by omega
          rcases hi' with rfl | rfl
          · have hv : v1 = x := by simpa using hx
            subst hv
            exact ⟨tx, rfl, h_tx, g_tx, by omega⟩
          · have hv : v2 = x := by simpa using hx
            subst hv
            exact ⟨ty, rfl, h_ty, g_ty, by omega⟩
        obtain ⟨t, ht1, ht2, ht3, ht4⟩ := go
        have el : ((l : Nat) : Int) - 1 = ((l - 1 : Nat) : Int) := by omega
        rw [el]
        refine ⟨t, x, l - 1, rfl, ht2.up (e12.trans e3), ht3, by omega, by omega, by omega, fun v H4 e4 tv => ?_⟩
        exact hR _ _ e4 ⟨t, ht1, tv⟩
      intro ys p3 H3 hyl hys hp3 e3 g3
      obtain ⟨y0, y1, rfl⟩ : ∃ y0 y1, ys = [y0, y1] := by
        match ys, hyl with
        | [y0, y1], _ => exact ⟨y0, y1, rfl⟩
      have k0 : TermAt Z H3 tx y0 := by
        obtain ⟨t, h1, h2⟩ := hys 0 y0 rfl
        have : tx = t := by simpa using h1
        subst this
        exact h2
      have k1 : TermAt Z H3 ty y1 := by
        obtain ⟨t, h1, h2⟩ := hys 1 y1 rfl
        have : ty = t := by simpa using h1
        subst this
        exact h2
      have e03 := e12.trans e3
      have ha3 := e03 _ _ ha
      walk_at "ss"
      refine c_noneIn (SqL.of g3) (fun z hz => ?_) (fun z hz => ?_) ?_
      · obtain ⟨i, hi⟩ := List.getElem?_of_mem hz
        obtain ⟨t, _, h2⟩ := hys i z hi
        exact h2.noneOr T
      · obtain ⟨i, hi⟩ := List.getElem?_of_mem hz
        obtain ⟨t, _, h2⟩ := hys i z hi
        obtain ⟨aa, _, _, rfl, _⟩ := h2.cls
        exact fun z => by cases z
      walk_at "ss"
      rw [str_eq rfl]
      walk_at "ss"
      refine ⟨p3, _, rfl, .inl (SqL.of g3), ?_⟩
      walk_at "ss"
      refine if_tt rfl ?_
      walk_at "ss"
      refine c_ixT (SqT.of ha3) rfl ?_
      walk_at "ss"
      refine isi (ty_str _) kb_ss ?_
      walk_at "ss"
      refine c_ixT (SqT.of ha3) rfl ?_
      walk_at "ss"
      refine ⟨rfl, fun p4 H4 hp4 e4 g4 => ?_⟩
      refine c_in (.inl (SqL.of g4)) rfl flat_strs ?_
      rw [in_ops gop]
      walk_at "ss"
      refine c_ixT (SqT.of (e4 _ _ ha3)) rfl ?_
      walk_at "ss"
      refine c_ixL (SqL.of (e4 _ _ g3)) rfl ?_
      walk_at "ss"
      refine c_ixL (SqL.of (e4 _ _ g3)) rfl ?_
      walk_at "ss"
      exact mk_Two gop (k0.up e4) (k1.up e4) (by omega) (by omega) (k.up (e03.trans e4))
    | nt tx =>
      obtain ⟨a, v1, rfl, ha, h_tx⟩ := ht
      have g_tx : tx.good := hg
      simp only [Tm.dep] at hd hd0
      walk_at "ss"
      rw [int_ne (by omega)]
      walk_at "ss"
      refine isi (ty_tup ha) kb_tt ?_
      walk_at "ss"
      refine ⟨a, _, rfl, .inr (SqT.of ha), ?_⟩
      walk_at "ss"
      refine if_ff rfl ?_
      walk_at "ss"
      refine c_ixT (SqT.of ha) rfl ?_
      walk_at "ss"
      refine isi (ty_str _) kb_ss ?_
      walk_at "ss"
      refine c_ixT (SqT.of ha) rfl ?_
      walk_at "ss"
      refine newT fun p1 H1 hp1 e1 g1 => ?_
      refine c_in (.inr (SqT.of g1)) rfl rfl ?_
      have ha1 := e1 _ _ ha
      rw [show inV (V.str "not") [V.str "name", V.str "value"] = false from by decide +kernel]
      walk_at "ss"
      rw [str_ne (by decide +kernel)]
      walk_at "ss"
      refine .inr ⟨_, rfl, ?_⟩
      walk_at "ss"
      refine ⟨a, _, rfl, SqT.of ha1, fun z => absurd (show (1 : Nat) = 0 from z.1) (by decide), fun p2 hp2 => ?_⟩
      have e2 : Ex H1 (upd H1 p2 (.tup [v1])) := Ex.new hp2
      have g2 : upd H1 p2 (.tup [v1]) p2 = some (.tup [v1]) := upd_same
      show ∃ a, _
      rw [show cutV [V.str "not", v1] _ none = [v1] from rfl]
      generalize upd H1 p2 (.tup [v1]) = H2 at e2 g2
      have e12 := e1.trans e2
      refine ⟨p2, rfl, ⟨_, SqT.of g2⟩, lcTN (fun i y G => ∃ t, ([tx] : List Tm)[i]? = some t ∧ TermAt Z G t y) (fun i y G G2 en ⟨t, h1, h2⟩ => ⟨t, h1, h2.keep (NL.ins en)⟩) (SqT.of g2) (by simp) (fun i x hx => ?_) ?_⟩
      · intro H3 e3 R N hR
        have hi : i < 1 := by simpa using (List.getElem?_eq_some_iff.mp hx).1
        walk_at "ss"
        have go : ∃ t, ([tx] : List Tm)[i]? = some t ∧ ToldAt H t x ∧ t.good ∧ t.dep + 1 ≤ l := by
          have hi' : i = 0 := by omega
          rcases hi' with rfl
          · have hv : v1 = x := by simpa using hx
            subst hv
            exact ⟨tx, rfl, h_tx, g_tx, by omega⟩
        obtain ⟨t, ht1, ht2, ht3, ht4⟩ := go
        have el : ((l : Nat) : Int) - 1 = ((l - 1 : Nat) : Int) := by omega
        rw [el]
        refine ⟨t, x, l - 1, rfl, ht2.up (e12.trans e3), ht3, by omega, by omega, by omega, fun v H4 e4 tv => ?_⟩
        exact hR _ _ e4 ⟨t, ht1, tv⟩
      intro ys p3 H3 hyl hys hp3 e3 g3
      obtain ⟨y0, rfl⟩ : ∃ y0, ys = [y0] := by
        match ys, hyl with
        | [y0], _ => exact ⟨y0, rfl⟩
      have k0 : TermAt Z H3 tx y0 := by
        obtain ⟨t, h1, h2⟩ := hys 0 y0 rfl
        have : tx = t := by simpa using h1
        subst this
        exact h2
      have e03 := e12.trans e3
      have ha3 := e03 _ _ ha
      walk_at "ss"
      refine c_noneIn (SqL.of g3) (fun z hz => ?_) (fun z hz => ?_) ?_
      · obtain ⟨i, hi⟩ := List.getElem?_of_mem hz
        obtain ⟨t, _, h2⟩ := hys i z hi
        exact h2.noneOr T
      · obtain ⟨i, hi⟩ := List.getElem?_of_mem hz
        obtain ⟨t, _, h2⟩ := hys i z hi
        obtain ⟨aa, _, _, rfl, _⟩ := h2.cls
        exact fun z => by cases z
      walk_at "ss"
      rw [str_ne (by decide +kernel)]
      walk_at "ss"
      rw [str_eq rfl]
      walk_at "ss"
      refine ⟨p3, _, rfl, .inl (SqL.of g3), ?_⟩
      walk_at "ss"
      refine if_tt rfl ?_
      walk_at "ss"
      refine c_ixL (SqL.of g3) rfl ?_
      walk_at "ss"
      exact mk_Not k0 (by omega) (k.up e03)
    | pk tc tx ty =>
      obtain ⟨a, v0, v1, v2, rfl, ha, h_tc, h_tx, h_ty⟩ := ht
      obtain ⟨g_tc, g_tx, g_ty⟩ := hg
      simp only [Tm.dep] at hd hd0
      walk_at "ss"
      rw [int_ne (by omega)]
      walk_at "ss"
      refine isi (ty_tup ha) kb_tt ?_
      walk_at "ss"
      refine ⟨a, _, rfl, .inr (SqT.of ha), ?_⟩
      walk_at "ss"
      refine if_ff rfl ?_
      walk_at "ss"
      refine c_ixT (SqT.of ha) rfl ?_
      walk_at "ss"
      refine isi (ty_str _) kb_ss ?_
      walk_at "ss"
      refine c_ixT (SqT.of ha) rfl ?_
      walk_at "ss"
      refine newT fun p1 H1 hp1 e1 g1 => ?_
      refine c_in (.inr (SqT.of g1)) rfl rfl ?_
      have ha1 := e1 _ _ ha
      rw [show inV (V.str "pick") [V.str "name", V.str "value"] = false from by decide +kernel]
      walk_at "ss"
      rw [str_ne (by decide +kernel)]
      walk_at "ss"
      refine .inr ⟨_, rfl, ?_⟩
      walk_at "ss"
      refine ⟨a, _, rfl, SqT.of ha1, fun z => absurd (show (1 : Nat) = 0 from z.1) (by decide), fun p2 hp2 => ?_⟩
      have e2 : Ex H1 (upd H1 p2 (.tup [v0, v1, v2])) := Ex.new hp2
      have g2 : upd H1 p2 (.tup [v0, v1, v2]) p2 = some (.tup [v0, v1, v2]) := upd_same
      show ∃ a, _
      rw [show cutV [V.str "pick", v0, v1, v2] _ none = [v0, v1, v2] from rfl]
      generalize upd H1 p2 (.tup [v0, v1, v2]) = H2 at e2 g2
      have e12 := e1.trans e2
      refine ⟨p2, rfl, ⟨_, SqT.of g2⟩, lcTN (fun i y G => ∃ t, ([tc, tx, ty] : List Tm)[i]? = some t ∧ TermAt Z G t y) (fun i y G G2 en ⟨t, h1, h2⟩ => ⟨t, h1, h2.keep (NL.ins en)⟩) (SqT.of g2) (by simp) (fun i x hx => ?_) ?_⟩
      · intro H3 e3 R N hR
        have hi : i < 3 := by simpa using (List.getElem?_eq_some_iff.mp hx).1
        walk_at "ss"
        have go : ∃ t, ([tc, tx, ty] : List Tm)[i]? = some t ∧ ToldAt H t x ∧ t.good ∧ t.dep + 1 ≤ l := by
          have hi' : i = 0 ∨ i = 1 ∨ i = 2 := by omega
          rcases hi' with rfl | rfl | rfl
          · have hv : v0 = x := by simpa using hx
            subst hv
            exact ⟨tc, rfl, h_tc, g_tc, by omega⟩
          · have hv : v1 = x := by simpa using hx
            subst hv
            exact ⟨tx, rfl, h_tx, g_tx, by omega⟩
          · have hv : v2 = x := by simpa using hx
            subst hv
            exact ⟨ty, rfl, h_ty, g_ty, by omega⟩
        obtain ⟨t, ht1, ht2, ht3, ht4⟩ := go
        have el : ((l : Nat) : Int) - 1 = ((l - 1 : Nat) : Int) := by omega
        rw [el]
        refine ⟨t, x, l - 1, rfl, ht2.up (e12.trans e3), ht3, by omega, by omega, by omega, fun v H4 e4 tv => ?_⟩
        exact hR _ _ e4 ⟨t, ht1, tv⟩
      intro ys p3 H3 hyl hys hp3 e3 g3
      obtain ⟨y0, y1, y2, rfl⟩ : ∃ y0 y1 y2, ys = [y0, y1, y2] := by
        match ys, hyl with
        | [y0, y1, y2], _ => exact ⟨y0, y1, y2, rfl⟩
      have k0 : TermAt Z H3 tc y0 := by
        obtain ⟨t, h1, h2⟩ := hys 0 y0 rfl
        have : tc = t := by simpa using h1
        subst this
        exact h2
      have k1 : TermAt Z H3 tx y1 := by
        obtain ⟨t, h1, h2⟩ := hys 1 y1 rfl
        have : tx = t := by simpa using h1
        subst this
        exact h2
      have k2 : TermAt Z H3 ty y2 := by
        obtain ⟨t, h1, h2⟩ := hys 2 y2 rfl
        have : ty = t := by simpa using h1
        subst this
        exact h2
      have e03 := e12.trans e3
      have ha3 := e03 _ _ ha
      walk_at "ss"
      refine c_noneIn (SqL.of g3) (fun z hz => ?_) (fun z hz => ?_) ?_
      · obtain ⟨i, hi⟩ := List.getElem?_of_mem hz
        obtain ⟨t, _, h2⟩ := hys i z hi
        exact h2.noneOr T
      · obtain ⟨i, hi⟩ := List.getElem?_of_mem hz
        obtain ⟨t, _, h2⟩ := hys i z hi
        obtain ⟨aa, _, _, rfl, _⟩ := h2.cls
        exact fun z => by cases z
      walk_at "ss"
      rw [str_ne (by decide +kernel)]
      walk_at "ss"
      rw [str_ne (by decide +kernel)]
      walk_at "ss"
      rw [str_eq rfl]
      walk_at "ss"
      refine ⟨p3, _, rfl, .inl (SqL.of g3), ?_⟩
      walk_at "ss"
      refine if_tt rfl ?_
      walk_at "ss"
      refine c_ixL (SqL.of g3) rfl ?_
      walk_at "ss"
      refine c_ixL (SqL.of g3) rfl ?_
      walk_at "ss"
      refine c_ixL (SqL.of g3) rfl ?_
      walk_at "ss"
      exact mk_Pick k0 k1 k2 (by omega) (by omega) (by omega) (k.up e03)
theorem okn_made (T : Txt K mg Z) : ∀ n, FnOk P w K mg base CX0 (n + 12) Z.f_made_of_told Z.fd_made_of_told ["told", "left"] (sp_made Z n)
  | 0 => ⟨fun vs H Q E ⟨t, u, l, e, _⟩ => by rw [e]; rfl, fun _ _ _ _ _ _ _ _ _ _ _ _ _ ⟨t, u, l, _, _, _, h1, h2, _⟩ => by have := t.dep_pos; omega⟩
  | n + 1 => ok_made_of_told T (okn_made T n)
def sp_term_of (Z : Adr) : Sp := fun vs H Q _ => ∃ t u, vs = [u] ∧ ToldAt H t u ∧ t.good ∧ t.dep ≤ 5 ∧ RetM Z t H Q
theorem ok_term_of (T : Txt K mg Z)  : FnOk P w K mg base CX0 (18) Z.f_term_of Z.fd_term_of ["told"] (sp_term_of Z) := by
  refine T.F_term_of.ok sc_term_of (fun vs H Q E h => ?_) (fun cdv AA outer s H vs Q E hr h => ?_)
  · obtain ⟨t, u, rfl, _⟩ := h
    rfl
  · obtain ⟨t, u, rfl, ht, hg, hd, k⟩ := h
    have G_made_of_told := okn_made (P := P) (w := w) (base := base) T 5
    refine ⟨_, (pss_cons (ps_set (i := 1) sc_term_of.nd rfl (Or.inl rfl) (pe_call G_made_of_told (hr.mono (by omega)) rfl T.g_made_of_told T.F_made_of_told.kp T.b_made_of_told .nil pass0 (pa_cons (pv 0) (pa_cons (pe_gcst rfl T.c_MOST_LEVELS) pa_nil))))
      (pss_cons (ps_if (pt_cmpR op_isN (pv 1) pe_non (nomark _)) (pss_one ps_never) pss_nil)
      (pss_one (ps_ret (pv 1))))), ?_⟩
    walk_at "ss"
    refine ⟨t, u, 5, rfl, ht, hg, hd, Nat.le_refl _, Nat.le_refl _, fun v H1 e1 tv => ?_⟩
    walk_at "ss"
    have nv : decide (v = V.non) = false := by
      obtain ⟨aa, _, _, rfl, _⟩ := tv.cls
      rfl
    rw [nv]
    walk_at "ss"
    exact k _ _ e1 tv

/-! ### rows: the plain side -/
inductive Rw where
  | pl (n : Str) (t : Tm)
  | vd (k : Nat) (n : Str) (v : V) (x : Str)
  | wh (n x y : Str)
  | sm (ns : List Str)
  | cl (os : List Str) (nd : Str) (xs : List Str)
def vword : Nat → Str
  | 0 => "before"
  | 1 => "hold"
  | _ => "like"
def Rw.kind : Rw → Nat
  | .pl _ _ => 0
  | .vd 0 _ _ _ => 1
  | .vd 1 _ _ _ => 2
  | .vd _ _ _ _ => 3
  | .wh _ _ _ => 4
  | .sm _ => 5
  | .cl _ _ _ => 6
def Rw.word : Rw → Str
  | .pl _ _ => "plain"
  | .vd k _ _ _ => vword k
  | .wh _ _ _ => "when"
  | .sm _ => "same"
  | .cl _ _ _ => "call"
theorem Rw.kind_lt (r : Rw) : r.kind < 7 := by
  cases r with
  | vd k n v x => rcases k with _ | _ | k <;> simp [Rw.kind]
  | _ => simp [Rw.kind]
def goodN (s : Str) : Prop := isPointed s = true ∧ s.length ≤ 80 ∧ OkT s
/-- each once, the first -/
def once (l : List Str) : List Str := l.foldl (fun acc n => addN acc [n]) []
def Rw.tells : Rw → List Str
  | .pl n _ => [n]
  | .vd _ n _ _ => [n]
  | .wh n _ _ => [n]
  | .sm _ => []
  | .cl os _ _ => os
def Rw.names : Rw → List Str
  | .pl _ t => t.names
  | .vd _ _ _ x => [x]
  | .wh _ x y => once [x, y]
  | .sm ns => once ns
  | .cl _ _ xs => once xs
def Rw.all (r : Rw) : List Str := r.tells ++ r.names
def Rw.good : Rw → Prop
  | .pl n t => goodN n ∧ t.good ∧ t.dep ≤ 5
  | .vd k n v x => k < 3 ∧ goodN n ∧ isVal v = true ∧ goodN x
  | .wh n x y => goodN n ∧ goodN x ∧ goodN y
  | .sm ns => 2 ≤ ns.length ∧ ns.length ≤ 100 ∧ ∀ s ∈ ns, goodN s
  | .cl os nd xs => 1 ≤ os.length ∧ os.length ≤ 100 ∧ (∀ s ∈ os, goodN s) ∧ (isName nd = true ∧ nd.length ≤ 8 ∧ OkT nd) ∧ 1 ≤ xs.length ∧ xs.length ≤ 100 ∧ ∀ s ∈ xs, goodN s
/-! rows as tuples -/
def RowAt (H : Hp) : Rw → V → Prop
  | .pl n t, u => ∃ a w, u = .ref a ∧ H a = some (.tup [.str "plain", .str n, w]) ∧ ToldAt H t w
  | .vd k n v x, u => ∃ a, u = .ref a ∧ H a = some (.tup [.str (vword k), .str n, v, .str x])
  | .wh n x y, u => ∃ a, u = .ref a ∧ H a = some (.tup [.str "when", .str n, .str x, .str y])
  | .sm ns, u => ∃ a p, u = .ref a ∧ H a = some (.tup [.str "same", .ref p]) ∧ H p = some (.tup (ns.map V.str))
  | .cl os nd xs, u => ∃ a p q, u = .ref a ∧ H a = some (.tup [.str "call", .ref p, .str nd, .ref q]) ∧ H p = some (.tup (os.map V.str)) ∧ H q = some (.tup (xs.map V.str))
theorem NL.tup {H H2 : Hp} (e : NL H H2) {a : Addr} {xs : List V} (h : H a = some (.tup xs)) : H2 a = some (.tup xs) := e _ _ (fun _ z => by cases z) h
theorem RowAt.nl {H H2 : Hp} (e : NL H H2) {r : Rw} {u : V} (h : RowAt H r u) : RowAt H2 r u := by
  cases r with
  | pl n t => obtain ⟨a, w, h1, h2, h3⟩ := h; exact ⟨a, w, h1, NL.tup e h2, h3.keep (NL.tups e)⟩
  | vd k n v x => obtain ⟨a, h1, h2⟩ := h; exact ⟨a, h1, NL.tup e h2⟩
  | wh n x y => obtain ⟨a, h1, h2⟩ := h; exact ⟨a, h1, NL.tup e h2⟩
  | sm ns => obtain ⟨a, p, h1, h2, h3⟩ := h; exact ⟨a, p, h1, NL.tup e h2, NL.tup e h3⟩
  | cl os nd xs => obtain ⟨a, p, q, h1, h2, h3, h4⟩ := h; exact ⟨a, p, q, h1, NL.tup e h2, NL.tup e h3, NL.tup e h4⟩
theorem RowAt.up {H H2 : Hp} {r : Rw} {u : V} (h : RowAt H r u) (e : Ex H H2) : RowAt H2 r u := h.nl (NL.of e)
/-- the row: a tuple that begins with its word -/
theorem RowAt.hd {H : Hp} {r : Rw} {u : V} (h : RowAt H r u) : ∃ a xs, u = .ref a ∧ H a = some (.tup (.str r.word :: xs)) := by
  cases r with
  | pl n t => obtain ⟨a, w, h1, h2, h3⟩ := h; exact ⟨a, _, h1, h2⟩
  | vd k n v x => obtain ⟨a, h1, h2⟩ := h; exact ⟨a, _, h1, h2⟩
  | wh n x y => obtain ⟨a, h1, h2⟩ := h; exact ⟨a, _, h1, h2⟩
  | sm ns => obtain ⟨a, p, h1, h2, h3⟩ := h; exact ⟨a, _, h1, h2⟩
  | cl os nd xs => obtain ⟨a, p, q, h1, h2, h3, h4⟩ := h; exact ⟨a, _, h1, h2⟩
def strsD (ns : List Str) : PyData := .tuple (ns.map PyData.str)
def Rw.data : Rw → PyData
  | .pl n t => .tuple [.str "plain", .str n, t.data]
  | .vd k n v x => .tuple [.str (vword k), .str n, valD v, .str x]
  | .wh n x y => .tuple [.str "when", .str n, .str x, .str y]
  | .sm ns => .tuple [.str "same", strsD ns]
  | .cl os nd xs => .tuple [.str "call", strsD os, .str nd, strsD xs]
theorem dp_strs {H : Hp} : ∀ {ns : List Str}, DpAll K H (ns.map V.str) (ns.map PyData.str)
  | [] => .nil
  | s :: ns => .cons (.str s) dp_strs
theorem dp_val {H : Hp} {v : V} (h : isVal v = true) : Dp K H v (valD v) := by
  cases v with
  | bl b => exact .bl b
  | int i => exact .int i
  | _ => exact absurd h Bool.false_ne_true
theorem RowAt.dp {H : Hp} {r : Rw} {u : V} (g : r.good) (h : RowAt H r u) : Dp K H u r.data := by
  cases r with
  | pl n t => obtain ⟨a, w, rfl, h2, h3⟩ := h; exact .tup (SqT.of h2) (.cons (.str _) (.cons (.str _) (.cons (h3.dp g.2.1) .nil)))
  | vd k n v x => obtain ⟨a, rfl, h2⟩ := h; exact .tup (SqT.of h2) (.cons (.str _) (.cons (.str _) (.cons (dp_val g.2.2.1) (.cons (.str _) .nil))))
  | wh n x y => obtain ⟨a, rfl, h2⟩ := h; exact .tup (SqT.of h2) (.cons (.str _) (.cons (.str _) (.cons (.str _) (.cons (.str _) .nil))))
  | sm ns => obtain ⟨a, p, rfl, h2, h3⟩ := h; exact .tup (SqT.of h2) (.cons (.str _) (.cons (.tup (SqT.of h3) dp_strs) .nil))
  | cl os nd xs => obtain ⟨a, p, q, rfl, h2, h3, h4⟩ := h; exact .tup (SqT.of h2) (.cons (.str _) (.cons (.tup (SqT.of h3) dp_strs) (.cons (.str _) (.cons (.tup (SqT.of h4) dp_strs) .nil))))
theorem rp_N {s : Str} (h : goodN s) : RpOk 0 80 (.str s) := (rp_str h.2.2).mono (Nat.le_refl _) h.2.1
theorem rp_val {v : V} (g : isVal v = true) : RpOk 0 0 (valD v) := by
  cases v with
  | bl b => exact rp_bl b
  | int i =>
    have g' : (decide (-1000000000 ≤ i) && decide (i ≤ 1000000000)) = true := g
    rw [Bool.and_eq_true, decide_eq_true_eq, decide_eq_true_eq] at g'
    exact rp_int (by omega)
  | _ => exact absurd g Bool.false_ne_true
theorem rp_strs {ns : List Str} (h : ∀ s ∈ ns, goodN s) (hl : ns.length ≤ 100) : RpOk 1 8100 (strsD ns) := by
  have h1 : RpAll 0 ((ns.map PyData.str).length * (80 + 1)) (ns.map PyData.str) := rp_all fun d hd => by
    obtain ⟨s, hs, rfl⟩ := List.mem_map.mp hd
    exact rp_N (h s hs)
  rw [List.length_map] at h1
  exact (rp_tup h1).mono (Nat.le_refl _) (by omega)
theorem vword_in (k : Nat) : vword k = "before" ∨ vword k = "hold" ∨ vword k = "like" := by
  rcases k with _ | _ | k
  · exact .inl rfl
  · exact .inr (.inl rfl)
  · exact .inr (.inr rfl)
theorem rp_vword (k : Nat) : RpOk 0 6 (.str (vword k)) := by
  rcases vword_in k with e | e | e <;> (rw [e]; exact ok_lit (by decide +kernel) (by decide +kernel))
theorem Rw.rp {r : Rw} (g : r.good) : RpOk 6 250000 r.data := by
  cases r with
  | pl n t =>
    have hB : 200 * 4 ^ t.dep ≤ 204800 := by
      have : 4 ^ t.dep ≤ 4 ^ 5 := Nat.pow_le_pow_right (by decide) g.2.2
      have e : (4 : Nat) ^ 5 = 1024 := rfl
      omega
    have hd := g.2.2
    exact (rp_tup (rp_cons (ok_lit (n := 5) (by decide +kernel) (by decide +kernel)) (rp_cons (rp_N g.1) (rp_cons (Tm.rp g.2.1) rp_nil)))).mono (by omega) (by omega)
  | vd k n v x => exact (rp_tup (rp_cons (rp_vword k) (rp_cons (rp_N g.2.1) (rp_cons (rp_val g.2.2.1) (rp_cons (rp_N g.2.2.2) rp_nil))))).mono (by omega) (by omega)
  | wh n x y => exact (rp_tup (rp_cons (ok_lit (n := 5) (by decide +kernel) (by decide +kernel)) (rp_cons (rp_N g.1) (rp_cons (rp_N g.2.1) (rp_cons (rp_N g.2.2) rp_nil))))).mono (by omega) (by omega)
  | sm ns => exact (rp_tup (rp_cons (ok_lit (n := 5) (by decide +kernel) (by decide +kernel)) (rp_cons (rp_strs g.2.2 g.2.1) rp_nil))).mono (by omega) (by omega)
  | cl os nd xs => exact (rp_tup (rp_cons (ok_lit (n := 5) (by decide +kernel) (by decide +kernel)) (rp_cons (rp_strs g.2.2.1 g.2.1) (rp_cons ((rp_str g.2.2.2.1.2.2).mono (Nat.le_refl _) g.2.2.2.1.2.1) (rp_cons (rp_strs g.2.2.2.2.2.2 g.2.2.2.2.2.1) rp_nil))))).mono (by omega) (by omega)
/-! rows as objects -/
def clsK (Z : Adr) : Nat → Addr
  | 0 => Z.c_Plain
  | 1 => Z.c_Before
  | 2 => Z.c_Hold
  | 3 => Z.c_Like
  | 4 => Z.c_When
  | 5 => Z.c_Same
  | _ => Z.c_Call
def MCE (Z : Adr) (C : Addr) : Prop := ∃ i, i < 7 ∧ C = clsK Z i
theorem clsK_at {i : Nat} (h : i < 7) : ([Z.c_Plain, Z.c_Before, Z.c_Hold, Z.c_Like, Z.c_When, Z.c_Same, Z.c_Call] : List Addr)[i]? = some (clsK Z i) := by
  have : i = 0 ∨ i = 1 ∨ i = 2 ∨ i = 3 ∨ i = 4 ∨ i = 5 ∨ i = 6 := by omega
  rcases this with rfl | rfl | rfl | rfl | rfl | rfl | rfl <;> rfl
theorem clsK_inj (T : Txt K mg Z) {i j : Nat} (hi : i < 7) (hj : j < 7) (e : clsK Z i = clsK Z j) : i = j := by
  rcases Nat.lt_trichotomy i j with h | h | h
  · exact absurd e (difB_ne T.fact_difE (clsK_at hi) (clsK_at hj) h)
  · exact h
  · exact absurd e.symm (difB_ne T.fact_difE (clsK_at hj) (clsK_at hi) h)
def offE (fs : List (Str × V)) : Prop := fs.lookup ("told" : Str) = none ∧ fs.lookup ("tells" : Str) = none ∧ fs.lookup ("names" : Str) = none ∧ fs.lookup ("term" : Str) = none ∧ fs.lookup ("is_call" : Str) = none
def offX (fs : List (Str × V)) : Prop := fs.lookup ("put_otherwise" : Str) = none ∧ fs.lookup ("renamed" : Str) = none
def EqAt (Z : Adr) (H : Hp) (r : Rw) (v u : V) : Prop := ∃ a dx fs, v = .ref a ∧ H a = some (.ins (clsK Z r.kind) dx fs) ∧ RowAt H r u ∧ fs.lookup ("told_row" : Str) = some u ∧ (offE fs ∧ offX fs) ∧ ∀ n t, r = .pl n t → ∃ tv, fs.lookup ("kept_term" : Str) = some tv ∧ TermAt Z H t tv
theorem EqAt.nl {H H2 : Hp} {r : Rw} {v u : V} (h : EqAt Z H r v u) (e : NL H H2) : EqAt Z H2 r v u := by
  obtain ⟨a, dx, fs, h1, h2, h3, h4, h5, h6⟩ := h
  refine ⟨a, dx, fs, h1, NL.ins e _ _ _ _ h2, h3.nl e, h4, h5, fun n t he => ?_⟩
  obtain ⟨tv, h7, h8⟩ := h6 n t he
  exact ⟨tv, h7, h8.keep (NL.ins e)⟩
theorem EqAt.up {H H2 : Hp} {r : Rw} {v u : V} (h : EqAt Z H r v u) (e : Ex H H2) : EqAt Z H2 r v u := h.nl (NL.of e)
theorem kitTab_ok {cs : List Addr} {E : Addr} (h : kitTab K cs E = true) {c : Addr} (hc : c ∈ cs) : PySem.W.kitOne K (.ref c) (.ref E) = some true ∧ PySem.W.mroIn K c (.type "object") = some true ∧ PySem.W.findIn K (.ref c) "__eq__" = some (some (.builtin "object.__eq__")) ∧ ∀ c' ∈ cs, PySem.W.kitOne K (.ref c) (.ref c') = some (decide (c = c')) := by
  have := List.all_eq_true.mp h c hc
  simp only [Bool.and_eq_true, decide_eq_true_eq, List.all_eq_true] at this
  exact this
theorem clsK_mem {i : Nat} (h : i < 7) : clsK Z i ∈ ([Z.c_Plain, Z.c_Before, Z.c_Hold, Z.c_Like, Z.c_When, Z.c_Same, Z.c_Call] : List Addr) := List.mem_of_getElem? (clsK_at h)
theorem tcE (T : Txt K mg Z) {i : Nat} (h : i < 7) : Cls K (clsK Z i) ∧ NoAttr K (clsK Z i) "told_row" ∧ (i = 0 → NoAttr K (clsK Z i) "kept_term") ∧ ∀ {H : Hp} {a dx : Addr} {gs : List (Str × V)}, H a = some (.ins (clsK Z i) dx gs) → TyX K H (.ref a) (.ref (clsK Z i)) := by
  have : i = 0 ∨ i = 1 ∨ i = 2 ∨ i = 3 ∨ i = 4 ∨ i = 5 ∨ i = 6 := by omega
  rcases this with rfl | rfl | rfl | rfl | rfl | rfl | rfl
  · exact ⟨(tcB_ok T.x_Plain).cl, (tcB_ok T.x_Plain).no _ (by decide +kernel), fun _ => (tcB_ok T.x_Plain).no _ (by decide +kernel), fun e => (tcB_ok T.x_Plain).ty e⟩
  · exact ⟨(tcB_ok T.x_Before).cl, (tcB_ok T.x_Before).no _ (by decide +kernel), (fun z => absurd z (by decide)), fun e => (tcB_ok T.x_Before).ty e⟩
  · exact ⟨(tcB_ok T.x_Hold).cl, (tcB_ok T.x_Hold).no _ (by decide +kernel), (fun z => absurd z (by decide)), fun e => (tcB_ok T.x_Hold).ty e⟩
  · exact ⟨(tcB_ok T.x_Like).cl, (tcB_ok T.x_Like).no _ (by decide +kernel), (fun z => absurd z (by decide)), fun e => (tcB_ok T.x_Like).ty e⟩
  · exact ⟨(tcB_ok T.x_When).cl, (tcB_ok T.x_When).no _ (by decide +kernel), (fun z => absurd z (by decide)), fun e => (tcB_ok T.x_When).ty e⟩
  · exact ⟨(tcB_ok T.x_Same).cl, (tcB_ok T.x_Same).no _ (by decide +kernel), (fun z => absurd z (by decide)), fun e => (tcB_ok T.x_Same).ty e⟩
  · exact ⟨(tcB_ok T.x_Call).cl, (tcB_ok T.x_Call).no _ (by decide +kernel), (fun z => absurd z (by decide)), fun e => (tcB_ok T.x_Call).ty e⟩
theorem is_row (T : Txt K mg Z) {H : Hp} {r : Rw} {v u : V} {Q : VK} (h : EqAt Z H r v u) (q : Q (.bl true) H) : rIsi K [v, .ref Z.c_Equation] H Q := by
  obtain ⟨a, dx, fs, rfl, h2, _⟩ := h
  exact ⟨_, _, _, _, true, rfl, .own _, (tcE T r.kind_lt).2.2.2 h2, (kitTab_ok T.fact_kitE (clsK_mem r.kind_lt)).1, q⟩
theorem is_kind (T : Txt K mg Z) {H : Hp} {r : Rw} {v u : V} {Q : VK} {i : Nat} (hi : i < 7) (h : EqAt Z H r v u) (q : Q (.bl (decide (r.kind = i))) H) : rIsi K [v, .ref (clsK Z i)] H Q := by
  obtain ⟨a, dx, fs, rfl, h2, _⟩ := h
  have e := (kitTab_ok T.fact_kitE (clsK_mem r.kind_lt)).2.2.2 _ (clsK_mem hi)
  have ed : decide (clsK Z r.kind = clsK Z i) = decide (r.kind = i) := by
    by_cases h : r.kind = i
    · rw [decide_eq_true h, decide_eq_true (by rw [h])]
    · rw [decide_eq_false h, decide_eq_false fun z => h (clsK_inj T r.kind_lt hi z)]
  rw [ed] at e
  exact ⟨_, _, _, _, _, rfl, .own _, (tcE T r.kind_lt).2.2.2 h2, e, q⟩

/-! ### each name once -/
theorem once_app (l : List Str) (n : Str) : once (l ++ [n]) = addN (once l) [n] := by
  unfold once
  rw [List.foldl_append] <;> rfl
theorem addN_one (a : List Str) (n : Str) : addN a [n] = if a.contains n then a else a ++ [n] := by
  unfold addN
  rw [List.filter_cons, List.filter_nil]
  cases h : a.contains n <;> simp
theorem once_len (l : List Str) : (once l).length ≤ l.length := by
  have h : ∀ (l acc : List Str), (l.foldl (fun acc n => addN acc [n]) acc).length ≤ acc.length + l.length := by
    intro l
    induction l with
    | nil => intro acc; exact Nat.le_refl _
    | cons a l ih =>
      intro acc
      have h1 := ih (addN acc [a])
      have h2 := addN_len acc [a]
      rw [List.length_singleton] at h2
      rw [List.foldl_cons, List.length_cons]
      omega
  have := h l []
  rw [List.length_nil, Nat.zero_add] at this
  exact this
def keyT (n : Str) : Key × V := (.inr n, .bl true)
theorem put_once (l : List Str) (n : Str) : putK (l.map keyT) (.inr n) (.bl true) = (addN l [n]).map keyT := by
  rw [addN_one]
  unfold putK
  have e : ((l.map keyT).any fun kv => decide (kv.1 = Sum.inr n)) = l.contains n := by
    induction l with
    | nil => rfl
    | cons a l ih =>
      rw [List.map_cons, List.any_cons, ih, List.contains_cons]
      have : decide ((keyT a).1 = (Sum.inr n : Key)) = (n == a) := by
        show decide ((Sum.inr a : Key) = Sum.inr n) = _
        by_cases h : a = n
        · subst h; simp
        · rw [decide_eq_false (fun z => h (Sum.inr.inj z))]
          simp
          exact fun z => h z.symm
      rw [this]
  rw [e]
  cases h : l.contains n with
  | true =>
    rw [if_pos rfl, if_pos rfl]
    have : (fun kv : Key × V => if kv.1 = (Sum.inr n : Key) then (kv.1, V.bl true) else kv) ∘ keyT = keyT := by
      funext a
      show (if (Sum.inr a : Key) = Sum.inr n then ((Sum.inr a : Key), V.bl true) else keyT a) = keyT a
      split <;> rfl
    rw [List.map_map, this]
  | false => rw [if_neg (by decide), if_neg (by decide), List.map_append] <;> rfl
theorem kV_keyT (l : List Str) : (l.map keyT).map (fun kv => kV kv.1) = l.map V.str := by rw [List.map_map]; rfl
def sp_each_once : Sp := fun vs H Q _ => ∃ a ns, vs = [.ref a] ∧ H a = some (.lst (ns.map V.str)) ∧ ns.length ≤ 1000 ∧ RetL ((once ns).map V.str) H Q
def sp_each_onceT : Sp := fun vs H Q _ => ∃ a ns, vs = [.ref a] ∧ H a = some (.tup (ns.map V.str)) ∧ ns.length ≤ 1000 ∧ RetL ((once ns).map V.str) H Q

theorem ok_each_once (T : Txt K mg Z) : FnOk P w K mg base CX0 1 Z.f_each_once Z.fd_each_once ["names"] sp_each_once := by
  refine T.F_each_once.ok sc_each_once (fun vs H Q E h => ?_) (fun cdv AA outer s H vs Q E hr h => ?_)
  · obtain ⟨a, ns, rfl, _⟩ := h
    rfl
  · obtain ⟨a, ns, rfl, ha, hl, k⟩ := h
    refine ⟨_, (pss_cons (ps_set (i := 1) sc_each_once.nd rfl (Or.inl rfl) pe_dnewK)
      (pss_cons (ps_for PassesOwn.never rfl (pi_list (pv 0)) (pg_name (i := 2) sc_each_once.nd rfl (Or.inl rfl)) (pss_one (ps_dput (hu_of hr) (pv 1) (pv 2) pe_bl rfl)))
      (pss_one (ps_ret (pe_callTy (call_listD rfl) (by rfl) T.n_list (by decide +kernel) (pa_cons (pv 1) pa_nil)))))), ?_⟩
    walk_at "ss"
    intro d hd
    walk_at "ss"
    have e1 : Ex H (upd H d (.dK [])) := Ex.new hd
    refine ⟨⟨_, SqL.of (e1 _ _ ha)⟩, forL (xs := ns.map V.str) (fun i σ' G => (∃ v2, σ' = [some (.ref a), some (.ref d), v2]) ∧ Ex H G ∧ G a = some (.lst (ns.map V.str)) ∧ G d = some (.dK ((once (ns.take i)).map keyT))) ⟨⟨_, rfl⟩, e1, e1 _ _ ha, upd_same⟩ (fun i σ' G _ q => SqL.of q.2.2.1) ?_ ?_⟩
    · rintro i x σ' G hx ⟨⟨v2, rfl⟩, eG, ga, gd⟩
      rw [List.getElem?_map] at hx
      obtain ⟨n, hn, rfl⟩ := Option.map_eq_some_iff.mp hx
      have hlen := once_len (ns.take i)
      have htl : (ns.take i).length ≤ 1000 := by rw [List.length_take]; omega
      walk_at "ss"
      refine ⟨d, _, rfl, .inl ⟨_, .inr n, gd, rfl, Evl.sz_lt (by rw [List.length_map]; omega), rfl⟩, ?_⟩
      walk_at "ss"
      refine ⟨⟨_, rfl⟩, Ex.mut eG hd, ?_, ?_⟩
      · have nda : a ≠ d := ne_of_none ha hd
        rw [upd_ne nda]
        exact ga
      · rw [upd_same, List.take_add_one, hn]
        show some (HO.dK (putK _ _ _)) = some (HO.dK ((once (ns.take i ++ [n])).map keyT))
        rw [put_once, once_app]
    · rintro σ' G ⟨⟨v2, rfl⟩, eG, ga, gd⟩
      rw [List.length_map, List.take_length] at gd
      walk_at "ss"
      refine ⟨d, _, rfl, .inl gd, fun p hp => ?_⟩
      rw [kV_keyT]
      exact k p _ (fresh_back eG hp) (eG.trans (Ex.new hp)) upd_same

theorem ok_each_onceT (T : Txt K mg Z) : FnOk P w K mg base CX0 1 Z.f_each_once Z.fd_each_once ["names"] sp_each_onceT := by
  refine T.F_each_once.ok sc_each_once (fun vs H Q E h => ?_) (fun cdv AA outer s H vs Q E hr h => ?_)
  · obtain ⟨a, ns, rfl, _⟩ := h
    rfl
  · obtain ⟨a, ns, rfl, ha, hl, k⟩ := h
    refine ⟨_, (pss_cons (ps_set (i := 1) sc_each_once.nd rfl (Or.inl rfl) pe_dnewK)
      (pss_cons (ps_for PassesOwn.never rfl (pi_tup (pv 0)) (pg_name (i := 2) sc_each_once.nd rfl (Or.inl rfl)) (pss_one (ps_dput (hu_of hr) (pv 1) (pv 2) pe_bl rfl)))
      (pss_one (ps_ret (pe_callTy (call_listD rfl) (by rfl) T.n_list (by decide +kernel) (pa_cons (pv 1) pa_nil)))))), ?_⟩
    walk_at "ss"
    intro d hd
    walk_at "ss"
    have e1 : Ex H (upd H d (.dK [])) := Ex.new hd
    refine ⟨⟨_, SqT.of (e1 _ _ ha)⟩, forT (xs := ns.map V.str) (fun i σ' G => (∃ v2, σ' = [some (.ref a), some (.ref d), v2]) ∧ Ex H G ∧ G a = some (.tup (ns.map V.str)) ∧ G d = some (.dK ((once (ns.take i)).map keyT))) ⟨⟨_, rfl⟩, e1, e1 _ _ ha, upd_same⟩ (fun i σ' G _ q => SqT.of q.2.2.1) ?_ ?_⟩
    · rintro i x σ' G hx ⟨⟨v2, rfl⟩, eG, ga, gd⟩
      rw [List.getElem?_map] at hx
      obtain ⟨n, hn, rfl⟩ := Option.map_eq_some_iff.mp hx
      have hlen := once_len (ns.take i)
      have htl : (ns.take i).length ≤ 1000 := by rw [List.length_take]; omega
      walk_at "ss"
      refine ⟨d, _, rfl, .inl ⟨_, .inr n, gd, rfl, Evl.sz_lt (by rw [List.length_map]; omega), rfl⟩, ?_⟩
      walk_at "ss"
      refine ⟨⟨_, rfl⟩, Ex.mut eG hd, ?_, ?_⟩
      · have nda : a ≠ d := ne_of_none ha hd
        rw [upd_ne nda]
        exact ga
      · rw [upd_same, List.take_add_one, hn]
        show some (HO.dK (putK _ _ _)) = some (HO.dK ((once (ns.take i ++ [n])).map keyT))
        rw [put_once, once_app]
    · rintro σ' G ⟨⟨v2, rfl⟩, eG, ga, gd⟩
      rw [List.length_map, List.take_length] at gd
      walk_at "ss"
      refine ⟨d, _, rfl, .inl gd, fun p hp => ?_⟩
      rw [kV_keyT]
      exact k p _ (fresh_back eG hp) (eG.trans (Ex.new hp)) upd_same

/-! ### methods of rows -/
def spE (Z : Adr) (S : Rw → Prop) (R : Rw → V → V → Hp → VK → Prop) : Sp := fun vs H Q _ => ∃ r v u, vs = [v] ∧ EqAt Z H r v u ∧ r.good ∧ S r ∧ R r v u H Q
def Re_told : Rw → V → V → Hp → VK → Prop := fun _ _ u H Q => Q u H
def Re_tells : Rw → V → V → Hp → VK → Prop := fun r _ _ H Q => RetL (r.tells.map V.str) H Q
def Re_names : Rw → V → V → Hp → VK → Prop := fun r _ _ H Q => RetL (r.names.map V.str) H Q
def Re_term (Z : Adr) : Rw → V → V → Hp → VK → Prop := fun r _ _ H Q => match r with
  | .pl _ t => ∀ tv, TermAt Z H t tv → Q tv H
  | _ => Q .non H
def Re_is_call : Rw → V → V → Hp → VK → Prop := fun r _ _ H Q => Q (.bl (decide (r.kind = 6))) H

def spmE_told (Z : Adr) (C : Addr) : Sp := spE Z (fun r => clsK Z r.kind = C) Re_told
def spmE_tells (Z : Adr) (C : Addr) : Sp := spE Z (fun r => clsK Z r.kind = C) Re_tells
def spmE_names (Z : Adr) (C : Addr) : Sp := spE Z (fun r => clsK Z r.kind = C) Re_names
def spmE_term (Z : Adr) (C : Addr) : Sp := spE Z (fun r => clsK Z r.kind = C) (Re_term Z)
theorem ok_Equation_told (T : Txt K mg Z) : FnOk P w K mg base CX0 1 Z.f_Equation_told Z.fd_Equation_told ["self"] (spE Z (fun r => True) Re_told) := by
  refine T.F_Equation_told.ok sc_Equation_told (fun vs H Q E h => ?_) (fun cdv AA outer s H vs Q E hr h => ?_)
  · obtain ⟨r, v, u, rfl, _⟩ := h
    rfl
  · obtain ⟨r, v, u, rfl, ⟨a, dx, fs, rfl, ha, hr2, hrow, hoff, htm⟩, hg, hS, k⟩ := h
    have TX := tcE T r.kind_lt
    refine ⟨_, (pss_one (ps_ret (pe_fld (pv 0) (by rfl)))), ?_⟩
    walk_at "ss"
    exact ⟨_, _, _, _, _, rfl, ha, TX.1, TX.2.1, hrow, k⟩
theorem kind_pl {r : Rw} (h : r.kind = 0) : ∃ n t, r = .pl n t := by
  cases r with
  | pl n t => exact ⟨_, _, rfl⟩
  | vd k n v x => rcases k with _ | _ | k <;> cases h
  | wh n x y => cases h
  | sm ns => cases h
  | cl a b c => cases h
theorem kind_vd {r : Rw} (h : r.kind = 1 ∨ r.kind = 2 ∨ r.kind = 3) : ∃ k n v x, r = .vd k n v x := by
  cases r with
  | vd k n v x => exact ⟨_, _, _, _, rfl⟩
  | _ => simp [Rw.kind] at h
theorem kind_wh {r : Rw} (h : r.kind = 4) : ∃ n x y, r = .wh n x y := by
  cases r with
  | wh n x y => exact ⟨_, _, _, rfl⟩
  | vd k n v x => rcases k with _ | _ | k <;> cases h
  | _ => cases h
theorem kind_sm {r : Rw} (h : r.kind = 5) : ∃ ns, r = .sm ns := by
  cases r with
  | sm ns => exact ⟨_, rfl⟩
  | vd k n v x => rcases k with _ | _ | k <;> cases h
  | _ => cases h
theorem kind_cl {r : Rw} (h : r.kind = 6) : ∃ os nd xs, r = .cl os nd xs := by
  cases r with
  | cl a b c => exact ⟨_, _, _, rfl⟩
  | vd k n v x => rcases k with _ | _ | k <;> cases h
  | _ => cases h
/-- the row's second thing, where it tells one name -/
theorem row_one {H : Hp} {r : Rw} {u : V} (h : RowAt H r u) (hk : r.kind = 0 ∨ r.kind = 1 ∨ r.kind = 2 ∨ r.kind = 3 ∨ r.kind = 4) : ∃ a xs n, u = .ref a ∧ H a = some (.tup (.str r.word :: .str n :: xs)) ∧ r.tells = [n] := by
  cases r with
  | pl n t => obtain ⟨a, w, h1, h2, h3⟩ := h; exact ⟨a, _, _, h1, h2, rfl⟩
  | vd k n v x => obtain ⟨a, h1, h2⟩ := h; exact ⟨a, _, _, h1, h2, rfl⟩
  | wh n x y => obtain ⟨a, h1, h2⟩ := h; exact ⟨a, _, _, h1, h2, rfl⟩
  | sm ns => simp [Rw.kind] at hk
  | cl a b c => simp [Rw.kind] at hk
theorem at_hd {x : V} {xs : List V} : atI (x :: xs) 0 = some x := atI_nat (j := 0) rfl
theorem at_1 {x y : V} {xs : List V} : atI (x :: y :: xs) 1 = some y := atI_nat (j := 1) rfl
theorem ok_Equation_tells (T : Txt K mg Z) : FnOk P w K mg base CX0 1 Z.f_Equation_tells Z.fd_Equation_tells ["self"] (spE Z (fun r => r.kind = 0 ∨ r.kind = 1 ∨ r.kind = 2 ∨ r.kind = 3 ∨ r.kind = 4) Re_tells) := by
  refine T.F_Equation_tells.ok sc_Equation_tells (fun vs H Q E h => ?_) (fun cdv AA outer s H vs Q E hr h => ?_)
  · obtain ⟨r, v, u, rfl, _⟩ := h
    rfl
  · obtain ⟨r, v, u, rfl, ⟨a, dx, fs, rfl, ha, hr2, hrow, hoff, htm⟩, hg, hS, k⟩ := h
    have TX := tcE T r.kind_lt
    obtain ⟨b, xs, n, rfl, hb, ht⟩ := row_one hr2 hS
    refine ⟨_, (pss_one (ps_ret (pe_lst (pa_cons (pe_ix ix_tup (pe_fld (pv 0) (by rfl)) pe_int (fun _ _ => rfl)) pa_nil)))), ?_⟩
    walk_at "ss"
    refine ⟨_, _, _, _, _, rfl, ha, TX.1, TX.2.1, hrow, ?_⟩
    walk_at "ss"
    refine c_ixT (SqT.of hb) at_1 ?_
    walk_at "ss"
    unfold Re_tells at k
    rw [ht] at k
    exact newL k
theorem ok_Same_tells (T : Txt K mg Z) : FnOk P w K mg base CX0 1 Z.f_Same_tells Z.fd_Same_tells ["self"] (spE Z (fun r => r.kind = 5) Re_tells) := by
  refine T.F_Same_tells.ok sc_Same_tells (fun vs H Q E h => ?_) (fun cdv AA outer s H vs Q E hr h => ?_)
  · obtain ⟨r, v, u, rfl, _⟩ := h
    rfl
  · obtain ⟨r, v, u, rfl, ⟨a, dx, fs, rfl, ha, hr2, hrow, hoff, htm⟩, hg, hS, k⟩ := h
    have TX := tcE T r.kind_lt
    obtain ⟨ns, rfl⟩ := kind_sm hS
    refine ⟨_, (pss_one (ps_ret (pe_lst pa_nil))), ?_⟩
    walk_at "ss"
    exact newL k
theorem ok_Call_tells (T : Txt K mg Z) : FnOk P w K mg base CX0 1 Z.f_Call_tells Z.fd_Call_tells ["self"] (spE Z (fun r => r.kind = 6) Re_tells) := by
  refine T.F_Call_tells.ok sc_Call_tells (fun vs H Q E h => ?_) (fun cdv AA outer s H vs Q E hr h => ?_)
  · obtain ⟨r, v, u, rfl, _⟩ := h
    rfl
  · obtain ⟨r, v, u, rfl, ⟨a, dx, fs, rfl, ha, hr2, hrow, hoff, htm⟩, hg, hS, k⟩ := h
    have TX := tcE T r.kind_lt
    obtain ⟨os, nd, xs, rfl⟩ := kind_cl hS
    obtain ⟨b, p, q, rfl, hb, hp, hq⟩ := hr2
    refine ⟨_, (pss_one (ps_ret (pe_callTy call_list_of (by rfl) T.n_list (by decide +kernel) (pa_cons (pe_ix ix_tup (pe_fld (pv 0) (by rfl)) pe_int (fun _ _ => rfl)) pa_nil)))), ?_⟩
    walk_at "ss"
    refine ⟨_, _, _, _, _, rfl, ha, TX.1, TX.2.1, hrow, ?_⟩
    walk_at "ss"
    refine c_ixT (SqT.of hb) rfl ?_
    walk_at "ss"
    refine ⟨_, _, rfl, .inr (SqT.of hp), fun l hl => ?_⟩
    exact k l _ hl (Ex.new hl) upd_same
theorem ok_Equation_names (T : Txt K mg Z) : FnOk P w K mg base CX0 1 Z.f_Equation_names Z.fd_Equation_names ["self"] (spE Z (fun r => r.kind = 1 ∨ r.kind = 2 ∨ r.kind = 3) Re_names) := by
  refine T.F_Equation_names.ok sc_Equation_names (fun vs H Q E h => ?_) (fun cdv AA outer s H vs Q E hr h => ?_)
  · obtain ⟨r, v, u, rfl, _⟩ := h
    rfl
  · obtain ⟨r, v, u, rfl, ⟨a, dx, fs, rfl, ha, hr2, hrow, hoff, htm⟩, hg, hS, k⟩ := h
    have TX := tcE T r.kind_lt
    obtain ⟨kk, n, w0, x, rfl⟩ := kind_vd hS
    obtain ⟨b, rfl, hb⟩ := hr2
    refine ⟨_, (pss_one (ps_ret (pe_lst (pa_cons (pe_ix ix_tup (pe_fld (pv 0) (by rfl)) pe_int (fun _ _ => rfl)) pa_nil)))), ?_⟩
    walk_at "ss"
    refine ⟨_, _, _, _, _, rfl, ha, TX.1, TX.2.1, hrow, ?_⟩
    walk_at "ss"
    refine c_ixT (SqT.of hb) rfl ?_
    walk_at "ss"
    exact newL k
theorem ok_Plain_names (T : Txt K mg Z)  : FnOk P w K mg base CX0 (9) Z.f_Plain_names Z.fd_Plain_names ["self"] (spE Z (fun r => r.kind = 0) Re_names) := by
  refine T.F_Plain_names.ok sc_Plain_names (fun vs H Q E h => ?_) (fun cdv AA outer s H vs Q E hr h => ?_)
  · obtain ⟨r, v, u, rfl, _⟩ := h
    rfl
  · obtain ⟨r, v, u, rfl, ⟨a, dx, fs, rfl, ha, hr2, hrow, hoff, htm⟩, hg, hS, k⟩ := h
    have TX := tcE T r.kind_lt
    obtain ⟨n, t, rfl⟩ := kind_pl hS
    obtain ⟨tv, hk, htv⟩ := htm n t rfl
    have GM_names := gm_names (P := P) (w := w) (base := base) T 5
    refine ⟨_, (pss_one (ps_ret (pe_methP0 (pe_fld (pv 0) (by rfl)) GM_names (hr.mono (by omega)) pass0))), ?_⟩
    walk_at "ss"
    refine ⟨_, _, _, _, _, rfl, ha, TX.1, TX.2.2.1 rfl, hk, ?_⟩
    obtain ⟨a2, dx2, fs2, rfl, ha2, l1, l2, l3, l4⟩ := htv.cls
    refine ⟨a2, _, dx2, fs2, rfl, ha2, clsT_MC Z t, l2, ?_⟩
    walk_at "ss"
    have h5 := hg.2.2
    exact ⟨t, _, rfl, htv, rfl, h5, by omega, k⟩
theorem ok_When_names (T : Txt K mg Z) : FnOk P w K mg base CX0 2 Z.f_When_names Z.fd_When_names ["self"] (spE Z (fun r => r.kind = 4) Re_names) := by
  have G_each_once := ok_each_once (P := P) (w := w) (base := base) T
  refine T.F_When_names.ok sc_When_names (fun vs H Q E h => ?_) (fun cdv AA outer s H vs Q E hr h => ?_)
  · obtain ⟨r, v, u, rfl, _⟩ := h
    rfl
  · obtain ⟨r, v, u, rfl, ⟨a, dx, fs, rfl, ha, hr2, hrow, hoff, htm⟩, hg, hS, k⟩ := h
    have TX := tcE T r.kind_lt
    obtain ⟨n, x, y, rfl⟩ := kind_wh hS
    obtain ⟨b, rfl, hb⟩ := hr2
    refine ⟨_, (pss_one (ps_ret (pe_call G_each_once (hr.mono (by omega)) rfl T.g_each_once T.F_each_once.kp T.b_each_once .nil pass0 (pa_cons (pe_callTy call_list_of (by rfl) T.n_list (by decide +kernel) (pa_cons (pe_slice sl_tup (pe_fld (pv 0) (by rfl)) (po_some pe_int) po_none) pa_nil)) pa_nil)))), ?_⟩
    walk_at "ss"
    refine ⟨_, _, _, _, _, rfl, ha, TX.1, TX.2.1, hrow, ?_⟩
    walk_at "ss"
    refine ⟨b, _, rfl, SqT.of hb, fun z => absurd (show (2 : Nat) = 0 from z.1) (by decide), fun p2 hp2 => ?_⟩
    walk_at "ss"
    refine ⟨_, _, rfl, .inr (SqT.of upd_same), fun l hl => ?_⟩
    walk_at "ss"
    refine ⟨l, [x, y], rfl, upd_same, by simp, RetL.up k ((Ex.new hp2).trans (Ex.new hl))⟩
theorem ok_Same_names (T : Txt K mg Z)  : FnOk P w K mg base CX0 (2) Z.f_Same_names Z.fd_Same_names ["self"] (spE Z (fun r => r.kind = 5) Re_names) := by
  refine T.F_Same_names.ok sc_Same_names (fun vs H Q E h => ?_) (fun cdv AA outer s H vs Q E hr h => ?_)
  · obtain ⟨r, v, u, rfl, _⟩ := h
    rfl
  · obtain ⟨r, v, u, rfl, ⟨a, dx, fs, rfl, ha, hr2, hrow, hoff, htm⟩, hg, hS, k⟩ := h
    have TX := tcE T r.kind_lt
    obtain ⟨ns, rfl⟩ := kind_sm hS
    obtain ⟨b, p, rfl, hb, hp⟩ := hr2
    have G_each_once := ok_each_onceT (P := P) (w := w) (base := base) T
    refine ⟨_, (pss_one (ps_ret (pe_call G_each_once (hr.mono (by omega)) rfl T.g_each_once T.F_each_once.kp T.b_each_once .nil pass0 (pa_cons (pe_ix ix_tup (pe_fld (pv 0) (by rfl)) pe_int (fun _ _ => rfl)) pa_nil)))), ?_⟩
    walk_at "ss"
    refine ⟨_, _, _, _, _, rfl, ha, TX.1, TX.2.1, hrow, ?_⟩
    walk_at "ss"
    refine c_ixT (SqT.of hb) rfl ?_
    walk_at "ss"
    have hlen := hg.2.1
    exact ⟨p, ns, rfl, hp, by omega, k⟩
theorem ok_Call_names (T : Txt K mg Z)  : FnOk P w K mg base CX0 (2) Z.f_Call_names Z.fd_Call_names ["self"] (spE Z (fun r => r.kind = 6) Re_names) := by
  refine T.F_Call_names.ok sc_Call_names (fun vs H Q E h => ?_) (fun cdv AA outer s H vs Q E hr h => ?_)
  · obtain ⟨r, v, u, rfl, _⟩ := h
    rfl
  · obtain ⟨r, v, u, rfl, ⟨a, dx, fs, rfl, ha, hr2, hrow, hoff, htm⟩, hg, hS, k⟩ := h
    have TX := tcE T r.kind_lt
    obtain ⟨os, nd, xs, rfl⟩ := kind_cl hS
    obtain ⟨b, q, p, rfl, hb, hq, hp⟩ := hr2
    have G_each_once := ok_each_onceT (P := P) (w := w) (base := base) T
    refine ⟨_, (pss_one (ps_ret (pe_call G_each_once (hr.mono (by omega)) rfl T.g_each_once T.F_each_once.kp T.b_each_once .nil pass0 (pa_cons (pe_ix ix_tup (pe_fld (pv 0) (by rfl)) pe_int (fun _ _ => rfl)) pa_nil)))), ?_⟩
    walk_at "ss"
    refine ⟨_, _, _, _, _, rfl, ha, TX.1, TX.2.1, hrow, ?_⟩
    walk_at "ss"
    refine c_ixT (SqT.of hb) rfl ?_
    walk_at "ss"
    have hlen := hg.2.2.2.2.2.1
    exact ⟨p, xs, rfl, hp, by omega, k⟩
theorem ok_Equation_term (T : Txt K mg Z) : FnOk P w K mg base CX0 1 Z.f_Equation_term Z.fd_Equation_term ["self"] (spE Z (fun r => r.kind = 1 ∨ r.kind = 2 ∨ r.kind = 3 ∨ r.kind = 4 ∨ r.kind = 5 ∨ r.kind = 6) (Re_term Z)) := by
  refine T.F_Equation_term.ok sc_Equation_term (fun vs H Q E h => ?_) (fun cdv AA outer s H vs Q E hr h => ?_)
  · obtain ⟨r, v, u, rfl, _⟩ := h
    rfl
  · obtain ⟨r, v, u, rfl, ⟨a, dx, fs, rfl, ha, hr2, hrow, hoff, htm⟩, hg, hS, k⟩ := h
    have TX := tcE T r.kind_lt
    refine ⟨_, (pss_one (ps_ret pe_non)), ?_⟩
    walk_at "ss"
    cases r with
    | pl n t => simp [Rw.kind] at hS
    | _ => exact k
theorem ok_Plain_term (T : Txt K mg Z) : FnOk P w K mg base CX0 1 Z.f_Plain_term Z.fd_Plain_term ["self"] (spE Z (fun r => r.kind = 0) (Re_term Z)) := by
  refine T.F_Plain_term.ok sc_Plain_term (fun vs H Q E h => ?_) (fun cdv AA outer s H vs Q E hr h => ?_)
  · obtain ⟨r, v, u, rfl, _⟩ := h
    rfl
  · obtain ⟨r, v, u, rfl, ⟨a, dx, fs, rfl, ha, hr2, hrow, hoff, htm⟩, hg, hS, k⟩ := h
    have TX := tcE T r.kind_lt
    obtain ⟨n, t, rfl⟩ := kind_pl hS
    obtain ⟨tv, hk, htv⟩ := htm n t rfl
    refine ⟨_, (pss_one (ps_ret (pe_fld (pv 0) (by rfl)))), ?_⟩
    walk_at "ss"
    exact ⟨_, _, _, _, _, rfl, ha, TX.1, TX.2.2.1 rfl, hk, k tv htv⟩
theorem gmE_told (T : Txt K mg Z) : ∀ C, MCE Z C → MOk P w K mg base CX0 1 C "told" (spmE_told Z C) := by
  rintro C ⟨i, hi, rfl⟩
  have hi' : i = 0 ∨ i = 1 ∨ i = 2 ∨ i = 3 ∨ i = 4 ∨ i = 5 ∨ i = 6 := by omega
  rcases hi' with rfl | rfl | rfl | rfl | rfl | rfl | rfl
  · exact ⟨(tcB_ok T.x_Plain).cl, _, _, _, ⟨T.h_told_Plain, T.y_Equation_told, T.F_Equation_told.kp⟩, ((ok_Equation_told (P := P) (w := w) (base := base) T).mono (by decide)).imp fun vs H Q E ⟨r, v, u, e, h, hg, hc, k⟩ => ⟨r, v, u, e, h, hg, True.intro, k⟩, T.b_Equation_told⟩
  · exact ⟨(tcB_ok T.x_Before).cl, _, _, _, ⟨T.h_told_Before, T.y_Equation_told, T.F_Equation_told.kp⟩, ((ok_Equation_told (P := P) (w := w) (base := base) T).mono (by decide)).imp fun vs H Q E ⟨r, v, u, e, h, hg, hc, k⟩ => ⟨r, v, u, e, h, hg, True.intro, k⟩, T.b_Equation_told⟩
  · exact ⟨(tcB_ok T.x_Hold).cl, _, _, _, ⟨T.h_told_Hold, T.y_Equation_told, T.F_Equation_told.kp⟩, ((ok_Equation_told (P := P) (w := w) (base := base) T).mono (by decide)).imp fun vs H Q E ⟨r, v, u, e, h, hg, hc, k⟩ => ⟨r, v, u, e, h, hg, True.intro, k⟩, T.b_Equation_told⟩
  · exact ⟨(tcB_ok T.x_Like).cl, _, _, _, ⟨T.h_told_Like, T.y_Equation_told, T.F_Equation_told.kp⟩, ((ok_Equation_told (P := P) (w := w) (base := base) T).mono (by decide)).imp fun vs H Q E ⟨r, v, u, e, h, hg, hc, k⟩ => ⟨r, v, u, e, h, hg, True.intro, k⟩, T.b_Equation_told⟩
  · exact ⟨(tcB_ok T.x_When).cl, _, _, _, ⟨T.h_told_When, T.y_Equation_told, T.F_Equation_told.kp⟩, ((ok_Equation_told (P := P) (w := w) (base := base) T).mono (by decide)).imp fun vs H Q E ⟨r, v, u, e, h, hg, hc, k⟩ => ⟨r, v, u, e, h, hg, True.intro, k⟩, T.b_Equation_told⟩
  · exact ⟨(tcB_ok T.x_Same).cl, _, _, _, ⟨T.h_told_Same, T.y_Equation_told, T.F_Equation_told.kp⟩, ((ok_Equation_told (P := P) (w := w) (base := base) T).mono (by decide)).imp fun vs H Q E ⟨r, v, u, e, h, hg, hc, k⟩ => ⟨r, v, u, e, h, hg, True.intro, k⟩, T.b_Equation_told⟩
  · exact ⟨(tcB_ok T.x_Call).cl, _, _, _, ⟨T.h_told_Call, T.y_Equation_told, T.F_Equation_told.kp⟩, ((ok_Equation_told (P := P) (w := w) (base := base) T).mono (by decide)).imp fun vs H Q E ⟨r, v, u, e, h, hg, hc, k⟩ => ⟨r, v, u, e, h, hg, True.intro, k⟩, T.b_Equation_told⟩
theorem gmE_tells (T : Txt K mg Z) : ∀ C, MCE Z C → MOk P w K mg base CX0 1 C "tells" (spmE_tells Z C) := by
  rintro C ⟨i, hi, rfl⟩
  have hi' : i = 0 ∨ i = 1 ∨ i = 2 ∨ i = 3 ∨ i = 4 ∨ i = 5 ∨ i = 6 := by omega
  rcases hi' with rfl | rfl | rfl | rfl | rfl | rfl | rfl
  · exact ⟨(tcB_ok T.x_Plain).cl, _, _, _, ⟨T.h_tells_Plain, T.y_Equation_tells, T.F_Equation_tells.kp⟩, ((ok_Equation_tells (P := P) (w := w) (base := base) T).mono (by decide)).imp fun vs H Q E ⟨r, v, u, e, h, hg, hc, k⟩ => ⟨r, v, u, e, h, hg, (by have := clsK_inj T r.kind_lt hi hc; omega), k⟩, T.b_Equation_tells⟩
  · exact ⟨(tcB_ok T.x_Before).cl, _, _, _, ⟨T.h_tells_Before, T.y_Equation_tells, T.F_Equation_tells.kp⟩, ((ok_Equation_tells (P := P) (w := w) (base := base) T).mono (by decide)).imp fun vs H Q E ⟨r, v, u, e, h, hg, hc, k⟩ => ⟨r, v, u, e, h, hg, (by have := clsK_inj T r.kind_lt hi hc; omega), k⟩, T.b_Equation_tells⟩
  · exact ⟨(tcB_ok T.x_Hold).cl, _, _, _, ⟨T.h_tells_Hold, T.y_Equation_tells, T.F_Equation_tells.kp⟩, ((ok_Equation_tells (P := P) (w := w) (base := base) T).mono (by decide)).imp fun vs H Q E ⟨r, v, u, e, h, hg, hc, k⟩ => ⟨r, v, u, e, h, hg, (by have := clsK_inj T r.kind_lt hi hc; omega), k⟩, T.b_Equation_tells⟩
  · exact ⟨(tcB_ok T.x_Like).cl, _, _, _, ⟨T.h_tells_Like, T.y_Equation_tells, T.F_Equation_tells.kp⟩, ((ok_Equation_tells (P := P) (w := w) (base := base) T).mono (by decide)).imp fun vs H Q E ⟨r, v, u, e, h, hg, hc, k⟩ => ⟨r, v, u, e, h, hg, (by have := clsK_inj T r.kind_lt hi hc; omega), k⟩, T.b_Equation_tells⟩
  · exact ⟨(tcB_ok T.x_When).cl, _, _, _, ⟨T.h_tells_When, T.y_Equation_tells, T.F_Equation_tells.kp⟩, ((ok_Equation_tells (P := P) (w := w) (base := base) T).mono (by decide)).imp fun vs H Q E ⟨r, v, u, e, h, hg, hc, k⟩ => ⟨r, v, u, e, h, hg, (by have := clsK_inj T r.kind_lt hi hc; omega), k⟩, T.b_Equation_tells⟩
  · exact ⟨(tcB_ok T.x_Same).cl, _, _, _, ⟨T.h_tells_Same, T.y_Same_tells, T.F_Same_tells.kp⟩, ((ok_Same_tells (P := P) (w := w) (base := base) T).mono (by decide)).imp fun vs H Q E ⟨r, v, u, e, h, hg, hc, k⟩ => ⟨r, v, u, e, h, hg, (by have := clsK_inj T r.kind_lt hi hc; omega), k⟩, T.b_Same_tells⟩
  · exact ⟨(tcB_ok T.x_Call).cl, _, _, _, ⟨T.h_tells_Call, T.y_Call_tells, T.F_Call_tells.kp⟩, ((ok_Call_tells (P := P) (w := w) (base := base) T).mono (by decide)).imp fun vs H Q E ⟨r, v, u, e, h, hg, hc, k⟩ => ⟨r, v, u, e, h, hg, (by have := clsK_inj T r.kind_lt hi hc; omega), k⟩, T.b_Call_tells⟩
theorem gmE_names (T : Txt K mg Z) : ∀ C, MCE Z C → MOk P w K mg base CX0 9 C "names" (spmE_names Z C) := by
  rintro C ⟨i, hi, rfl⟩
  have hi' : i = 0 ∨ i = 1 ∨ i = 2 ∨ i = 3 ∨ i = 4 ∨ i = 5 ∨ i = 6 := by omega
  rcases hi' with rfl | rfl | rfl | rfl | rfl | rfl | rfl
  · exact ⟨(tcB_ok T.x_Plain).cl, _, _, _, ⟨T.h_names_Plain, T.y_Plain_names, T.F_Plain_names.kp⟩, ((ok_Plain_names (P := P) (w := w) (base := base) T).mono (by decide)).imp fun vs H Q E ⟨r, v, u, e, h, hg, hc, k⟩ => ⟨r, v, u, e, h, hg, (by have := clsK_inj T r.kind_lt hi hc; omega), k⟩, T.b_Plain_names⟩
  · exact ⟨(tcB_ok T.x_Before).cl, _, _, _, ⟨T.h_names_Before, T.y_Equation_names, T.F_Equation_names.kp⟩, ((ok_Equation_names (P := P) (w := w) (base := base) T).mono (by decide)).imp fun vs H Q E ⟨r, v, u, e, h, hg, hc, k⟩ => ⟨r, v, u, e, h, hg, (by have := clsK_inj T r.kind_lt hi hc; omega), k⟩, T.b_Equation_names⟩
  · exact ⟨(tcB_ok T.x_Hold).cl, _, _, _, ⟨T.h_names_Hold, T.y_Equation_names, T.F_Equation_names.kp⟩, ((ok_Equation_names (P := P) (w := w) (base := base) T).mono (by decide)).imp fun vs H Q E ⟨r, v, u, e, h, hg, hc, k⟩ => ⟨r, v, u, e, h, hg, (by have := clsK_inj T r.kind_lt hi hc; omega), k⟩, T.b_Equation_names⟩
  · exact ⟨(tcB_ok T.x_Like).cl, _, _, _, ⟨T.h_names_Like, T.y_Equation_names, T.F_Equation_names.kp⟩, ((ok_Equation_names (P := P) (w := w) (base := base) T).mono (by decide)).imp fun vs H Q E ⟨r, v, u, e, h, hg, hc, k⟩ => ⟨r, v, u, e, h, hg, (by have := clsK_inj T r.kind_lt hi hc; omega), k⟩, T.b_Equation_names⟩
  · exact ⟨(tcB_ok T.x_When).cl, _, _, _, ⟨T.h_names_When, T.y_When_names, T.F_When_names.kp⟩, ((ok_When_names (P := P) (w := w) (base := base) T).mono (by decide)).imp fun vs H Q E ⟨r, v, u, e, h, hg, hc, k⟩ => ⟨r, v, u, e, h, hg, (by have := clsK_inj T r.kind_lt hi hc; omega), k⟩, T.b_When_names⟩
  · exact ⟨(tcB_ok T.x_Same).cl, _, _, _, ⟨T.h_names_Same, T.y_Same_names, T.F_Same_names.kp⟩, ((ok_Same_names (P := P) (w := w) (base := base) T).mono (by decide)).imp fun vs H Q E ⟨r, v, u, e, h, hg, hc, k⟩ => ⟨r, v, u, e, h, hg, (by have := clsK_inj T r.kind_lt hi hc; omega), k⟩, T.b_Same_names⟩
  · exact ⟨(tcB_ok T.x_Call).cl, _, _, _, ⟨T.h_names_Call, T.y_Call_names, T.F_Call_names.kp⟩, ((ok_Call_names (P := P) (w := w) (base := base) T).mono (by decide)).imp fun vs H Q E ⟨r, v, u, e, h, hg, hc, k⟩ => ⟨r, v, u, e, h, hg, (by have := clsK_inj T r.kind_lt hi hc; omega), k⟩, T.b_Call_names⟩
theorem gmE_term (T : Txt K mg Z) : ∀ C, MCE Z C → MOk P w K mg base CX0 1 C "term" (spmE_term Z C) := by
  rintro C ⟨i, hi, rfl⟩
  have hi' : i = 0 ∨ i = 1 ∨ i = 2 ∨ i = 3 ∨ i = 4 ∨ i = 5 ∨ i = 6 := by omega
  rcases hi' with rfl | rfl | rfl | rfl | rfl | rfl | rfl
  · exact ⟨(tcB_ok T.x_Plain).cl, _, _, _, ⟨T.h_term_Plain, T.y_Plain_term, T.F_Plain_term.kp⟩, ((ok_Plain_term (P := P) (w := w) (base := base) T).mono (by decide)).imp fun vs H Q E ⟨r, v, u, e, h, hg, hc, k⟩ => ⟨r, v, u, e, h, hg, (by have := clsK_inj T r.kind_lt hi hc; omega), k⟩, T.b_Plain_term⟩
  · exact ⟨(tcB_ok T.x_Before).cl, _, _, _, ⟨T.h_term_Before, T.y_Equation_term, T.F_Equation_term.kp⟩, ((ok_Equation_term (P := P) (w := w) (base := base) T).mono (by decide)).imp fun vs H Q E ⟨r, v, u, e, h, hg, hc, k⟩ => ⟨r, v, u, e, h, hg, (by have := clsK_inj T r.kind_lt hi hc; omega), k⟩, T.b_Equation_term⟩
  · exact ⟨(tcB_ok T.x_Hold).cl, _, _, _, ⟨T.h_term_Hold, T.y_Equation_term, T.F_Equation_term.kp⟩, ((ok_Equation_term (P := P) (w := w) (base := base) T).mono (by decide)).imp fun vs H Q E ⟨r, v, u, e, h, hg, hc, k⟩ => ⟨r, v, u, e, h, hg, (by have := clsK_inj T r.kind_lt hi hc; omega), k⟩, T.b_Equation_term⟩
  · exact ⟨(tcB_ok T.x_Like).cl, _, _, _, ⟨T.h_term_Like, T.y_Equation_term, T.F_Equation_term.kp⟩, ((ok_Equation_term (P := P) (w := w) (base := base) T).mono (by decide)).imp fun vs H Q E ⟨r, v, u, e, h, hg, hc, k⟩ => ⟨r, v, u, e, h, hg, (by have := clsK_inj T r.kind_lt hi hc; omega), k⟩, T.b_Equation_term⟩
  · exact ⟨(tcB_ok T.x_When).cl, _, _, _, ⟨T.h_term_When, T.y_Equation_term, T.F_Equation_term.kp⟩, ((ok_Equation_term (P := P) (w := w) (base := base) T).mono (by decide)).imp fun vs H Q E ⟨r, v, u, e, h, hg, hc, k⟩ => ⟨r, v, u, e, h, hg, (by have := clsK_inj T r.kind_lt hi hc; omega), k⟩, T.b_Equation_term⟩
  · exact ⟨(tcB_ok T.x_Same).cl, _, _, _, ⟨T.h_term_Same, T.y_Equation_term, T.F_Equation_term.kp⟩, ((ok_Equation_term (P := P) (w := w) (base := base) T).mono (by decide)).imp fun vs H Q E ⟨r, v, u, e, h, hg, hc, k⟩ => ⟨r, v, u, e, h, hg, (by have := clsK_inj T r.kind_lt hi hc; omega), k⟩, T.b_Equation_term⟩
  · exact ⟨(tcB_ok T.x_Call).cl, _, _, _, ⟨T.h_term_Call, T.y_Equation_term, T.F_Equation_term.kp⟩, ((ok_Equation_term (P := P) (w := w) (base := base) T).mono (by decide)).imp fun vs H Q E ⟨r, v, u, e, h, hg, hc, k⟩ => ⟨r, v, u, e, h, hg, (by have := clsK_inj T r.kind_lt hi hc; omega), k⟩, T.b_Equation_term⟩

/-! ### rows made -/
theorem TermAt.keepM {H H2 : Hp} (e : ∀ a C dx fs, MC Z C → H a = some (.ins C dx fs) → H2 a = some (.ins C dx fs)) : ∀ {t : Tm} {v : V}, TermAt Z H t v → TermAt Z H2 t v := by
  intro t
  induction t with
  | nm s => rintro v ⟨a, dx, h1, h2⟩; exact ⟨a, dx, h1, e _ _ _ _ (clsT_MC Z (.nm s)) h2⟩
  | vl x => rintro v ⟨a, dx, h1, h2⟩; exact ⟨a, dx, h1, e _ _ _ _ (clsT_MC Z (.vl x)) h2⟩
  | two op p q ihp ihq => rintro v ⟨a, dx, v1, v2, h1, h2, h3, h4⟩; exact ⟨a, dx, v1, v2, h1, e _ _ _ _ (clsT_MC Z (.two op p q)) h2, ihp h3, ihq h4⟩
  | nt p ihp => rintro v ⟨a, dx, v1, h1, h2, h3⟩; exact ⟨a, dx, v1, h1, e _ _ _ _ (clsT_MC Z (.nt p)) h2, ihp h3⟩
  | pk c p q ihc ihp ihq => rintro v ⟨a, dx, v0, v1, v2, h1, h2, h3, h4, h5⟩; exact ⟨a, dx, v0, v1, v2, h1, e _ _ _ _ (clsT_MC Z (.pk c p q)) h2, ihc h3, ihp h4, ihq h5⟩
theorem MC_ne (T : Txt K mg Z) {C : Addr} (h : MC Z C) : C ≠ Z.c_Plain := by
  rcases h with rfl | rfl | rfl | rfl | rfl
  · exact (difB_ne (i := 0) (j := 1) T.fact_difT rfl rfl (by decide)).symm
  · exact (difB_ne (i := 0) (j := 2) T.fact_difT rfl rfl (by decide)).symm
  · exact (difB_ne (i := 0) (j := 3) T.fact_difT rfl rfl (by decide)).symm
  · exact (difB_ne (i := 0) (j := 4) T.fact_difT rfl rfl (by decide)).symm
  · exact (difB_ne (i := 0) (j := 5) T.fact_difT rfl rfl (by decide)).symm
def RetE (Z : Adr) (r : Rw) (u : V) (H : Hp) (Q : VK) : Prop := ∀ v H2, Ex H H2 → EqAt Z H2 r v u → Q v H2
theorem RetE.up {r : Rw} {u : V} {H0 H : Hp} {Q : VK} (k : RetE Z r u H0 Q) (e : Ex H0 H) : RetE Z r u H Q := fun v H2 e2 => k v H2 (e.trans e2)
def sp_Equation_init (Z : Adr) : Sp := fun vs H Q _ => ∃ x dx i v, vs = [.ref x, v] ∧ i < 7 ∧ H x = some (.ins (clsK Z i) dx []) ∧ Q .non (upd H x (.ins (clsK Z i) dx [("told_row", v)]))
theorem ok_Equation_init (T : Txt K mg Z) : FnOk P w K mg base CX0 1 Z.f_Equation_init Z.fd_Equation_init ["self", "row"] (sp_Equation_init Z) := by
  refine T.F_Equation_init.ok sc_Equation_init (fun vs H Q E h => ?_) (fun cdv AA outer s H vs Q E hr h => ?_)
  · obtain ⟨x, dx, i, v, rfl, _⟩ := h
    rfl
  · obtain ⟨x, dx, i, v, rfl, hi, hx, k⟩ := h
    have TX := tcE T hi
    refine ⟨_, (pss_one (ps_fld (pv 0) (pv 1) (by rfl))), ?_⟩
    walk_at "ss"
    refine ⟨x, _, dx, _, rfl, hx, TX.1, TX.2.1, by simp, ?_⟩
    walk_at "ss"
    exact k
def sp_Plain_init (Z : Adr) : Sp := fun vs H Q _ => ∃ x dx n t u H0, vs = [.ref x, u] ∧ H x = some (.ins Z.c_Plain dx []) ∧ H0 x = none ∧ Ex H0 H ∧ RowAt H0 (.pl n t) u ∧ t.good ∧ t.dep ≤ 5 ∧
  ∀ H2 tv, Ex H0 H2 → H2 x = some (.ins Z.c_Plain dx [("told_row", u), ("kept_term", tv)]) → TermAt Z H2 t tv → Q .non H2
theorem ok_Plain_init (T : Txt K mg Z)  : FnOk P w K mg base CX0 (20) Z.f_Plain_init Z.fd_Plain_init ["self", "row"] (sp_Plain_init Z) := by
  have G_Equation_init := ok_Equation_init (P := P) (w := w) (base := base) T
  have G_term_of := ok_term_of (P := P) (w := w) (base := base) T
  refine T.F_Plain_init.ok sc_Plain_init (fun vs H Q E h => ?_) (fun cdv AA outer s H vs Q E hr h => ?_)
  · obtain ⟨x, dx, n, t, u, H0, rfl, _⟩ := h
    rfl
  · obtain ⟨x, dx, n, t, u, H0, rfl, hx, h0, e0, ⟨b, tw, rfl, hb, hw⟩, hg, hd, k⟩ := h
    have TX := tcE T (i := 0) (by decide)
    refine ⟨_, (pss_cons (ps_expr (pe_cm rfl T.m_Equation (cmB_ok T.fact_cm_Equation) G_Equation_init (hr.mono (by omega)) T.F_Equation_init.kp T.b_Equation_init pass0 (pa_cons (pv 0) (pa_cons (pv 1) pa_nil))))
      (pss_one (ps_fld (pv 0) (pe_call G_term_of (hr.mono (by omega)) rfl T.g_term_of T.F_term_of.kp T.b_term_of .nil pass0 (pa_cons (pe_ix ix_tup (pv 1) pe_int (fun _ _ => rfl)) pa_nil)) (by rfl)))), ?_⟩
    walk_at "ss"
    refine ⟨x, dx, 0, _, rfl, by decide, hx, ?_⟩
    have e1 : Ex H0 (upd H x (.ins (clsK Z 0) dx [("told_row", .ref b)])) := Ex.mut e0 h0
    have hx1 : upd H x (.ins (clsK Z 0) dx [("told_row", .ref b)]) x = some (.ins (clsK Z 0) dx [("told_row", .ref b)]) := upd_same
    generalize upd H x (.ins (clsK Z 0) dx [("told_row", .ref b)]) = H1 at e1 hx1
    walk_at "ss"
    refine c_ixT (SqT.of (e1 _ _ hb)) rfl ?_
    walk_at "ss"
    refine ⟨t, tw, rfl, hw.up e1, hg, hd, fun tv H2 e2 htv => ?_⟩
    walk_at "ss"
    refine ⟨x, _, dx, _, rfl, e2 _ _ hx1, TX.1, TX.2.2.1 rfl, by simp, ?_⟩
    rw [put_tl (by decide +kernel)]
    walk_at "ss"
    refine k _ tv (Ex.mut (e1.trans e2) h0) upd_same (htv.keepM fun a C dx' fs hC ha => ?_)
    rw [upd_ne]
    · exact ha
    · intro z
      subst z
      have := (e2 _ _ hx1).symm.trans ha
      injection this with this
      injection this with h1
      exact MC_ne T hC h1.symm
theorem offE1 {u : V} : offE [("told_row", u)] := by
  refine ⟨?_, ?_, ?_, ?_, ?_⟩ <;> exact lk_tl (by decide +kernel) rfl
theorem offE2 {u v : V} : offE [("told_row", u), ("kept_term", v)] := by
  refine ⟨?_, ?_, ?_, ?_, ?_⟩ <;> exact lk_tl (by decide +kernel) (lk_tl (by decide +kernel) rfl)
theorem offX1 {u : V} : offX [("told_row", u)] := by
  refine ⟨?_, ?_⟩ <;> exact lk_tl (by decide +kernel) rfl
theorem offX2 {u v : V} : offX [("told_row", u), ("kept_term", v)] := by
  refine ⟨?_, ?_⟩ <;> exact lk_tl (by decide +kernel) (lk_tl (by decide +kernel) rfl)
theorem mk_row {H : Hp} {Q : VK} {E : XK} {i : Nat} {r : Rw} {u : V} (hi : r.kind = i) (h0 : i ≠ 0) (hr : RowAt H r u) (k : RetE Z r u H Q) : MkP2 (clsK Z i) (sp_Equation_init Z) [u] H Q E := fun x dx hx hd _ => by
  have hk := r.kind_lt
  refine ⟨x, dx, i, u, rfl, by omega, upd_same, rfl, ?_⟩
  have e1 : Ex H (upd (upd (upd H dx (.own x)) x (.ins (clsK Z i) dx [])) x (.ins (clsK Z i) dx [("told_row", u)])) := Ex.mut (mk_heap hx hd) hx
  refine k _ _ e1 ⟨x, dx, _, rfl, by rw [hi]; exact upd_same, hr.up e1, lk_hd, ⟨offE1, offX1⟩, fun n t e => ?_⟩
  subst e
  exact absurd hi.symm h0
theorem mk_Plain {H : Hp} {Q : VK} {E : XK} {n : Str} {t : Tm} {u : V} (hr : RowAt H (.pl n t) u) (hg : t.good) (hd5 : t.dep ≤ 5) (k : RetE Z (.pl n t) u H Q) : MkP2 Z.c_Plain (sp_Plain_init Z) [u] H Q E := fun x dx hx hd _ =>
  ⟨x, dx, n, t, u, H, rfl, upd_same, hx, mk_heap hx hd, hr, hg, hd5, fun H2 tv e2 g2 htv => ⟨rfl, k _ _ e2 ⟨x, dx, _, rfl, g2, hr.up e2, lk_hd, ⟨offE2, offX2⟩, fun n' t' e => by cases e; exact ⟨tv, lk_tl (by decide +kernel) lk_hd, htv⟩⟩⟩⟩
/-! are_pointed .. equation_of -/
def sp_are_pointed : Sp := fun vs H Q _ => ∃ (p : Addr) (ns : List Str) (m : Int), vs = [.ref p, .int m] ∧ H p = some (.tup (ns.map V.str)) ∧ (∀ s ∈ ns, goodN s) ∧ m ≤ (ns.length : Int) ∧ ns.length ≤ 1000 ∧ RetV (.bl true) H Q
theorem ok_are_pointed (T : Txt K mg Z) : FnOk P w K mg base CX0 3 Z.f_are_pointed Z.fd_are_pointed ["thing", "least"] sp_are_pointed := by
  have G_is_pointed := ok_is_pointed (P := P) (w := w) (base := base) T
  refine T.F_are_pointed.ok sc_are_pointed (fun vs H Q E h => ?_) (fun cdv AA outer s H vs Q E hr h => ?_)
  · obtain ⟨p, ns, m, rfl, _⟩ := h
    rfl
  · obtain ⟨p, ns, m, rfl, hp, hg, hm, hl, k⟩ := h
    refine ⟨_, (pss_one (ps_ret (pe_and (pe_callB call_isi (by rfl) T.n_isinstance (by decide +kernel) (pa_cons (pv 0) (pa_cons (pe_bltn (v := .ty "tuple") (by rfl) T.n_tuple (by decide +kernel) rfl) pa_nil))) (pe_and (pe_cmpR op_ge (pe_callB call_len_seq (by rfl) T.n_len (by decide +kernel) (pa_cons (pv 0) pa_nil)) (pv 1) (nomark _)) (pe_one (pe_callB (cr_all rfl) (by rfl) T.n_all (by decide +kernel) (pa_cons (pe_lc (own := [("name", 2)]) (g := (gName 2)) (tt := tYes) (te := (tCall (sp_is_pointed K) [] E0 (tCons (tVar 2) tNil))) rfl sc_are_pointed.nd (pi_tup (pv 0)) (blkOk_by (own := [("name", 2)]) (N := N_are_pointed) (sc := defScope s_are_pointed) (by decide +kernel)) (fun _ _ _ _ _ => (pg_name (i := 2) sc_are_pointed.nd rfl (Or.inl rfl))) (fun _ _ _ _ _ => pts_nil) (fun _ _ _ _ _ => (pe_call G_is_pointed (hr.mono (by omega)) rfl T.g_is_pointed T.F_is_pointed.kp T.b_is_pointed .nil pass0 (pa_cons (pv 2) pa_nil)))) pa_nil))))))), ?_⟩
    walk_at "ss"
    refine isi (ty_tup hp) kb_tt ?_
    walk_at "ss"
    refine ⟨p, _, rfl, .inr (SqT.of hp), ?_⟩
    walk_at "ss"
    refine if_tt (decide_eq_true (by rw [List.length_map]; exact hm)) ?_
    walk_at "ss"
    refine ⟨⟨_, SqT.of hp⟩, lcT (fun i => (ns[i]?).bind fun _ => some (.bl true)) (SqT.of hp) (by rw [List.length_map]; omega) (fun i x hx => ?_) ?_⟩
    · rw [List.getElem?_map] at hx
      obtain ⟨s, hs, rfl⟩ := Option.map_eq_some_iff.mp hx
      have hgs := hg s (List.mem_of_getElem? hs)
      have := hgs.2.1
      intro H2 e2 R hR
      walk_at "ss"
      refine ⟨_, rfl, .inl ⟨s, rfl, by omega, fun H3 e3 => ?_⟩⟩
      rw [hgs.1]
      rw [hs] at hR
      exact hR _ e3
    rw [List.length_map, fm_range, fm_some]
    intro p2 H2 hp2 e2 g2
    walk_at "ss"
    refine ⟨p2, ns.map fun _ => true, rfl, SqL.of (by rw [g2, List.map_map]; rfl), ?_⟩
    have ea : (ns.map fun _ => true).all id = true := by
      rw [List.all_eq_true]
      intro b hb
      obtain ⟨_, _, rfl⟩ := List.mem_map.mp hb
      rfl
    rw [ea]
    exact k _ e2
/-- a row with a value, or one whose name is none -/
def sp_is_valued : Sp := fun vs H Q _ => ∃ a w n v x, vs = [.ref a] ∧ H a = some (.tup [.str w, .str n, v, .str x]) ∧ n.length ≤ 1000 ∧ ((isPointed n = true ∧ isVal v = true ∧ goodN x ∧ RetV (.bl true) H Q) ∨ (isPointed n = false ∧ RetV (.bl false) H Q))
theorem ok_is_valued (T : Txt K mg Z) : FnOk P w K mg base CX0 4 Z.f_is_valued Z.fd_is_valued ["row"] sp_is_valued := by
  have G_is_pointed := ok_is_pointed (P := P) (w := w) (base := base) T
  have G_is_value := ok_is_value (P := P) (w := w) (base := base) T
  refine T.F_is_valued.ok sc_is_valued (fun vs H Q E h => ?_) (fun cdv AA outer s H vs Q E hr h => ?_)
  · obtain ⟨a, w0, n, v, x, rfl, _⟩ := h
    rfl
  · obtain ⟨a, w0, n, v, x, rfl, ha, hn, h⟩ := h
    refine ⟨_, (pss_one (ps_ret (pe_and (pe_cmpR op_eq (pe_callB call_len_seq (by rfl) T.n_len (by decide +kernel) (pa_cons (pv 0) pa_nil)) pe_int (nomark _)) (pe_and (pe_call G_is_pointed (hr.mono (by omega)) rfl T.g_is_pointed T.F_is_pointed.kp T.b_is_pointed .nil pass0 (pa_cons (pe_ix ix_tup (pv 0) pe_int (fun _ _ => rfl)) pa_nil)) (pe_and (pe_call G_is_value (hr.mono (by omega)) rfl T.g_is_value T.F_is_value.kp T.b_is_value .nil pass0 (pa_cons (pe_ix ix_tup (pv 0) pe_int (fun _ _ => rfl)) pa_nil)) (pe_one (pe_call G_is_pointed (hr.mono (by omega)) rfl T.g_is_pointed T.F_is_pointed.kp T.b_is_pointed .nil pass0 (pa_cons (pe_ix ix_tup (pv 0) pe_int (fun _ _ => rfl)) pa_nil)))))))), ?_⟩
    walk_at "ss"
    refine ⟨a, _, rfl, .inr (SqT.of ha), ?_⟩
    walk_at "ss"
    refine if_tt rfl ?_
    walk_at "ss"
    refine c_ixT (SqT.of ha) rfl ?_
    walk_at "ss"
    refine ⟨_, rfl, .inl ⟨n, rfl, by omega, fun H1 e1 => ?_⟩⟩
    rcases h with ⟨h1, h2, h3, k⟩ | ⟨h1, k⟩
    · rw [h1]
      walk_at "ss"
      refine c_ixT (SqT.of (e1 _ _ ha)) rfl ?_
      walk_at "ss"
      refine is_val h2 ?_
      walk_at "ss"
      refine c_ixT (SqT.of (e1 _ _ ha)) rfl ?_
      walk_at "ss"
      have := h3.2.1
      refine ⟨_, rfl, .inl ⟨x, rfl, by omega, fun H2 e2 => ?_⟩⟩
      rw [h3.1]
      exact k _ (e1.trans e2)
    · rw [h1]
      walk_at "ss"
      exact k _ e1
def sp_plain_of (Z : Adr) : Sp := fun vs H Q _ => ∃ n t u, vs = [u] ∧ RowAt H (.pl n t) u ∧ Rw.good (.pl n t) ∧ RetE Z (.pl n t) u H Q
theorem ok_plain_of (T : Txt K mg Z) : FnOk P w K mg base CX0 22 Z.f_plain_of Z.fd_plain_of ["row"] (sp_plain_of Z) := by
  have G_is_pointed := ok_is_pointed (P := P) (w := w) (base := base) T
  have G_Plain_init := ok_Plain_init (P := P) (w := w) (base := base) T
  refine T.F_plain_of.ok sc_plain_of (fun vs H Q E h => ?_) (fun cdv AA outer s H vs Q E hr h => ?_)
  · obtain ⟨n, t, u, rfl, _⟩ := h
    rfl
  · obtain ⟨n, t, u, rfl, hr2, hg, k⟩ := h
    have hr3 := hr2
    obtain ⟨a, tw, rfl, ha, hw⟩ := hr2
    refine ⟨_, (pss_cons (ps_if (PW.pt (pw_or (pt_cmpR op_ne (pe_callB call_len_seq (by rfl) T.n_len (by decide +kernel) (pa_cons (pv 0) pa_nil)) pe_int (nomark _)) (pw_or1 (pt_not (pt_val (pe_call G_is_pointed (hr.mono (by omega)) rfl T.g_is_pointed T.F_is_pointed.kp T.b_is_pointed .nil pass0 (pa_cons (pe_ix ix_tup (pv 0) pe_int (fun _ _ => rfl)) pa_nil))))))) (pss_one (ps_ret pe_non)) pss_nil)
      (pss_one (ps_try_thru0 (pss_one (ps_ret (pe_make ⟨(tcB_ok T.x_Plain).makes, T.i_Plain, T.y_Plain_init, (tcB_ok T.x_Plain).kp⟩ G_Plain_init (hr.mono (by omega)) rfl T.m_Plain T.b_Plain_init .nil pass0 (pa_cons (pv 0) pa_nil))))))), ?_⟩
    walk_at "ss"
    refine ⟨a, _, rfl, .inr (SqT.of ha), ?_⟩
    walk_at "ss"
    refine if_ff rfl ?_
    walk_at "ss"
    refine c_ixT (SqT.of ha) rfl ?_
    walk_at "ss"
    have := hg.1.2.1
    refine ⟨_, rfl, .inl ⟨n, rfl, by omega, fun H1 e1 => ?_⟩⟩
    rw [hg.1.1]
    walk_at "ss"
    exact mk_Plain (hr3.up e1) hg.2.1 hg.2.2 (k.up e1)
def badV (H : Hp) (u : V) : Prop := ∃ a n v x, u = .ref a ∧ H a = some (.tup [.str "before", .str n, v, .str x]) ∧ n.length ≤ 1000 ∧ isPointed n = false
def sp_valued_of (Z : Adr) : Sp := fun vs H Q _ => ∃ u, vs = [u] ∧ ((∃ kk n v x, RowAt H (.vd kk n v x) u ∧ Rw.good (.vd kk n v x) ∧ RetE Z (.vd kk n v x) u H Q) ∨ (badV H u ∧ RetV .non H Q))
theorem ok_valued_of (T : Txt K mg Z) : FnOk P w K mg base CX0 5 Z.f_valued_of Z.fd_valued_of ["row"] (sp_valued_of Z) := by
  have G_Equation_init := ok_Equation_init (P := P) (w := w) (base := base) T
  have G_is_valued := ok_is_valued (P := P) (w := w) (base := base) T
  refine T.F_valued_of.ok sc_valued_of (fun vs H Q E h => ?_) (fun cdv AA outer s H vs Q E hr h => ?_)
  · obtain ⟨u, rfl, _⟩ := h
    rfl
  · obtain ⟨u, rfl, h⟩ := h
    refine ⟨_, (pss_cons (ps_if (pt_not (pt_val (pe_call G_is_valued (hr.mono (by omega)) rfl T.g_is_valued T.F_is_valued.kp T.b_is_valued .nil pass0 (pa_cons (pv 0) pa_nil)))) (pss_one (ps_ret pe_non)) pss_nil)
      (pss_cons (ps_if (pt_cmpR op_eq (pe_ix ix_tup (pv 0) pe_int (fun _ _ => rfl)) pe_str (nomark _)) (pss_one (ps_ret (pe_make ⟨(tcB_ok T.x_Before).makes, T.i_Before, T.y_Equation_init, (tcB_ok T.x_Before).kp⟩ G_Equation_init (hr.mono (by omega)) rfl T.m_Before T.b_Equation_init .nil pass0 (pa_cons (pv 0) pa_nil)))) pss_nil)
      (pss_cons (ps_if (pt_cmpR op_eq (pe_ix ix_tup (pv 0) pe_int (fun _ _ => rfl)) pe_str (nomark _)) (pss_one (ps_ret (pe_make ⟨(tcB_ok T.x_Hold).makes, T.i_Hold, T.y_Equation_init, (tcB_ok T.x_Hold).kp⟩ G_Equation_init (hr.mono (by omega)) rfl T.m_Hold T.b_Equation_init .nil pass0 (pa_cons (pv 0) pa_nil)))) pss_nil)
      (pss_one (ps_ret (pe_make ⟨(tcB_ok T.x_Like).makes, T.i_Like, T.y_Equation_init, (tcB_ok T.x_Like).kp⟩ G_Equation_init (hr.mono (by omega)) rfl T.m_Like T.b_Equation_init .nil pass0 (pa_cons (pv 0) pa_nil))))))), ?_⟩
    rcases h with ⟨kk, n, v, x, hr2, hg, k⟩ | ⟨⟨a, n, v, x, rfl, ha, hn, hb⟩, k⟩
    · have hr3 := hr2
      obtain ⟨a, rfl, ha⟩ := hr2
      have h80 := hg.2.1.2.1
      walk_at "ss"
      refine ⟨a, _, n, v, x, rfl, ha, by omega, .inl ⟨hg.2.1.1, hg.2.2.1, hg.2.2.2, fun H1 e1 => ?_⟩⟩
      have ha1 := e1 _ _ ha
      walk_at "ss"
      refine c_ixT (SqT.of ha1) rfl ?_
      walk_at "ss"
      have hk3 := hg.1
      have hk : kk = 0 ∨ kk = 1 ∨ kk = 2 := by omega
      rcases hk with rfl | rfl | rfl
      · refine if_tt (str_eq rfl) ?_
        walk_at "ss"
        exact mk_row (i := 1) rfl (by decide) (hr3.up e1) (k.up e1)
      · refine if_ff (str_ne (by decide +kernel)) ?_
        walk_at "ss"
        refine c_ixT (SqT.of ha1) rfl ?_
        walk_at "ss"
        refine if_tt (str_eq rfl) ?_
        walk_at "ss"
        exact mk_row (i := 2) rfl (by decide) (hr3.up e1) (k.up e1)
      · refine if_ff (str_ne (by decide +kernel)) ?_
        walk_at "ss"
        refine c_ixT (SqT.of ha1) rfl ?_
        walk_at "ss"
        refine if_ff (str_ne (by decide +kernel)) ?_
        walk_at "ss"
        exact mk_row (i := 3) rfl (by decide) (hr3.up e1) (k.up e1)
    · walk_at "ss"
      refine ⟨a, _, n, v, x, rfl, ha, by omega, .inr ⟨hb, fun H1 e1 => ?_⟩⟩
      walk_at "ss"
      exact k _ e1
def sp_call_of (Z : Adr) : Sp := fun vs H Q _ => ∃ os nd xs u, vs = [u] ∧ RowAt H (.cl os nd xs) u ∧ Rw.good (.cl os nd xs) ∧ RetE Z (.cl os nd xs) u H Q
theorem ok_call_of (T : Txt K mg Z) : FnOk P w K mg base CX0 4 Z.f_call_of Z.fd_call_of ["row"] (sp_call_of Z) := by
  have G_is_name := ok_is_name (P := P) (w := w) (base := base) T
  have G_Equation_init := ok_Equation_init (P := P) (w := w) (base := base) T
  have G_are_pointed := ok_are_pointed (P := P) (w := w) (base := base) T
  refine T.F_call_of.ok sc_call_of (fun vs H Q E h => ?_) (fun cdv AA outer s H vs Q E hr h => ?_)
  · obtain ⟨os, nd, xs, u, rfl, _⟩ := h
    rfl
  · obtain ⟨os, nd, xs, u, rfl, hr2, hg, k⟩ := h
    have hr3 := hr2
    obtain ⟨a, p, q, rfl, ha, hp, hq⟩ := hr2
    obtain ⟨g1, g2, g3, ⟨g4, g5, g6⟩, g7, g8, g9⟩ := hg
    refine ⟨_, (pss_cons (ps_if (PW.pt (pw_or (pt_cmpR op_ne (pe_callB call_len_seq (by rfl) T.n_len (by decide +kernel) (pa_cons (pv 0) pa_nil)) pe_int (nomark _)) (pw_or (pt_not (pt_val (pe_call G_are_pointed (hr.mono (by omega)) rfl T.g_are_pointed T.F_are_pointed.kp T.b_are_pointed .nil pass0 (pa_cons (pe_ix ix_tup (pv 0) pe_int (fun _ _ => rfl)) (pa_cons pe_int pa_nil))))) (pw_or (pt_not (pt_val (pe_call G_is_name (hr.mono (by omega)) rfl T.g_is_name T.F_is_name.kp T.b_is_name .nil pass0 (pa_cons (pe_ix ix_tup (pv 0) pe_int (fun _ _ => rfl)) pa_nil)))) (pw_or1 (pt_not (pt_val (pe_call G_are_pointed (hr.mono (by omega)) rfl T.g_are_pointed T.F_are_pointed.kp T.b_are_pointed .nil pass0 (pa_cons (pe_ix ix_tup (pv 0) pe_int (fun _ _ => rfl)) (pa_cons pe_int pa_nil)))))))))) (pss_one (ps_ret pe_non)) pss_nil)
      (pss_one (ps_ret (pe_make ⟨(tcB_ok T.x_Call).makes, T.i_Call, T.y_Equation_init, (tcB_ok T.x_Call).kp⟩ G_Equation_init (hr.mono (by omega)) rfl T.m_Call T.b_Equation_init .nil pass0 (pa_cons (pv 0) pa_nil))))), ?_⟩
    walk_at "ss"
    refine ⟨a, _, rfl, .inr (SqT.of ha), ?_⟩
    walk_at "ss"
    refine if_ff rfl ?_
    walk_at "ss"
    refine c_ixT (SqT.of ha) rfl ?_
    walk_at "ss"
    refine ⟨p, os, 1, rfl, hp, g3, by omega, by omega, fun H1 e1 => ?_⟩
    walk_at "ss"
    refine c_ixT (SqT.of (e1 _ _ ha)) rfl ?_
    walk_at "ss"
    refine ⟨_, rfl, .inl ⟨nd, rfl, by omega, fun H2 e2 => ?_⟩⟩
    rw [g4]
    walk_at "ss"
    have e12 := e1.trans e2
    refine c_ixT (SqT.of (e12 _ _ ha)) rfl ?_
    walk_at "ss"
    refine ⟨q, xs, 1, rfl, e12 _ _ hq, g9, by omega, by omega, fun H3 e3 => ?_⟩
    walk_at "ss"
    exact mk_row (i := 6) rfl (by decide) (hr3.up (e12.trans e3)) (k.up (e12.trans e3))
def sp_made_of (Z : Adr) : Sp := fun vs H Q _ => ∃ u, vs = [u] ∧ ((∃ r, RowAt H r u ∧ r.good ∧ RetE Z r u H Q) ∨ (badV H u ∧ RetV .non H Q))
theorem in_vw (k : Nat) : inV (.str (vword k)) [.str "before", .str "hold", .str "like"] = true := by
  rcases vword_in k with e | e | e <;> (rw [e]; decide +kernel)
theorem vw_ne {k : Nat} : vword k ≠ "plain" := by
  rcases vword_in k with e | e | e <;> (rw [e]; decide +kernel)
theorem ok_made_of (T : Txt K mg Z) : FnOk P w K mg base CX0 23 Z.f_made_of Z.fd_made_of ["row"] (sp_made_of Z) := by
  have G_Equation_init := ok_Equation_init (P := P) (w := w) (base := base) T
  have G_are_pointed := ok_are_pointed (P := P) (w := w) (base := base) T
  have G_plain_of := ok_plain_of (P := P) (w := w) (base := base) T
  have G_valued_of := ok_valued_of (P := P) (w := w) (base := base) T
  have G_call_of := ok_call_of (P := P) (w := w) (base := base) T
  refine T.F_made_of.ok sc_made_of (fun vs H Q E h => ?_) (fun cdv AA outer s H vs Q E hr h => ?_)
  · obtain ⟨u, rfl, _⟩ := h
    rfl
  · obtain ⟨u, rfl, h⟩ := h
    refine ⟨_, (pss_cons (ps_if (pt_cmpR op_eq (pe_ix ix_tup (pv 0) pe_int (fun _ _ => rfl)) pe_str (nomark _)) (pss_one (ps_ret (pe_call G_plain_of (hr.mono (by omega)) rfl T.g_plain_of T.F_plain_of.kp T.b_plain_of .nil pass0 (pa_cons (pv 0) pa_nil)))) pss_nil)
      (pss_cons (ps_if (pt_cmpR op_in_seq (pe_ix ix_tup (pv 0) pe_int (fun _ _ => rfl)) (pe_tup (pa_cons pe_str (pa_cons pe_str (pa_cons pe_str pa_nil)))) (by rfl)) (pss_one (ps_ret (pe_call G_valued_of (hr.mono (by omega)) rfl T.g_valued_of T.F_valued_of.kp T.b_valued_of .nil pass0 (pa_cons (pv 0) pa_nil)))) pss_nil)
      (pss_cons (ps_if (pt_cmpR op_eq (pe_ix ix_tup (pv 0) pe_int (fun _ _ => rfl)) pe_str (nomark _)) (pss_one (ps_ret (pe_call G_call_of (hr.mono (by omega)) rfl T.g_call_of T.F_call_of.kp T.b_call_of .nil pass0 (pa_cons (pv 0) pa_nil)))) pss_nil)
      (pss_cons (ps_if (PW.pt (pw_and (pt_cmpR op_eq (pe_ix ix_tup (pv 0) pe_int (fun _ _ => rfl)) pe_str (nomark _)) (pw_and (pt_cmpR op_eq (pe_callB call_len_seq (by rfl) T.n_len (by decide +kernel) (pa_cons (pv 0) pa_nil)) pe_int (nomark _)) (pw_and1 (pt_val (pe_call G_are_pointed (hr.mono (by omega)) rfl T.g_are_pointed T.F_are_pointed.kp T.b_are_pointed .nil pass0 (pa_cons (pe_slice sl_tup (pv 0) (po_some pe_int) po_none) (pa_cons pe_int pa_nil)))))))) (pss_one (ps_ret (pe_make ⟨(tcB_ok T.x_When).makes, T.i_When, T.y_Equation_init, (tcB_ok T.x_When).kp⟩ G_Equation_init (hr.mono (by omega)) rfl T.m_When T.b_Equation_init .nil pass0 (pa_cons (pv 0) pa_nil)))) pss_nil)
      (pss_cons (ps_if (PW.pt (pw_and (pt_cmpR op_eq (pe_ix ix_tup (pv 0) pe_int (fun _ _ => rfl)) pe_str (nomark _)) (pw_and (pt_cmpR op_eq (pe_callB call_len_seq (by rfl) T.n_len (by decide +kernel) (pa_cons (pv 0) pa_nil)) pe_int (nomark _)) (pw_and1 (pt_val (pe_call G_are_pointed (hr.mono (by omega)) rfl T.g_are_pointed T.F_are_pointed.kp T.b_are_pointed .nil pass0 (pa_cons (pe_ix ix_tup (pv 0) pe_int (fun _ _ => rfl)) (pa_cons pe_int pa_nil)))))))) (pss_one (ps_ret (pe_make ⟨(tcB_ok T.x_Same).makes, T.i_Same, T.y_Equation_init, (tcB_ok T.x_Same).kp⟩ G_Equation_init (hr.mono (by omega)) rfl T.m_Same T.b_Equation_init .nil pass0 (pa_cons (pv 0) pa_nil)))) pss_nil)
      (pss_one (ps_ret pe_non))))))), ?_⟩
    rcases h with ⟨r, hr2, hg, k⟩ | ⟨⟨a, n, v, x, rfl, ha, hn, hb⟩, k⟩
    · have hr3 := hr2
      cases r with
      | pl n t =>
        obtain ⟨a, tw, rfl, ha, hw⟩ := hr2
        walk_at "ss"
        refine c_ixT (SqT.of ha) rfl ?_
        walk_at "ss"
        rw [str_eq rfl]
        walk_at "ss"
        exact ⟨n, t, _, rfl, hr3, hg, k⟩
      | vd kk n v x =>
        obtain ⟨a, rfl, ha⟩ := hr2
        walk_at "ss"
        refine c_ixT (SqT.of ha) rfl ?_
        walk_at "ss"
        rw [str_ne vw_ne]
        walk_at "ss"
        refine c_ixT (SqT.of ha) rfl ?_
        walk_at "ss"
        refine newT fun p1 H1 hp1 e1 g1 => ?_
        refine c_in (.inr (SqT.of g1)) rfl rfl ?_
        rw [in_vw]
        walk_at "ss"
        exact ⟨_, rfl, .inl ⟨kk, n, v, x, hr3.up e1, hg, k.up e1⟩⟩
      | cl os nd xs =>
        obtain ⟨a, p, q, rfl, ha, hp, hq⟩ := hr2
        walk_at "ss"
        refine c_ixT (SqT.of ha) rfl ?_
        walk_at "ss"
        rw [str_ne (by decide +kernel)]
        walk_at "ss"
        refine c_ixT (SqT.of ha) rfl ?_
        walk_at "ss"
        refine newT fun p1 H1 hp1 e1 g1 => ?_
        refine c_in (.inr (SqT.of g1)) rfl rfl ?_
        rw [show inV (V.str "call") [.str "before", .str "hold", .str "like"] = false from by decide +kernel]
        walk_at "ss"
        refine c_ixT (SqT.of (e1 _ _ ha)) rfl ?_
        walk_at "ss"
        rw [str_eq rfl]
        walk_at "ss"
        exact ⟨os, nd, xs, _, rfl, hr3.up e1, hg, k.up e1⟩
      | wh n x y =>
        obtain ⟨a, rfl, ha⟩ := hr2
        walk_at "ss"
        refine c_ixT (SqT.of ha) rfl ?_
        walk_at "ss"
        rw [str_ne (by decide +kernel)]
        walk_at "ss"
        refine c_ixT (SqT.of ha) rfl ?_
        walk_at "ss"
        refine newT fun p1 H1 hp1 e1 g1 => ?_
        refine c_in (.inr (SqT.of g1)) rfl rfl ?_
        rw [show inV (V.str "when") [.str "before", .str "hold", .str "like"] = false from by decide +kernel]
        have ha1 := e1 _ _ ha
        walk_at "ss"
        refine c_ixT (SqT.of ha1) rfl ?_
        walk_at "ss"
        rw [str_ne (by decide +kernel)]
        walk_at "ss"
        refine c_ixT (SqT.of ha1) rfl ?_
        walk_at "ss"
        rw [str_eq rfl]
        walk_at "ss"
        refine ⟨a, _, rfl, .inr (SqT.of ha1), ?_⟩
        walk_at "ss"
        refine if_tt rfl ?_
        walk_at "ss"
        refine ⟨a, _, rfl, SqT.of ha1, fun z => absurd (show (1 : Nat) = 0 from z.1) (by decide), fun p2 hp2 => ?_⟩
        walk_at "ss"
        have e2 := Ex.new (H := H1) (p := p2) (o := .tup ([n, x, y].map V.str)) hp2
        refine ⟨p2, [n, x, y], 3, rfl, upd_same, fun s hs => ?_, by simp, by simp, fun H3 e3 => ?_⟩
        · simp only [List.mem_cons, List.not_mem_nil, or_false] at hs
          rcases hs with rfl | rfl | rfl
          · exact hg.1
          · exact hg.2.1
          · exact hg.2.2
        walk_at "ss"
        exact mk_row (i := 4) rfl (by decide) (hr3.up (e1.trans (e2.trans e3))) (k.up (e1.trans (e2.trans e3)))
      | sm ns =>
        obtain ⟨a, p, rfl, ha, hp⟩ := hr2
        walk_at "ss"
        refine c_ixT (SqT.of ha) rfl ?_
        walk_at "ss"
        rw [str_ne (by decide +kernel)]
        walk_at "ss"
        refine c_ixT (SqT.of ha) rfl ?_
        walk_at "ss"
        refine newT fun p1 H1 hp1 e1 g1 => ?_
        refine c_in (.inr (SqT.of g1)) rfl rfl ?_
        rw [show inV (V.str "same") [.str "before", .str "hold", .str "like"] = false from by decide +kernel]
        have ha1 := e1 _ _ ha
        walk_at "ss"
        refine c_ixT (SqT.of ha1) rfl ?_
        walk_at "ss"
        rw [str_ne (by decide +kernel)]
        walk_at "ss"
        refine c_ixT (SqT.of ha1) rfl ?_
        walk_at "ss"
        rw [str_ne (by decide +kernel)]
        walk_at "ss"
        refine c_ixT (SqT.of ha1) rfl ?_
        walk_at "ss"
        rw [str_eq rfl]
        walk_at "ss"
        refine ⟨a, _, rfl, .inr (SqT.of ha1), ?_⟩
        walk_at "ss"
        refine if_tt rfl ?_
        walk_at "ss"
        refine c_ixT (SqT.of ha1) rfl ?_
        walk_at "ss"
        have g1' := hg.1
        have g2' := hg.2.1
        refine ⟨p, ns, 2, rfl, e1 _ _ hp, hg.2.2, by omega, by omega, fun H3 e3 => ?_⟩
        walk_at "ss"
        exact mk_row (i := 5) rfl (by decide) (hr3.up (e1.trans e3)) (k.up (e1.trans e3))
    · walk_at "ss"
      refine c_ixT (SqT.of ha) rfl ?_
      walk_at "ss"
      rw [str_ne (by decide +kernel)]
      walk_at "ss"
      refine c_ixT (SqT.of ha) rfl ?_
      walk_at "ss"
      refine newT fun p1 H1 hp1 e1 g1 => ?_
      refine c_in (.inr (SqT.of g1)) rfl rfl ?_
      rw [show inV (V.str "before") [.str "before", .str "hold", .str "like"] = true from by decide +kernel]
      walk_at "ss"
      exact ⟨_, rfl, .inr ⟨⟨a, n, v, x, rfl, e1 _ _ ha, hn, hb⟩, k.up e1⟩⟩
theorem ne_empty {H : Hp} {Q : VK} {a p : Addr} {d : PyData} {ds : List PyData} {D B : Nat} (h : Dp K H (.ref a) (.tuple (d :: ds))) (r : RpOk D B (.tuple (d :: ds))) (hD : D ≤ 64) (g : H p = some (.tup [])) (q : Q (.bl true) H) : rNeD K (.ref a) (.ref p) H Q := by
  refine ⟨_, .tuple [], h, .tup (SqT.of g) .nil, r.shaped hD, by decide +kernel, ?_⟩
  rw [show PyData.eqv (.tuple (d :: ds)) (.tuple []) = false from by simp [PyData.eqv, PyData.eqvAll]]
  exact q
theorem Rw.data_cons (r : Rw) : ∃ d ds, r.data = .tuple (d :: ds) := by cases r <;> exact ⟨_, _, rfl⟩
def sp_equation_of (Z : Adr) : Sp := fun vs H Q _ => ∃ r u, vs = [u] ∧ RowAt H r u ∧ r.good ∧ RetE Z r u H Q
theorem ok_equation_of (T : Txt K mg Z) : FnOk P w K mg base CX0 24 Z.f_equation_of Z.fd_equation_of ["told"] (sp_equation_of Z) := by
  have G_made_of := ok_made_of (P := P) (w := w) (base := base) T
  refine T.F_equation_of.ok sc_equation_of (fun vs H Q E h => ?_) (fun cdv AA outer s H vs Q E hr h => ?_)
  · obtain ⟨r, u, rfl, _⟩ := h
    rfl
  · obtain ⟨r, u, rfl, hr2, hg, k⟩ := h
    have hr3 := hr2
    obtain ⟨a, xs, rfl, ha⟩ := hr2.hd
    refine ⟨_, (pss_cons (ps_set (i := 1) sc_equation_of.nd rfl (Or.inl rfl) pe_non)
      (pss_cons (ps_if (PW.pt (pw_and (pt_val (pe_callB call_isi (by rfl) T.n_isinstance (by decide +kernel) (pa_cons (pv 0) (pa_cons (pe_bltn (v := .ty "tuple") (by rfl) T.n_tuple (by decide +kernel) rfl) pa_nil)))) (pw_and (pt_cmpR (op_neD hr.units) (pv 0) (pe_tup pa_nil) (nomark _)) (pw_and1 (pt_val (pe_callB call_isi (by rfl) T.n_isinstance (by decide +kernel) (pa_cons (pe_ix ix_tup (pv 0) pe_int (fun _ _ => rfl)) (pa_cons (pe_bltn (v := .ty "str") (by rfl) T.n_str (by decide +kernel) rfl) pa_nil)))))))) (pss_one (ps_set (i := 1) sc_equation_of.nd rfl (Or.inl rfl) (pe_call G_made_of (hr.mono (by omega)) rfl T.g_made_of T.F_made_of.kp T.b_made_of .nil pass0 (pa_cons (pv 0) pa_nil)))) pss_nil)
      (pss_cons (ps_if (pt_cmpR op_isN (pv 1) pe_non (nomark _)) (pss_one ps_never) pss_nil)
      (pss_one (ps_ret (pv 1)))))), ?_⟩
    walk_at "ss"
    refine isi (ty_tup ha) kb_tt ?_
    walk_at "ss"
    refine newT fun p1 H1 hp1 e1 g1 => ?_
    obtain ⟨d, ds, hdd⟩ := r.data_cons
    have hdp := (hr3.up e1).dp (K := K) hg
    have hrp := Rw.rp hg
    rw [hdd] at hdp hrp
    refine ne_empty hdp hrp (by decide) g1 ?_
    walk_at "ss"
    refine c_ixT (SqT.of (e1 _ _ ha)) at_hd ?_
    walk_at "ss"
    refine isi (ty_str _) kb_ss ?_
    walk_at "ss"
    refine ⟨_, rfl, .inl ⟨r, hr3.up e1, hg, fun v H2 e2 hv => ?_⟩⟩
    walk_at "ss"
    have nv : decide (v = V.non) = false := by
      obtain ⟨aa, _, _, rfl, _⟩ := hv
      rfl
    rw [nv]
    walk_at "ss"
    exact k _ _ (e1.trans e2) hv

/-! ### plain facts about rows (printed by mk_rowf.py) -/
def Tm.flat : Tm → List Str
  | .nm s => [s]
  | .vl _ => []
  | .two _ a b => a.flat ++ b.flat
  | .nt a => a.flat
  | .pk c a b => c.flat ++ a.flat ++ b.flat
theorem snoc_ind {P : List Str → Prop} (h0 : P []) (h1 : ∀ y n, P y → P (y ++ [n])) : ∀ y, P y := by
  intro y
  have h : ∀ z : List Str, P z.reverse := by
    intro z
    induction z with
    | nil => exact h0
    | cons a z ih => rw [List.reverse_cons]; exact h1 _ _ ih
  have h2 := h y.reverse
  rw [List.reverse_reverse] at h2
  exact h2
theorem once_go (y : List Str) : ∀ (A : List Str), y.foldl (fun acc n => addN acc [n]) A = addN A (once y) := by
  intro A
  refine snoc_ind (P := fun y => y.foldl (fun acc n => addN acc [n]) A = addN A (once y)) ?_ (fun y n ih => ?_) y
  · show A = addN A []
    simp [addN]
  · rw [List.foldl_append, ih, once_app]
    show addN (addN A (once y)) [n] = addN A (addN (once y) [n])
    have m1 : (addN A (once y)).contains n = (A.contains n || (once y).contains n) := by
      rw [Bool.eq_iff_iff, Bool.or_eq_true, List.contains_iff_mem, List.contains_iff_mem, List.contains_iff_mem]
      constructor
      · intro h
        rcases List.mem_append.mp h with h | h
        · exact .inl h
        · exact .inr (List.mem_filter.mp h).1
      · intro h
        by_cases hA : n ∈ A
        · exact List.mem_append_left _ hA
        · rcases h with h | h
          · exact absurd h hA
          · refine List.mem_append_right _ (List.mem_filter.mpr ⟨h, ?_⟩)
            rw [Bool.not_eq_true']
            cases hc : A.contains n with
            | false => rfl
            | true => exact absurd (List.contains_iff_mem.mp hc) hA
    rw [addN_one, addN_one, m1]
    cases h1 : (once y).contains n with
    | true => rw [Bool.or_true, if_pos rfl, if_pos rfl]
    | false =>
      simp only [Bool.or_false, Bool.false_eq_true, ↓reduceIte]
      unfold addN
      rw [List.filter_append]
      cases h2 : A.contains n with
      | true =>
        have h3 : [n].filter (fun m => !A.contains m) = [] := by rw [List.filter_cons, h2]; rfl
        rw [h3, List.append_nil, if_pos rfl]
      | false =>
        have h3 : [n].filter (fun m => !A.contains m) = [n] := by rw [List.filter_cons, h2]; rfl
        rw [h3, if_neg (by decide), List.append_assoc]
theorem once_cat (x y : List Str) : once (x ++ y) = addN (once x) (once y) := by
  have : once (x ++ y) = y.foldl (fun acc n => addN acc [n]) (once x) := by
    unfold once
    rw [List.foldl_append]
  rw [this, once_go]
theorem addN_nil (l : List Str) : addN [] l = l := by
  unfold addN
  rw [List.nil_append]
  exact List.filter_eq_self.mpr fun a _ => rfl
theorem Tm.names_once (t : Tm) : once t.flat = t.names := by
  induction t with
  | nm s => exact addN_nil [s]
  | vl v => rfl
  | two op a b iha ihb =>
    show once (a.flat ++ b.flat) = addN (addN [] a.names) b.names
    rw [once_cat, iha, ihb, addN_nil]
  | nt a iha =>
    show once a.flat = addN [] a.names
    rw [iha, addN_nil]
  | pk c a b ihc iha ihb =>
    show once (c.flat ++ a.flat ++ b.flat) = addN (addN (addN [] c.names) a.names) b.names
    rw [once_cat, once_cat, ihc, iha, ihb, addN_nil]
theorem addN_mem {a b : List Str} {s : Str} (h : s ∈ addN a b) : s ∈ a ∨ s ∈ b := by
  rcases List.mem_append.mp h with h | h
  · exact .inl h
  · exact .inr (List.mem_filter.mp h).1
theorem once_mem {l : List Str} {s : Str} (h : s ∈ once l) : s ∈ l := by
  refine snoc_ind (P := fun l => s ∈ once l → s ∈ l) (fun h => by cases h) (fun y n ih h => ?_) l h
  rw [once_app] at h
  rcases addN_mem h with h | h
  · exact List.mem_append_left _ (ih h)
  · exact List.mem_append_right _ h
theorem once_sub {l : List Str} {s : Str} (h : s ∈ l) : s ∈ once l := by
  revert h
  refine snoc_ind (P := fun l => s ∈ l → s ∈ once l) (fun h => by cases h) (fun y n ih h => ?_) l
  rw [once_app, addN_one]
  rcases List.mem_append.mp h with h | h
  · split
    · exact ih h
    · exact List.mem_append_left _ (ih h)
  · have e : s = n := by simpa using h
    subst e
    split
    · rename_i hc; exact List.contains_iff_mem.mp hc
    · exact List.mem_append_right _ (by simp)
theorem flat_names {t : Tm} {s : Str} (h : s ∈ t.flat) : s ∈ t.names := by rw [← Tm.names_once]; exact once_sub h
theorem names_flat {t : Tm} {s : Str} (h : s ∈ t.names) : s ∈ t.flat := by rw [← Tm.names_once] at h; exact once_mem h
theorem Tm.flat_len (t : Tm) : t.flat.length ≤ 3 ^ t.dep := by
  induction t with
  | nm s => simp [Tm.flat, Tm.dep]
  | vl v => simp [Tm.flat, Tm.dep]
  | two op a b iha ihb =>
    have p1 : 3 ^ a.dep ≤ 3 ^ max a.dep b.dep := Nat.pow_le_pow_right (by decide) (by omega)
    have p2 : 3 ^ b.dep ≤ 3 ^ max a.dep b.dep := Nat.pow_le_pow_right (by decide) (by omega)
    have e : 3 ^ (1 + max a.dep b.dep) = 3 * 3 ^ max a.dep b.dep := by rw [Nat.pow_add]
    show (a.flat ++ b.flat).length ≤ 3 ^ (1 + max a.dep b.dep)
    rw [e, List.length_append]
    omega
  | nt a iha =>
    have e : 3 ^ (1 + a.dep) = 3 * 3 ^ a.dep := by rw [Nat.pow_add]
    show a.flat.length ≤ 3 ^ (1 + a.dep)
    rw [e]
    omega
  | pk c a b ihc iha ihb =>
    have p0 : 3 ^ c.dep ≤ 3 ^ max (max c.dep a.dep) b.dep := Nat.pow_le_pow_right (by decide) (by omega)
    have p1 : 3 ^ a.dep ≤ 3 ^ max (max c.dep a.dep) b.dep := Nat.pow_le_pow_right (by decide) (by omega)
    have p2 : 3 ^ b.dep ≤ 3 ^ max (max c.dep a.dep) b.dep := Nat.pow_le_pow_right (by decide) (by omega)
    have e : 3 ^ (1 + max (max c.dep a.dep) b.dep) = 3 * 3 ^ max (max c.dep a.dep) b.dep := by rw [Nat.pow_add]
    show (c.flat ++ a.flat ++ b.flat).length ≤ 3 ^ (1 + max (max c.dep a.dep) b.dep)
    rw [e, List.length_append, List.length_append]
    omega
theorem flat_729 {t : Tm} (h : t.dep ≤ 6) : t.flat.length ≤ 729 := by
  have h1 := t.flat_len
  have h2 : 3 ^ t.dep ≤ 3 ^ 6 := Nat.pow_le_pow_right (by decide) h
  have e : (3 : Nat) ^ 6 = 729 := rfl
  omega
def Beh (K : PySem.W.Frag) (H : Hp) : Option Tm → V → Prop
  | some q, v => ToldAt H q v
  | none, v => (∃ s, v = .str s) ∨ isVal v = true
def Tm.beh : Tm → List (Option Tm)
  | .nm _ => []
  | .vl _ => [none]
  | .two _ a b => [none, some a, some b]
  | .nt a => [some a]
  | .pk c a b => [some c, some a, some b]
def flatO : List (Option Tm) → List Str
  | [] => []
  | some q :: l => q.flat ++ flatO l
  | none :: l => flatO l
theorem flatO_app (l : List (Option Tm)) (o : Option Tm) : flatO (l ++ [o]) = flatO l ++ (match o with | some q => q.flat | none => []) := by
  induction l with
  | nil => cases o <;> simp [flatO]
  | cons a l ih => cases a <;> simp [flatO, ih]
theorem Tm.flat_beh (t : Tm) (h : ∀ s, t ≠ .nm s) : flatO t.beh = t.flat := by
  cases t with
  | nm s => exact absurd rfl (h s)
  | vl v => rfl
  | two op a b => simp [Tm.beh, flatO, Tm.flat]
  | nt a => simp [Tm.beh, flatO, Tm.flat]
  | pk c a b => simp [Tm.beh, flatO, Tm.flat]
theorem told_beh {H : Hp} {t : Tm} {u : V} (h : ToldAt H t u) (hg : t.good) (hn : ∀ s, t ≠ .nm s) : ∃ (a : Addr) (w : Str) (xs : List V), u = .ref a ∧ H a = some (.tup (.str w :: xs)) ∧ w ≠ "name" ∧ xs.length = t.beh.length ∧ cutV (.str w :: xs) (some 1) none = xs ∧ xs ≠ [] ∧
    (∀ (i : Nat) (v : V), xs[i]? = some v → ∃ o, t.beh[i]? = some o ∧ Beh K H o v) ∧ ∀ q, some q ∈ t.beh → q.good ∧ q.dep + 1 ≤ t.dep := by
  have i2 : ∀ {x y v : V} {o p : Option Tm}, Beh K H o x → Beh K H p y → ∀ i : Nat, ([x, y] : List V)[i]? = some v → ∃ z, ([o, p] : List (Option Tm))[i]? = some z ∧ Beh K H z v := by
    intro x y v o p h1 h2 i hv
    match i, hv with
    | 0, hv => cases hv; exact ⟨_, rfl, h1⟩
    | 1, hv => cases hv; exact ⟨_, rfl, h2⟩
  have i3 : ∀ {x y z v : V} {o p q : Option Tm}, Beh K H o x → Beh K H p y → Beh K H q z → ∀ i : Nat, ([x, y, z] : List V)[i]? = some v → ∃ r, ([o, p, q] : List (Option Tm))[i]? = some r ∧ Beh K H r v := by
    intro x y z v o p q h1 h2 h3 i hv
    match i, hv with
    | 0, hv => cases hv; exact ⟨_, rfl, h1⟩
    | 1, hv => cases hv; exact ⟨_, rfl, h2⟩
    | 2, hv => cases hv; exact ⟨_, rfl, h3⟩
  cases t with
  | nm s => exact absurd rfl (hn s)
  | vl x =>
    obtain ⟨a, rfl, ha⟩ := h
    refine ⟨a, _, _, rfl, ha, by decide +kernel, rfl, rfl, by simp, fun i v hv => ?_, fun q hq => by simp [Tm.beh] at hq⟩
    match i, hv with
    | 0, hv => cases hv; exact ⟨none, rfl, .inr hg⟩
  | two op p q =>
    obtain ⟨a, v1, v2, rfl, ha, h1, h2⟩ := h
    refine ⟨a, _, _, rfl, ha, by decide +kernel, rfl, rfl, by simp, fun i v hv => i3 (o := none) (p := some p) (q := some q) (.inl ⟨_, rfl⟩) h1 h2 i hv, fun z hz => ?_⟩
    simp only [Tm.beh, List.mem_cons, reduceCtorEq, Option.some.injEq, List.not_mem_nil, or_false, false_or] at hz
    rcases hz with rfl | rfl
    · exact ⟨hg.2.1, Tm.dep_part (by simp [Tm.parts])⟩
    · exact ⟨hg.2.2, Tm.dep_part (by simp [Tm.parts])⟩
  | nt p =>
    obtain ⟨a, v1, rfl, ha, h1⟩ := h
    refine ⟨a, _, _, rfl, ha, by decide +kernel, rfl, rfl, by simp, fun i v hv => ?_, fun z hz => ?_⟩
    · match i, hv with
      | 0, hv => cases hv; exact ⟨some p, rfl, h1⟩
    · simp only [Tm.beh, List.mem_cons, Option.some.injEq, List.not_mem_nil, or_false] at hz
      subst hz
      exact ⟨hg, Tm.dep_part (by simp [Tm.parts])⟩
  | pk c p q =>
    obtain ⟨a, v0, v1, v2, rfl, ha, h0, h1, h2⟩ := h
    refine ⟨a, _, _, rfl, ha, by decide +kernel, rfl, rfl, by simp, fun i v hv => i3 (o := some c) (p := some p) (q := some q) h0 h1 h2 i hv, fun z hz => ?_⟩
    simp only [Tm.beh, List.mem_cons, Option.some.injEq, List.not_mem_nil, or_false] at hz
    rcases hz with rfl | rfl | rfl
    · exact ⟨hg.1, Tm.dep_part (by simp [Tm.parts])⟩
    · exact ⟨hg.2.1, Tm.dep_part (by simp [Tm.parts])⟩
    · exact ⟨hg.2.2, Tm.dep_part (by simp [Tm.parts])⟩
theorem kb_st : kitB "str" "tuple" = some false := by decide +kernel
theorem kb_it : kitB "int" "tuple" = some false := by decide +kernel
theorem kb_bt : kitB "bool" "tuple" = some false := by decide +kernel
theorem beh_none {H : Hp} {v : V} (h : Beh K H none v) : ∃ n : String, TyX K H v (.type n) ∧ kitB n "tuple" = some false := by
  rcases h with ⟨s, rfl⟩ | h
  · exact ⟨_, ty_str s, kb_st⟩
  · cases v with
    | bl b => exact ⟨_, ty_bl b, kb_bt⟩
    | int i => exact ⟨_, ty_int i, kb_it⟩
    | _ => exact absurd h Bool.false_ne_true
theorem Told_tup {H : Hp} {t : Tm} {v : V} (h : ToldAt H t v) : ∃ a xs, v = .ref a ∧ H a = some (.tup xs) := by
  cases t with
  | nm s => obtain ⟨a, h1, h2⟩ := h; exact ⟨a, _, h1, h2⟩
  | vl s => obtain ⟨a, h1, h2⟩ := h; exact ⟨a, _, h1, h2⟩
  | two op p q => obtain ⟨a, _, _, h1, h2, _⟩ := h; exact ⟨a, _, h1, h2⟩
  | nt p => obtain ⟨a, _, h1, h2, _⟩ := h; exact ⟨a, _, h1, h2⟩
  | pk c p q => obtain ⟨a, _, _, _, h1, h2, _⟩ := h; exact ⟨a, _, h1, h2⟩
theorem nat_pow6 {t : Tm} (l : List (Option Tm)) (h : ∀ q, some q ∈ l → q.dep ≤ 6) (hl : l.length ≤ 3) : (flatO l).length ≤ l.length * 729 := by
  induction l with
  | nil => simp [flatO]
  | cons o l ih =>
    have ih' := ih (fun q hq => h q (List.mem_cons_of_mem _ hq)) (by rw [List.length_cons] at hl; omega)
    cases o with
    | none => simp only [flatO, List.length_cons, Nat.succ_mul]; omega
    | some q =>
      have := flat_729 (h q List.mem_cons_self)
      simp only [flatO, List.length_append, List.length_cons, Nat.succ_mul]
      omega
theorem beh_len (t : Tm) : t.beh.length ≤ 3 := by cases t <;> simp [Tm.beh]
theorem RowAt.tu {H H2 : Hp} (e : ∀ a xs, H a = some (.tup xs) → H2 a = some (.tup xs)) {r : Rw} {u : V} (h : RowAt H r u) : RowAt H2 r u := by
  cases r with
  | pl n t => obtain ⟨a, w, h1, h2, h3⟩ := h; exact ⟨a, w, h1, e _ _ h2, h3.keep e⟩
  | vd k n v x => obtain ⟨a, h1, h2⟩ := h; exact ⟨a, h1, e _ _ h2⟩
  | wh n x y => obtain ⟨a, h1, h2⟩ := h; exact ⟨a, h1, e _ _ h2⟩
  | sm ns => obtain ⟨a, p, h1, h2, h3⟩ := h; exact ⟨a, p, h1, e _ _ h2, e _ _ h3⟩
  | cl os nd xs => obtain ⟨a, p, q, h1, h2, h3, h4⟩ := h; exact ⟨a, p, q, h1, e _ _ h2, e _ _ h3, e _ _ h4⟩
theorem str_ok {l : List Str} (h : ∀ s ∈ l, goodN s) : (l.map V.str).all okV = true := by
  rw [List.all_eq_true]
  intro x hx
  obtain ⟨s, hs, rfl⟩ := List.mem_map.mp hx
  exact okT_V (h s hs).2.2
theorem Tm.good_flat : ∀ {t : Tm}, t.good → ∀ s ∈ t.flat, goodN s := by
  intro t
  induction t with
  | nm z => intro g s hs; have : s = z := (by simpa [Tm.flat] using hs); rw [this]; exact g
  | vl v => intro _ s hs; cases hs
  | two op a b iha ihb => intro g s hs; exact (List.mem_append.mp hs).elim (iha g.2.1 s) (ihb g.2.2 s)
  | nt a iha => intro g s hs; exact iha g s hs
  | pk c a b ihc iha ihb => intro g s hs; exact (List.mem_append.mp hs).elim (fun h => (List.mem_append.mp h).elim (ihc g.1 s) (iha g.2.1 s)) (ihb g.2.2 s)
theorem Rw.good_all {r : Rw} (g : r.good) : ∀ s ∈ r.all, goodN s := by
  intro s hs
  cases r with
  | pl n t =>
    rcases List.mem_append.mp hs with h | h
    · have : s = n := by simpa [Rw.tells] using h
      rw [this]; exact g.1
    · exact Tm.good_flat g.2.1 s (names_flat h)
  | vd k n v x =>
    rcases List.mem_append.mp hs with h | h
    · have : s = n := by simpa [Rw.tells] using h
      rw [this]; exact g.2.1
    · have : s = x := by simpa [Rw.names] using h
      rw [this]; exact g.2.2.2
  | wh n x y =>
    rcases List.mem_append.mp hs with h | h
    · have : s = n := by simpa [Rw.tells] using h
      rw [this]; exact g.1
    · have h2 : s ∈ [x, y] := once_mem h
      simp only [List.mem_cons, List.not_mem_nil, or_false] at h2
      rcases h2 with rfl | rfl
      · exact g.2.1
      · exact g.2.2
  | sm ns =>
    rcases List.mem_append.mp hs with h | h
    · cases h
    · exact g.2.2 s (once_mem h)
  | cl os nd xs =>
    rcases List.mem_append.mp hs with h | h
    · exact g.2.2.1 s h
    · exact g.2.2.2.2.2.2 s (once_mem h)
theorem eqL_strs : ∀ {F : List Str}, eqL (F.map V.str) (F.map V.str) = true
  | [] => rfl
  | a :: F => by
    rw [List.map_cons, eqL, eqL_strs, Bool.and_true]
    show (a == a) = true
    exact beq_self_eq_true a
theorem Rw.all_len {r : Rw} (g : r.good) : r.all.length ≤ 1000 := by
  unfold Rw.all
  rw [List.length_append]
  cases r with
  | pl n t => have := names_729 (t := t) (by have := g.2.2; omega); simp only [Rw.tells, Rw.names, List.length_cons, List.length_nil]; omega
  | vd k n v x => simp [Rw.tells, Rw.names]
  | wh n x y => have := once_len [x, y]; simp only [Rw.tells, Rw.names, List.length_cons, List.length_nil] at this ⊢; omega
  | sm ns => have := once_len ns; have := g.2.1; simp only [Rw.tells, Rw.names, List.length_nil]; omega
  | cl os nd xs => have := once_len xs; have := g.2.1; have := g.2.2.2.2.2.1; simp only [Rw.tells, Rw.names]; omega

/-! ### nodes: the plain side -/
open TL (tl)
theorem kb_tl : kitB "tuple" "list" = some false := by decide +kernel
theorem kb_ll : kitB "list" "list" = some true := by decide +kernel
/-- isinstance(x, (list, tuple)) -/
theorem isiLT {H : Hp} {Q : VK} {x : V} {tp : Addr} (h : TyX K H x (.type "tuple") ∨ TyX K H x (.type "list")) (ht : H tp = some (.tup [.ty "list", .ty "tuple"])) (q : Q (.bl true) H) : rIsiT K [x, .ref tp] H Q := by
  rcases h with h | h
  · refine ⟨x, tp, _, _, [.type "list", .type "tuple"], _, rfl, ht, .cons (.ty _) (.cons (.ty _) .nil), h, ?_, q⟩
    exact kitAny_cons (kit_ty kb_tl) (fun _ => kitAny_cons (kit_ty kb_tt) (fun z => by cases z) (fun _ => rfl)) (fun z => by cases z)
  · refine ⟨x, tp, _, _, [.type "list", .type "tuple"], _, rfl, ht, .cons (.ty _) (.cons (.ty _) .nil), h, ?_, q⟩
    exact kitAny_cons (kit_ty kb_ll) (fun z => by cases z) (fun _ => rfl)
theorem forT {H : Hp} {σ : St} {D : Ends} {g : L2.TG} {tb : TS} {a : Addr} {xs : List V} (Pv : Nat → St → Hp → Prop) (h0 : Pv 0 σ H) (hl : ∀ i σ' H', i ≤ xs.length → Pv i σ' H' → SqT K H' a xs)
    (hs : ∀ i x σ' H', xs[i]? = some x → Pv i σ' H' → g x σ' H' fun σ2 H2 => tb { D with nx := Pv (i + 1), ct := Pv (i + 1), bk := D.nx } σ2 H2) (hd : ∀ σ' H', Pv xs.length σ' H' → D.nx σ' H') : ForI (Itt K a) g tb D σ H := for_tup Pv h0 hl hs hd
theorem nodup_take {l : List Str} {i : Nat} {s : Str} (h : (l.take i).Nodup) (hs : l[i]? = some s) (hn : s ∉ l.take i) : (l.take (i + 1)).Nodup := by
  rw [List.take_add_one, hs, List.nodup_append]
  refine ⟨h, by simp, fun a ha b hb e => hn ?_⟩
  have : b = s := by simpa using hb
  rw [← this, ← e]
  exact ha
/-! unlike names -/
def sp_need_names : Sp := fun vs H Q _ => ∃ (p : Addr) (ns : List Str), vs = [.ref p] ∧ H p = some (.tup (ns.map V.str)) ∧ 0 < ns.length ∧ ns.length ≤ 300 ∧ (∀ s ∈ ns, goodN s) ∧ ns.Nodup ∧ RetV .non H Q
theorem ok_need_names (T : Txt K mg Z) : FnOk P w K mg base CX0 3 Z.f_need_names Z.fd_need_names ["things"] sp_need_names := by
  have G_is_pointed := ok_is_pointed (P := P) (w := w) (base := base) T
  refine T.F_need_names.ok sc_need_names (fun vs H Q E h => ?_) (fun cdv AA outer s H vs Q E hr h => ?_)
  · obtain ⟨p, ns, rfl, _⟩ := h
    rfl
  · obtain ⟨p, ns, rfl, gp, h0, hl, hg, hnd, k⟩ := h
    refine ⟨_, (pss_cons (ps_if (PW.pt (pw_or (pt_not (pt_val (pe_callB call_isiT (by rfl) T.n_isinstance (by decide +kernel) (pa_cons (pv 0) (pa_cons (pe_tup (pa_cons (pe_bltn (v := .ty "list") (by rfl) T.n_list (by decide +kernel) rfl) (pa_cons (pe_bltn (v := .ty "tuple") (by rfl) T.n_tuple (by decide +kernel) rfl) pa_nil))) pa_nil))))) (pw_or1 (pt_cmpR op_eq (pe_callB call_len_seq (by rfl) T.n_len (by decide +kernel) (pa_cons (pv 0) pa_nil)) pe_int (nomark _))))) (pss_one ps_never) pss_nil)
      (pss_cons (ps_set (i := 1) sc_need_names.nd rfl (Or.inl rfl) pe_dnewK)
      (pss_one (ps_for PassesOwn.never rfl (pi_tup (pv 0)) (pg_name (i := 2) sc_need_names.nd rfl (Or.inl rfl)) (pss_cons (ps_if (pt_not (pt_val (pe_call G_is_pointed (hr.mono (by omega)) rfl T.g_is_pointed T.F_is_pointed.kp T.b_is_pointed .nil pass0 (pa_cons (pv 2) pa_nil)))) (pss_one ps_never) pss_nil)
      (pss_cons (ps_if (pt_cmpR (op_inDk (hu_of hr)) (pv 2) (pv 1) (by rfl)) (pss_one ps_never) pss_nil)
      (pss_one (ps_dput (hu_of hr) (pv 1) (pv 2) pe_bl rfl)))))))), ?_⟩
    walk_at "ss"
    refine newT fun tp H1 htp e1 g1 => ?_
    walk_at "ss"
    refine isiLT (.inl (ty_tup (e1 _ _ gp))) g1 ?_
    walk_at "ss"
    refine ⟨p, _, rfl, .inr (SqT.of (e1 _ _ gp)), ?_⟩
    walk_at "ss"
    rw [List.length_map]
    refine if_ff (decide_eq_false (fun z => by have := V.int.inj z; omega)) ?_
    walk_at "ss"
    intro ad had
    have e2 : Ex H1 (upd H1 ad (.dK [])) := Ex.new had
    have g2 : upd H1 ad (.dK []) ad = some (.dK []) := upd_same
    generalize upd H1 ad (.dK []) = H2 at e2 g2
    have e12 := e1.trans e2
    have hadH : H ad = none := fresh_back e1 had
    walk_at "ss"
    refine ⟨⟨_, SqT.of (e12 _ _ gp)⟩, forT (xs := ns.map V.str) (fun i σ' G => (∃ v2, σ' = [some (.ref p), some (.ref ad), v2]) ∧ Ex H G ∧ ∃ ka, G ad = some (.dK ka) ∧ ka.length ≤ i ∧ ∀ z, (valV ka (.inr z)).isSome = decide (z ∈ ns.take i)) ⟨⟨_, rfl⟩, e12, [], g2, Nat.le_refl _, fun z => by simp [valV]⟩ (fun i σ' G _ q => SqT.of (q.2.1 _ _ gp)) ?_ ?_⟩
    · rintro i x σ' G hx ⟨⟨v2, rfl⟩, eG, ka, ga, hkl, hka⟩
      rw [List.getElem?_map] at hx
      obtain ⟨s, hs, rfl⟩ := Option.map_eq_some_iff.mp hx
      have hil := (List.getElem?_eq_some_iff.mp hs).1
      have hgs := hg s (List.mem_of_getElem? hs)
      have hsl := hgs.2.1
      have hm : s ∉ ns.take i := fun z => nodup_at hnd hs z (Nat.le_refl _) rfl
      walk_at "ss"
      refine ⟨_, rfl, .inl ⟨s, rfl, by omega, fun H3 e3 => ?_⟩⟩
      rw [hgs.1]
      walk_at "ss"
      refine ⟨ad, _, rfl, dgetK (e3 _ _ ga), ?_⟩
      walk_at "ss"
      rw [hka]
      refine if_ff (decide_eq_false hm) ?_
      walk_at "ss"
      refine ⟨ad, _, rfl, .inl ⟨ka, .inr s, e3 _ _ ga, rfl, Evl.sz_lt (by omega), rfl⟩, ?_⟩
      walk_at "ss"
      have hpl := putK_len ka (.inr s) (.bl true)
      refine ⟨⟨_, rfl⟩, Ex.mut (eG.trans e3) hadH, _, upd_same, by omega, fun z => ?_⟩
      rw [valV_put, List.take_add_one, hs]
      by_cases hz : z = s
      · rw [if_pos (by rw [hz])]
        simp [hz]
      · rw [if_neg (fun e => hz (Sum.inr.inj e)), hka]
        congr 1
        simp [hz]
    · rintro σ' G ⟨⟨v2, rfl⟩, eG, ka, ga, hkl, hka⟩
      walk_at "ss"
      exact k _ eG
/-! the rows -/
def sp_equations_of (Z : Adr) : Sp := fun vs H Q _ => ∃ (p : Addr) (rs : List Rw) (us : List V), vs = [.ref p] ∧ H p = some (.tup us) ∧ Paired (RowAt H) rs us ∧ rs.length ≤ 300 ∧ (∀ r ∈ rs, r.good ∧ (r.kind = 0 → r.names ≠ [])) ∧
  ∀ l evs H2, H l = none → Ex H H2 → H2 l = some (.lst evs) → Paired (fun r (q : V × V) => EqAt Z H2 r q.1 q.2) rs (evs.zip us) → evs.length = us.length → Q (.ref l) H2
theorem paired_ix {α β : Type} {F : α → β → Prop} : ∀ {l : List α} {m : List β}, Paired F l m → ∀ {i : Nat} {b : β}, m[i]? = some b → ∃ a, l[i]? = some a ∧ F a b
  | _, _, .nil, i, b, h => by simp at h
  | _, _, .cons (a := a0) (b := b0) p q, 0, b, h => by
    have e : b0 = b := by simpa using h
    subst e
    exact ⟨a0, rfl, p⟩
  | _, _, .cons p q, i + 1, b, h => by
    obtain ⟨a, h1, h2⟩ := paired_ix q (i := i) (b := b) (by simpa using h)
    exact ⟨a, by simpa using h1, h2⟩
theorem EqAt.cls {H : Hp} {r : Rw} {v u : V} (h : EqAt Z H r v u) : ∃ a dx fs, v = .ref a ∧ H a = some (.ins (clsK Z r.kind) dx fs) ∧ MCE Z (clsK Z r.kind) ∧ offE fs := by
  obtain ⟨a, dx, fs, h1, h2, _, _, h5, _⟩ := h
  exact ⟨a, dx, fs, h1, h2, ⟨_, r.kind_lt, rfl⟩, h5.1⟩
theorem row_names_good {r : Rw} (g : r.good) : ∀ s ∈ r.names, goodN s := fun s hs => Rw.good_all g s (List.mem_append_right _ hs)
theorem row_tells_good {r : Rw} (g : r.good) : ∀ s ∈ r.tells, goodN s := fun s hs => Rw.good_all g s (List.mem_append_left _ hs)
theorem re_term0 {r : Rw} {v u : V} {H : Hp} {Q : VK} (hk : r.kind ≠ 0) (q : Q .non H) : Re_term Z r v u H Q := by
  cases r with
  | pl n t => exact absurd rfl hk
  | _ => exact q
theorem re_term1 {r : Rw} {v u : V} {H : Hp} {Q : VK} (hk : r.kind = 0) (q : ∀ a, Q (.ref a) H) : Re_term Z r v u H Q := by
  cases r with
  | pl n t =>
    intro tv htv
    obtain ⟨a, dx, fs, rfl, _⟩ := htv.cls
    exact q a
  | vd k n v x => rcases k with _ | _ | k <;> cases hk
  | _ => cases hk
theorem paired_take {α β : Type} {F : α → β → Prop} : ∀ {l : List α} {m : List β}, Paired F l m → ∀ i : Nat, Paired F (l.take i) (m.take i)
  | _, _, .nil, i => by simp; exact .nil
  | _, _, .cons p q, 0 => .nil
  | _, _, .cons p q, i + 1 => .cons p (paired_take q i)
theorem ok_equations_of (T : Txt K mg Z)  : FnOk P w K mg base CX0 (26) Z.f_equations_of Z.fd_equations_of ["rows"] (sp_equations_of Z) := by
  have G_equation_of := ok_equation_of (P := P) (w := w) (base := base) T
  refine T.F_equations_of.ok sc_equations_of (fun vs H Q E h => ?_) (fun cdv AA outer s H vs Q E hr h => ?_)
  · obtain ⟨p, rs, us, rfl, _⟩ := h
    rfl
  · obtain ⟨p, rs, us, rfl, gp, hp, hl, hg, k⟩ := h
    have GME_term := gmE_term (P := P) (w := w) (base := base) T
    have GME_names := gmE_names (P := P) (w := w) (base := base) T
    refine ⟨_, (pss_cons (ps_if (pt_not (pt_val (pe_callB call_isiT (by rfl) T.n_isinstance (by decide +kernel) (pa_cons (pv 0) (pa_cons (pe_tup (pa_cons (pe_bltn (v := .ty "list") (by rfl) T.n_list (by decide +kernel) rfl) (pa_cons (pe_bltn (v := .ty "tuple") (by rfl) T.n_tuple (by decide +kernel) rfl) pa_nil))) pa_nil))))) (pss_one ps_never) pss_nil)
      (pss_cons (ps_set (i := 1) sc_equations_of.nd rfl (Or.inl rfl) (pe_lst pa_nil))
      (pss_cons (ps_for PassesOwn.never rfl (pi_tup (pv 0)) (pg_name (i := 2) sc_equations_of.nd rfl (Or.inl rfl)) (pss_cons (ps_set (i := 3) sc_equations_of.nd rfl (Or.inl rfl) (pe_call G_equation_of (hr.mono (by omega)) rfl T.g_equation_of T.F_equation_of.kp T.b_equation_of .nil pass0 (pa_cons (pv 2) pa_nil)))
      (Evl.pss_cut (ps_if (PW.pt (pw_and (pt_cmpR op_notN (pe_methP0 (pv 3) GME_term (hr.mono (by omega)) pass0) pe_non (nomark _)) (pw_and1 (pt_cmpR (op_eqD hr.units) (pe_methP0 (pv 3) GME_names (hr.mono (by omega)) pass0) (pe_lst pa_nil) (nomark _))))) (pss_one ps_never) pss_nil)
      (pss_one (ps_expr (pe_bm PySem.F.plainAttrs_list PySem.F.slot_list_append PySem.F.type_list_append mt_append (pv 1) (pa_cons (pv 3) pa_nil)))))))
      (pss_one (ps_ret (pv 1)))))), ?_⟩
    walk_at "ss"
    refine newT fun tp H1 htp e1 g1 => ?_
    walk_at "ss"
    refine isiLT (.inl (ty_tup (e1 _ _ gp))) g1 ?_
    walk_at "ss"
    refine newL fun fd H2 hfd e2 g2 => ?_
    have e12 := e1.trans e2
    have hfdH : H fd = none := fresh_back e1 hfd
    walk_at "ss"
    refine ⟨⟨_, SqT.of (e12 _ _ gp)⟩, forT (xs := us) (fun i σ' G => (∃ v2 v3, σ' = [some (.ref p), some (.ref fd), v2, v3]) ∧ Ex H G ∧ ∃ evs, G fd = some (.lst evs) ∧ evs.length = i ∧ Paired (fun r (q : V × V) => EqAt Z G r q.1 q.2) (rs.take i) (evs.zip (us.take i))) ⟨⟨_, _, rfl⟩, e12, [], g2, rfl, .nil⟩ (fun i σ' G _ q => SqT.of (q.2.1 _ _ gp)) ?_ ?_⟩
    · rintro i x σ' G hx ⟨⟨v2, v3, rfl⟩, eG, evs, gf, hel, hpr⟩
      obtain ⟨r, hr2, hR⟩ := paired_ix hp hx
      obtain ⟨hgr, hpl⟩ := hg r (List.mem_of_getElem? hr2)
      have hil := (List.getElem?_eq_some_iff.mp hr2).1
      walk_at "ss"
      refine ⟨r, x, rfl, hR.up eG, hgr, fun v H3 e3 hE => ?_⟩
      walk_at "ss"
      obtain ⟨a, dx, fs, rfl, ha, hM, o1, o2, o3, o4, o5⟩ := hE.cls
      refine c_cut (M := fun σ' G' => σ' = [some (.ref p), some (.ref fd), some x, some (.ref a)] ∧ Ex H3 G') ?_ ?_
      · walk_at "ss"
        refine ⟨a, _, dx, fs, rfl, ha, hM, o4, ?_⟩
        walk_at "ss"
        refine ⟨r, _, _, rfl, hE, hgr, rfl, ?_⟩
        by_cases hk0 : r.kind = 0
        · refine re_term1 hk0 fun tv => ?_
          walk_at "ss"
          refine if_tt (by rfl) ?_
          walk_at "ss"
          refine ⟨a, _, dx, fs, rfl, ha, hM, o3, ?_⟩
          walk_at "ss"
          refine ⟨r, _, _, rfl, hE, hgr, rfl, fun l2 H4 hl2 e4 g4 => ?_⟩
          walk_at "ss"
          refine newL fun l3 H5 hl3 e5 g5 => ?_
          have hno : r.names ≠ [] := hpl hk0
          have hok : (r.names.map V.str).all okV = true := by
            rw [List.all_eq_true]
            intro y hy
            obtain ⟨s, hs, rfl⟩ := List.mem_map.mp hy
            exact okT_V (row_names_good hgr s hs).2.2
          refine c_eqLs (SqL.of (e5 _ _ g4)) (SqL.of g5) hok rfl ?_
          have hf : eqL (r.names.map V.str) [] = false := by
            cases hn : r.names with
            | nil => exact absurd hn hno
            | cons a l => rfl
          rw [hf]
          walk_at "ss"
          exact e4.trans e5
        · refine re_term0 hk0 ?_
          walk_at "ss"
          refine if_ff (by rfl) ?_
          walk_at "ss"
          exact Ex.refl _
      · rintro σ' G4 ⟨rfl, e4⟩
        have e34 := e3.trans e4
        walk_at "ss"
        refine ⟨.inl ⟨rfl, _, SqL.of (e34 _ _ gf)⟩, ?_⟩
        walk_at "ss"
        refine ⟨fd, _, _, rfl, rfl, e34 _ _ gf, Evl.sz_lt (by omega), ?_⟩
        walk_at "ss"
        have NU : NL G4 (upd G4 fd (.lst (evs ++ [.ref a]))) := NL.upd (e34 _ _ gf)
        refine ⟨⟨_, _, rfl⟩, Ex.mut (eG.trans e34) hfdH, evs ++ [.ref a], upd_same, by rw [List.length_append, hel]; rfl, ?_⟩
        have hul : (us.take i).length = i := by
          rw [List.length_take]
          have := (List.getElem?_eq_some_iff.mp hx).1
          omega
        rw [List.take_add_one, hr2, List.take_add_one, hx]
        show Paired _ (rs.take i ++ [r]) ((evs ++ [V.ref a]).zip (us.take i ++ [x]))
        rw [List.zip_append (by rw [hel, hul])]
        exact paired_snoc (b := (V.ref a, x)) ((hE.up e4).nl NU) (paired_up (fun r q h => (h.up e34).nl NU) hpr)
    · rintro σ' G ⟨⟨v2, v3, rfl⟩, eG, evs, gf, hel, hpr⟩
      walk_at "ss"
      have hlen := paired_len hp
      rw [List.take_length, List.take_of_length_le (by omega)] at hpr
      exact k fd evs G hfdH eG gf hpr hel

/-! ### the class of nodes -/
open TL (tl)
structure Nd where
  nm : Str
  ins : List Str
  outs : List Str
  rows : List Rw
def Nd.told (n : Nd) : List Str := n.rows.flatMap Rw.tells
def Nd.names (n : Nd) : List Str := n.ins ++ n.told
structure Nd.good (n : Nd) : Prop where
  nm : isName n.nm = true ∧ n.nm.length ≤ 8 ∧ OkT n.nm
  in0 : 0 < n.ins.length
  in1 : n.ins.length ≤ 300
  inG : ∀ s ∈ n.ins, goodN s
  out0 : 0 < n.outs.length
  out1 : n.outs.length ≤ 300
  outG : ∀ s ∈ n.outs, goodN s ∧ s ∈ n.told
  outN : n.outs.Nodup
  all : n.names.Nodup
  all1 : n.names.length ≤ 1000
  row1 : n.rows.length ≤ 300
  row : ∀ r ∈ n.rows, r.good ∧ (r.kind = 0 → r.names ≠ []) ∧ ∀ s ∈ r.names, s ∈ n.names
def nfs (nm : Str) (li lo lr td : Addr) : List (Str × V) := [("name", .str nm), ("kept_inputs", .ref li), ("kept_outs", .ref lo), ("kept_rows", .ref lr), ("tellers", .ref td)]
/-- who tells each name -/
def telR (rs : List Rw) (evs : List V) : List (Key × V) := (rs.zip evs).flatMap fun p => p.1.tells.map fun s => ((.inr s : Key), p.2)
def telK (ins : List Str) (rs : List Rw) (evs : List V) : List (Key × V) := (ins.map fun s => ((.inr s : Key), V.non)) ++ telR rs evs
/-- the thing v is the node n -/
def NdAt (Z : Adr) (H : Hp) (n : Nd) (v : V) : Prop := ∃ a dx li lo lr td evs us, v = .ref a ∧ H a = some (.ins Z.c_Node dx (nfs n.nm li lo lr td)) ∧ H li = some (.lst (n.ins.map V.str)) ∧ H lo = some (.lst (n.outs.map V.str)) ∧ H lr = some (.lst evs) ∧ H td = some (.dK (telK n.ins n.rows evs)) ∧ Paired (fun r (q : V × V) => EqAt Z H r q.1 q.2) n.rows (evs.zip us) ∧ evs.length = us.length
theorem NdAt.up {H H2 : Hp} {n : Nd} {v : V} (h : NdAt Z H n v) (e : Ex H H2) : NdAt Z H2 n v := by
  obtain ⟨a, dx, li, lo, lr, td, evs, us, h1, h2, h3, h4, h5, h6, h7, h8⟩ := h
  exact ⟨a, dx, li, lo, lr, td, evs, us, h1, e _ _ h2, e _ _ h3, e _ _ h4, e _ _ h5, e _ _ h6, paired_up (fun r q h => h.up e) h7, h8⟩
/-- the thing u is the tuple by which the node n is told -/
def NdT (H : Hp) (n : Nd) (u : V) : Prop := ∃ a p q t us, u = .ref a ∧ H a = some (.tup [.str n.nm, .ref p, .ref q, .ref t]) ∧ H p = some (.tup (n.ins.map V.str)) ∧ H q = some (.tup (n.outs.map V.str)) ∧ H t = some (.tup us) ∧ Paired (RowAt H) n.rows us
theorem NdT.up {H H2 : Hp} {n : Nd} {u : V} (h : NdT H n u) (e : Ex H H2) : NdT H2 n u := by
  obtain ⟨a, p, q, t, us, h1, h2, h3, h4, h5, h6⟩ := h
  exact ⟨a, p, q, t, us, h1, e _ _ h2, e _ _ h3, e _ _ h4, e _ _ h5, paired_up (fun r q h => h.up e) h6⟩
theorem EqAt.it {H H2 : Hp} {r : Rw} {v u : V} (h : EqAt Z H r v u) (ei : InsK H H2) (et : TupK H H2) : EqAt Z H2 r v u := by
  obtain ⟨a, dx, fs, h1, h2, h3, h4, h5, h6⟩ := h
  refine ⟨a, dx, fs, h1, ei _ _ _ _ h2, h3.tu et, h4, h5, fun n t e => ?_⟩
  obtain ⟨tv, h7, h8⟩ := h6 n t e
  exact ⟨tv, h7, h8.keep ei⟩
theorem ins_dk {H G : Hp} {d : Addr} {kv : List (Key × V)} (x : ExB d H G) (hd : H d = some (.dK kv)) : InsK H G := fun a C dx fs h => x _ _ (ne_of h hd (fun z => by cases z)) h
theorem tup_dk {H G : Hp} {d : Addr} {kv : List (Key × V)} (x : ExB d H G) (hd : H d = some (.dK kv)) : TupK H G := fun a xs h => x _ _ (ne_of h hd (fun z => by cases z)) h
theorem lst_dk {H G : Hp} {d a : Addr} {kv : List (Key × V)} {xs : List V} (x : ExB d H G) (hd : H d = some (.dK kv)) (h : H a = some (.lst xs)) : G a = some (.lst xs) := x _ _ (ne_of h hd (fun z => by cases z)) h
/-- a node in the making -/
def NdMk (Z : Adr) (H : Hp) (n : Nd) (a li lo lr td : Addr) (evs us : List V) : Prop := (∃ dx, H a = some (.ins Z.c_Node dx (nfs n.nm li lo lr td))) ∧ H li = some (.lst (n.ins.map V.str)) ∧ H lo = some (.lst (n.outs.map V.str)) ∧ H lr = some (.lst evs) ∧ Paired (fun r (q : V × V) => EqAt Z H r q.1 q.2) n.rows (evs.zip us) ∧ evs.length = us.length
theorem NdMk.up {H H2 : Hp} {n : Nd} {a li lo lr td : Addr} {evs us : List V} (h : NdMk Z H n a li lo lr td evs us) (e : Ex H H2) : NdMk Z H2 n a li lo lr td evs us := by
  obtain ⟨⟨dx, h1⟩, h2, h3, h4, h5, h6⟩ := h
  exact ⟨⟨dx, e _ _ h1⟩, e _ _ h2, e _ _ h3, e _ _ h4, paired_up (fun r q h => h.up e) h5, h6⟩
theorem NdMk.dk {H H2 : Hp} {n : Nd} {a li lo lr td d : Addr} {evs us : List V} {kv : List (Key × V)} (h : NdMk Z H n a li lo lr td evs us) (x : ExB d H H2) (hd : H d = some (.dK kv)) : NdMk Z H2 n a li lo lr td evs us := by
  obtain ⟨⟨dx, h1⟩, h2, h3, h4, h5, h6⟩ := h
  exact ⟨⟨dx, ins_dk x hd _ _ _ _ h1⟩, lst_dk x hd h2, lst_dk x hd h3, lst_dk x hd h4, paired_up (fun r q h => h.it (ins_dk x hd) (tup_dk x hd)) h5, h6⟩
theorem tcN (T : Txt K mg Z) : Cls K Z.c_Node ∧ ∀ f ∈ (["name", "kept_inputs", "kept_outs", "kept_rows", "tellers"] : List Str), NoAttr K Z.c_Node f := ⟨(tcB_ok T.x_Node).cl, (tcB_ok T.x_Node).no⟩
theorem split_at {α : Type} {l : List α} {i : Nat} {a : α} (h : l[i]? = some a) : l = l.take i ++ a :: l.drop (i + 1) := by
  have h1 := (List.getElem?_eq_some_iff.mp h)
  obtain ⟨hl, he⟩ := h1
  conv => lhs; rw [← List.take_append_drop i l]
  rw [List.drop_eq_getElem_cons hl, he]
theorem nodup_mid {l m : List Str} {s : Str} (h : (l ++ s :: m).Nodup) : s ∉ l := fun hs => (List.nodup_append.mp h).2.2 s hs s List.mem_cons_self rfl
theorem names_split {n : Nd} {i j : Nat} {r : Rw} {s : Str} (hn : n.names.Nodup) (hi : n.rows[i]? = some r) (hj : r.tells[j]? = some s) : s ∉ n.ins ++ (n.rows.take i).flatMap Rw.tells ++ r.tells.take j := by
  refine nodup_mid (m := r.tells.drop (j + 1) ++ (n.rows.drop (i + 1)).flatMap Rw.tells) ?_
  have e : n.names = n.ins ++ (n.rows.take i).flatMap Rw.tells ++ r.tells.take j ++ s :: (r.tells.drop (j + 1) ++ (n.rows.drop (i + 1)).flatMap Rw.tells) := by
    unfold Nd.names Nd.told
    conv => lhs; rw [split_at hi]
    rw [List.flatMap_append, List.flatMap_cons]
    conv => lhs; rw [split_at hj]
    simp only [List.append_assoc, List.cons_append]
  rw [← e]
  exact hn
theorem telR_keys : ∀ {rs : List Rw} {evs : List V}, rs.length = evs.length → (telR rs evs).map (·.1) = (rs.flatMap Rw.tells).map (Sum.inr : Str → Key)
  | [], [], _ => rfl
  | r :: rs, v :: evs, h => by
    have ih := telR_keys (rs := rs) (evs := evs) (by simpa using h)
    unfold telR at ih ⊢
    rw [List.zip_cons_cons, List.flatMap_cons, List.map_append, ih, List.flatMap_cons, List.map_append, List.map_map]
    rfl
theorem telK_keys {ins : List Str} {rs : List Rw} {evs : List V} (h : rs.length = evs.length) : (telK ins rs evs).map (·.1) = (ins ++ rs.flatMap Rw.tells).map (Sum.inr : Str → Key) := by
  unfold telK
  rw [List.map_append, telR_keys h, List.map_map, List.map_append]
  rfl
theorem telK_snoc {ins : List Str} {rs : List Rw} {evs : List V} {r : Rw} {v : V} (h : rs.length = evs.length) : telK ins (rs ++ [r]) (evs ++ [v]) = telK ins rs evs ++ r.tells.map fun s => ((.inr s : Key), v) := by
  unfold telK telR
  rw [List.zip_append h, List.flatMap_append, List.append_assoc]
  simp
theorem valV_nokey {kv : List (Key × V)} {s : Str} {l : List Str} (hk : kv.map (·.1) = l.map (Sum.inr : Str → Key)) (hs : s ∉ l) : valV kv (.inr s) = none := by
  cases hv : valV kv (.inr s) with
  | none => rfl
  | some v =>
    have h1 : (Sum.inr s : Key) ∈ kv.map (·.1) := valV_in hv
    rw [hk] at h1
    obtain ⟨z, hz, he⟩ := List.mem_map.mp h1
    have : z = s := Sum.inr.inj he
    subst this
    exact absurd hz hs
def sp_take (Z : Adr) : Sp := fun vs H Q _ => ∃ n a li lo lr td evs us, vs = [.ref a] ∧ NdMk Z H n a li lo lr td evs us ∧ H td = some (.dK []) ∧ n.good ∧ ∀ H2, ExB td H H2 → H2 td = some (.dK (telK n.ins n.rows evs)) → Q .non H2
theorem ok_Node_take_tellers (T : Txt K mg Z)  : FnOk P w K mg base CX0 (12) Z.f_Node_take_tellers Z.fd_Node_take_tellers ["self"] (sp_take Z) := by
  refine T.F_Node_take_tellers.ok sc_Node_take_tellers (fun vs H Q E h => ?_) (fun cdv AA outer s H vs Q E hr h => ?_)
  · obtain ⟨n, a, li, lo, lr, td, evs, us, rfl, _⟩ := h
    rfl
  · obtain ⟨n, a, li, lo, lr, td, evs, us, rfl, hM, gtd, hg, k⟩ := h
    have GME_tells := gmE_tells (P := P) (w := w) (base := base) T
    obtain ⟨cN, nA⟩ := tcN T
    refine ⟨_, (Evl.pss_cut (ps_for PassesOwn.never rfl (pi_list (pe_fld (pv 0) (by rfl))) (pg_name (i := 1) sc_Node_take_tellers.nd rfl (Or.inl rfl)) (pss_one (ps_dput (hu_of hr) (pe_fld (pv 0) (by rfl)) (pv 1) pe_non rfl)))
      (pss_one (ps_for PassesOwn.never rfl (pi_list (pe_fld (pv 0) (by rfl))) (pg_name (i := 2) sc_Node_take_tellers.nd rfl (Or.inl rfl)) (pss_one (ps_for PassesOwn.never rfl (pi_list (pe_methP0 (pv 2) GME_tells (hr.mono (by omega)) pass0)) (pg_name (i := 1) sc_Node_take_tellers.nd rfl (Or.inl rfl)) (pss_cons (ps_if (pt_cmpR (op_inDk (hu_of hr)) (pv 1) (pe_fld (pv 0) (by rfl)) (by rfl)) (pss_one ps_never) pss_nil)
      (pss_one (ps_dput (hu_of hr) (pe_fld (pv 0) (by rfl)) (pv 1) (pv 2) rfl)))))))), ?_⟩
    walk_at "ss"
    refine c_cut (M := fun σ' G => (∃ v1 v2, σ' = [some (.ref a), v1, v2]) ∧ ExB td H G ∧ G td = some (.dK (n.ins.map fun s => ((.inr s : Key), V.non)))) ?_ ?_
    · walk_at "ss"
      obtain ⟨⟨dx, h1⟩, h2, h3, h4, h5, h6⟩ := id hM
      refine ⟨a, _, dx, _, _, rfl, h1, cN, nA _ (by simp), rfl, ?_⟩
      walk_at "ss"
      refine ⟨⟨_, SqL.of h2⟩, forL (xs := n.ins.map V.str) (fun i σ' G => (∃ v1 v2, σ' = [some (.ref a), v1, v2]) ∧ ExB td H G ∧ G td = some (.dK ((n.ins.take i).map fun s => ((.inr s : Key), V.non)))) ⟨⟨_, _, rfl⟩, ExB.refl _ _, gtd⟩ (fun i σ' G _ q => SqL.of (lst_dk q.2.1 gtd h2)) ?_ ?_⟩
      · rintro i x σ' G hx ⟨⟨v1, v2, rfl⟩, xG, gG⟩
        rw [List.getElem?_map] at hx
        obtain ⟨s, hs, rfl⟩ := Option.map_eq_some_iff.mp hx
        have hil := (List.getElem?_eq_some_iff.mp hs).1
        have h300 := hg.in1
        walk_at "ss"
        refine ⟨a, _, dx, _, _, rfl, ins_dk xG gtd _ _ _ _ h1, cN, nA _ (by simp), rfl, ?_⟩
        walk_at "ss"
        refine ⟨td, _, rfl, .inl ⟨_, .inr s, gG, rfl, Evl.sz_lt (by rw [List.length_map, List.length_take]; omega), rfl⟩, ?_⟩
        walk_at "ss"
        refine ⟨⟨_, _, rfl⟩, xG.trans ExB.upd, ?_⟩
        rw [upd_same, putK_fresh, List.take_add_one, hs, List.map_append]
        · rfl
        · intro hin
          rw [List.map_map] at hin
          obtain ⟨z, hz, he⟩ := List.mem_map.mp hin
          have : z = s := Sum.inr.inj he
          subst this
          have hnd : n.ins.Nodup := (List.nodup_append.mp hg.all).1
          exact nodup_at hnd hs hz (Nat.le_refl _) rfl
      · rintro σ' G ⟨⟨v1, v2, rfl⟩, xG, gG⟩
        rw [List.length_map, List.take_length] at gG
        walk_at "ss"
        exact ⟨⟨_, _, rfl⟩, xG, gG⟩
    · rintro σ' G1 ⟨⟨v1, v2, rfl⟩, x1, g1⟩
      obtain ⟨⟨dx, h1⟩, h2, h3, h4, h5, h6⟩ := id (hM.dk x1 gtd)
      walk_at "ss"
      refine ⟨a, _, dx, _, _, rfl, h1, cN, nA _ (by simp), rfl, ?_⟩
      walk_at "ss"
      have hlr : n.rows.length = evs.length := by have := paired_len h5; rw [List.length_zip, h6] at this; omega
      refine ⟨⟨_, SqL.of h4⟩, forL (xs := evs) (fun i σ' G => (∃ v1 v2, σ' = [some (.ref a), v1, v2]) ∧ ExB td G1 G ∧ G td = some (.dK (telK n.ins (n.rows.take i) (evs.take i)))) ⟨⟨_, _, rfl⟩, ExB.refl _ _, by rw [g1]; simp [telK, telR]⟩ (fun i σ' G _ q => SqL.of (lst_dk q.2.1 g1 h4)) ?_ ?_⟩
      · rintro i v σ' G hv ⟨⟨v1, v2, rfl⟩, xG, gG⟩
        have hil := (List.getElem?_eq_some_iff.mp hv).1
        have hz : (evs.zip us)[i]? = some (v, us[i]'(by omega)) := by
          rw [List.getElem?_zip_eq_some]
          exact ⟨hv, List.getElem?_eq_getElem (by omega)⟩
        obtain ⟨r, hr2, hE1⟩ := paired_ix h5 hz
        have hE : EqAt Z G r v _ := hE1.it (ins_dk xG g1) (tup_dk xG g1)
        have hgr := (hg.row r (List.mem_of_getElem? hr2)).1
        have hall := hg.all1
        obtain ⟨a2, dx2, fs2, rfl, ha2, hM2, o1, o2, o3, o4, o5⟩ := hE.cls
        have hrt : (n.rows.take i).length = (evs.take i).length := by rw [List.length_take, List.length_take, hlr]
        walk_at "ss"
        refine ⟨a2, _, dx2, fs2, rfl, ha2, hM2, o2, ?_⟩
        walk_at "ss"
        refine ⟨r, _, _, rfl, hE, hgr, rfl, fun l2 G2 hl2 e2 g2 => ?_⟩
        have ntl : l2 ≠ td := (ne_of_none gG hl2).symm
        walk_at "ss"
        refine ⟨⟨_, SqL.of g2⟩, forL (xs := r.tells.map V.str) (fun j σ' G' => (∃ v1, σ' = [some (.ref a), v1, some (.ref a2)]) ∧ ExB td G1 G' ∧ G' l2 = some (.lst (r.tells.map V.str)) ∧ G' td = some (.dK (telK n.ins (n.rows.take i) (evs.take i) ++ (r.tells.take j).map fun s => ((.inr s : Key), V.ref a2)))) ⟨⟨_, rfl⟩, xG.trans (ExB.of e2), g2, by rw [List.take_zero, List.map_nil, List.append_nil]; exact e2 _ _ gG⟩ (fun j σ' G' _ q => SqL.of q.2.2.1) ?_ ?_⟩
        · rintro j x σ' G' hx ⟨⟨v1, rfl⟩, xG', gl', gt'⟩
          rw [List.getElem?_map] at hx
          obtain ⟨s, hs, rfl⟩ := Option.map_eq_some_iff.mp hx
          have hkeys : (telK n.ins (n.rows.take i) (evs.take i) ++ (r.tells.take j).map fun s => ((.inr s : Key), V.ref a2)).map (·.1) = (n.ins ++ (n.rows.take i).flatMap Rw.tells ++ r.tells.take j).map (Sum.inr : Str → Key) := by
            rw [List.map_append, telK_keys hrt, List.map_map, List.map_append (l₁ := n.ins ++ (n.rows.take i).flatMap Rw.tells)]
            rfl
          have hno := valV_nokey hkeys (names_split hg.all hr2 hs)
          have hlen : (telK n.ins (n.rows.take i) (evs.take i) ++ (r.tells.take j).map fun s => ((.inr s : Key), V.ref a2)).length ≤ 1000 := by
            have h1 := congrArg List.length hkeys
            rw [List.length_map, List.length_map] at h1
            rw [h1]
            refine Nat.le_trans ?_ hall
            have e : n.names = (n.ins ++ (n.rows.take i).flatMap Rw.tells ++ r.tells.take j) ++ (r.tells.drop j ++ (n.rows.drop (i + 1)).flatMap Rw.tells) := by
              unfold Nd.names Nd.told
              conv => lhs; rw [split_at hr2]
              rw [List.flatMap_append, List.flatMap_cons]
              conv => lhs; rw [← List.take_append_drop j r.tells]
              simp only [List.append_assoc]
            rw [e, List.length_append (as := n.ins ++ (n.rows.take i).flatMap Rw.tells ++ r.tells.take j)]
            omega
          walk_at "ss"
          refine ⟨a, _, dx, _, _, rfl, ins_dk xG' g1 _ _ _ _ h1, cN, nA _ (by simp), rfl, ?_⟩
          walk_at "ss"
          refine ⟨td, _, rfl, dgetK gt', ?_⟩
          rw [hno]
          walk_at "ss"
          refine if_ff rfl ?_
          walk_at "ss"
          refine ⟨a, _, dx, _, _, rfl, ins_dk xG' g1 _ _ _ _ h1, cN, nA _ (by simp), rfl, ?_⟩
          walk_at "ss"
          refine ⟨td, _, rfl, .inl ⟨_, .inr s, gt', rfl, Evl.sz_lt (by omega), rfl⟩, ?_⟩
          walk_at "ss"
          refine ⟨⟨_, rfl⟩, xG'.trans ExB.upd, by rw [upd_ne ntl]; exact gl', ?_⟩
          rw [upd_same, putK_new _ hno, List.take_add_one, hs, List.map_append, List.append_assoc]
          rfl
        · rintro σ' G' ⟨⟨v1, rfl⟩, xG', gl', gt'⟩
          walk_at "ss"
          refine ⟨⟨_, _, rfl⟩, xG', ?_⟩
          rw [gt', List.length_map, List.take_length, List.take_add_one, hr2, List.take_add_one, hv]
          show _ = some (HO.dK (telK n.ins (n.rows.take i ++ [r]) (evs.take i ++ [V.ref a2])))
          rw [telK_snoc hrt]
      · rintro σ' G ⟨⟨v1, v2, rfl⟩, xG, gG⟩
        rw [List.take_length, ← hlr, List.take_length] at gG
        walk_at "ss"
        exact k _ (x1.trans xG) gG
/-! what is mentioned is told -/
def sp_need_told (Z : Adr) : Sp := fun vs H Q _ => ∃ n a li lo lr td evs us, vs = [.ref a] ∧ NdMk Z H n a li lo lr td evs us ∧ H td = some (.dK (telK n.ins n.rows evs)) ∧ n.good ∧ RetV .non H Q
theorem valV_haskey {kv : List (Key × V)} {s : Str} {l : List Str} (hk : kv.map (·.1) = l.map (Sum.inr : Str → Key)) (hs : s ∈ l) : ∃ v, valV kv (.inr s) = some v := by
  cases hv : valV kv (.inr s) with
  | some v => exact ⟨v, rfl⟩
  | none =>
    have h1 : (Sum.inr s : Key) ∈ kv.map (·.1) := by rw [hk]; exact List.mem_map.mpr ⟨s, hs, rfl⟩
    obtain ⟨p, hp, he⟩ := List.mem_map.mp h1
    exfalso
    clear h1 hk
    induction kv with
    | nil => cases hp
    | cons q r ih =>
      by_cases e : q.1 = (Sum.inr s : Key)
      · rw [valV_pos e] at hv
        cases hv
      · rw [valV_neg e] at hv
        rcases List.mem_cons.mp hp with hp | hp
        · subst hp
          exact e he
        · exact ih hv hp
theorem valV_mem0' {kv : List (Key × V)} {k : Key} {v : V} (h : valV kv k = some v) : (k, v) ∈ kv := by
  induction kv with
  | nil => cases h
  | cons p r ih =>
    by_cases e : p.1 = k
    · rw [valV_pos e] at h
      have : p = (k, v) := by rw [← e, ← Option.some.inj h]
      rw [this]
      exact List.mem_cons_self
    · rw [valV_neg e] at h
      exact List.mem_cons_of_mem _ (ih h)
theorem telR_ref {Z : Adr} {H : Hp} : ∀ {rs : List Rw} {evs us : List V}, Paired (fun r (q : V × V) => EqAt Z H r q.1 q.2) rs (evs.zip us) → evs.length = us.length → ∀ p ∈ telR rs evs, ∃ a, p.2 = .ref a
  | [], [], _, _, _, p, hp => by cases hp
  | r :: rs, v :: evs, u :: us, h, hl, p, hp => by
    rw [List.zip_cons_cons] at h
    cases h with
    | cons h1 h2 =>
      unfold telR at hp
      rw [List.zip_cons_cons, List.flatMap_cons] at hp
      rcases List.mem_append.mp hp with hp | hp
      · obtain ⟨s, _, rfl⟩ := List.mem_map.mp hp
        obtain ⟨a, dx, fs, e, _⟩ := h1.cls
        exact ⟨a, e⟩
      · exact telR_ref h2 (by simpa using hl) p hp
  | [], _ :: _, _ :: _, h, _, _, _ => by cases h
  | [], _ :: _, [], _, hl, _, _ => by cases hl
theorem told_ref {H : Hp} {n : Nd} {evs us : List V} {s : Str} (h : Paired (fun r (q : V × V) => EqAt Z H r q.1 q.2) n.rows (evs.zip us)) (hl : evs.length = us.length) (hn : n.names.Nodup) (hs : s ∈ n.told) : ∃ a, valV (telK n.ins n.rows evs) (.inr s) = some (.ref a) := by
  have hlr : n.rows.length = evs.length := by have := paired_len h; rw [List.length_zip, hl] at this; omega
  obtain ⟨v, hv⟩ := valV_haskey (telK_keys (ins := n.ins) hlr) (List.mem_append_right _ hs)
  have hm := valV_mem0' hv
  unfold telK at hm
  rcases List.mem_append.mp hm with hm | hm
  · obtain ⟨z, hz, he⟩ := List.mem_map.mp hm
    have : z = s := Sum.inr.inj (Prod.mk.inj he).1
    subst this
    exact absurd rfl ((List.nodup_append.mp hn).2.2 z hz z hs)
  · obtain ⟨a, e⟩ := telR_ref h hl _ hm
    have e2 : v = .ref a := e
    rw [hv, e2]
    exact ⟨a, rfl⟩
theorem ok_Node_need_told (T : Txt K mg Z)  : FnOk P w K mg base CX0 (14) Z.f_Node_need_told Z.fd_Node_need_told ["self"] (sp_need_told Z) := by
  refine T.F_Node_need_told.ok sc_Node_need_told (fun vs H Q E h => ?_) (fun cdv AA outer s H vs Q E hr h => ?_)
  · obtain ⟨n, a, li, lo, lr, td, evs, us, rfl, _⟩ := h
    rfl
  · obtain ⟨n, a, li, lo, lr, td, evs, us, rfl, hM, gtd, hg, k⟩ := h
    have GME_names := gmE_names (P := P) (w := w) (base := base) T
    obtain ⟨cN, nA⟩ := tcN T
    obtain ⟨⟨dx, h1⟩, h2, h3, h4, h5, h6⟩ := id hM
    have hlr : n.rows.length = evs.length := by have := paired_len h5; rw [List.length_zip, h6] at this; omega
    have hkeys := telK_keys (ins := n.ins) hlr
    refine ⟨_, (Evl.pss_cut (ps_for PassesOwn.never rfl (pi_list (pe_fld (pv 0) (by rfl))) (pg_name (i := 1) sc_Node_need_told.nd rfl (Or.inl rfl)) (pss_one (ps_for PassesOwn.never rfl (pi_list (pe_methP0 (pv 1) GME_names (hr.mono (by omega)) pass0)) (pg_name (i := 2) sc_Node_need_told.nd rfl (Or.inl rfl)) (pss_one (ps_if (pt_cmpR (op_notInDk (hu_of hr)) (pv 2) (pe_fld (pv 0) (by rfl)) (by rfl)) (pss_one ps_never) pss_nil)))))
      (pss_one (ps_for PassesOwn.never rfl (pi_list (pe_fld (pv 0) (by rfl))) (pg_name (i := 2) sc_Node_need_told.nd rfl (Or.inl rfl)) (pss_one (ps_if (pt_cmpR op_isN (pe_dget1 (hu_of hr) (pe_fld (pv 0) (by rfl)) (pv 2) ⟨rfl, rfl, rfl, rfl⟩) pe_non (nomark _)) (pss_one ps_never) pss_nil))))), ?_⟩
    walk_at "ss"
    refine c_cut (M := fun σ' G => (∃ v1 v2, σ' = [some (.ref a), v1, v2]) ∧ Ex H G) ?_ ?_
    · walk_at "ss"
      refine ⟨a, _, dx, _, _, rfl, h1, cN, nA _ (by simp), rfl, ?_⟩
      walk_at "ss"
      refine ⟨⟨_, SqL.of h4⟩, forL (xs := evs) (fun i σ' G => (∃ v1 v2, σ' = [some (.ref a), v1, v2]) ∧ Ex H G) ⟨⟨_, _, rfl⟩, Ex.refl _⟩ (fun i σ' G _ q => SqL.of (q.2 _ _ h4)) ?_ ?_⟩
      · rintro i v σ' G hv ⟨⟨v1, v2, rfl⟩, eG⟩
        have hil := (List.getElem?_eq_some_iff.mp hv).1
        have hz : (evs.zip us)[i]? = some (v, us[i]'(by omega)) := by
          rw [List.getElem?_zip_eq_some]
          exact ⟨hv, List.getElem?_eq_getElem (by omega)⟩
        obtain ⟨r, hr2, hE1⟩ := paired_ix h5 hz
        have hE : EqAt Z G r v _ := hE1.up eG
        obtain ⟨hgr, _, hmen⟩ := hg.row r (List.mem_of_getElem? hr2)
        obtain ⟨a2, dx2, fs2, rfl, ha2, hM2, o1, o2, o3, o4, o5⟩ := hE.cls
        walk_at "ss"
        refine ⟨a2, _, dx2, fs2, rfl, ha2, hM2, o3, ?_⟩
        walk_at "ss"
        refine ⟨r, _, _, rfl, hE, hgr, rfl, fun l2 G2 hl2 e2 g2 => ?_⟩
        walk_at "ss"
        refine ⟨⟨_, SqL.of g2⟩, forL (xs := r.names.map V.str) (fun j σ' G' => (∃ v1 v2, σ' = [some (.ref a), v1, v2]) ∧ Ex G2 G') ⟨⟨_, _, rfl⟩, Ex.refl _⟩ (fun j σ' G' _ q => SqL.of (q.2 _ _ g2)) ?_ ?_⟩
        · rintro j x σ' G' hx ⟨⟨v1, v2, rfl⟩, eG'⟩
          rw [List.getElem?_map] at hx
          obtain ⟨s, hs, rfl⟩ := Option.map_eq_some_iff.mp hx
          obtain ⟨vt, hvt⟩ := valV_haskey hkeys (hmen s (List.mem_of_getElem? hs))
          have E' := eG.trans (e2.trans eG')
          walk_at "ss"
          refine ⟨a, _, dx, _, _, rfl, E' _ _ h1, cN, nA _ (by simp), rfl, ?_⟩
          walk_at "ss"
          refine ⟨td, _, rfl, dgetK (E' _ _ gtd), ?_⟩
          rw [hvt]
          walk_at "ss"
          refine if_ff rfl ?_
          walk_at "ss"
          exact ⟨⟨_, _, rfl⟩, eG'⟩
        · rintro σ' G' ⟨⟨v1, v2, rfl⟩, eG'⟩
          walk_at "ss"
          exact ⟨⟨_, _, rfl⟩, eG.trans (e2.trans eG')⟩
      · rintro σ' G ⟨⟨v1, v2, rfl⟩, eG⟩
        walk_at "ss"
        exact ⟨⟨_, _, rfl⟩, eG⟩
    · rintro σ' G ⟨⟨v1, v2, rfl⟩, eG⟩
      walk_at "ss"
      refine ⟨a, _, dx, _, _, rfl, eG _ _ h1, cN, nA _ (by simp), rfl, ?_⟩
      walk_at "ss"
      refine ⟨⟨_, SqL.of (eG _ _ h3)⟩, forL (xs := n.outs.map V.str) (fun i σ' G => (∃ v1 v2, σ' = [some (.ref a), v1, v2]) ∧ Ex H G) ⟨⟨_, _, rfl⟩, eG⟩ (fun i σ' G _ q => SqL.of (q.2 _ _ h3)) ?_ ?_⟩
      · rintro i x σ' G hx ⟨⟨v1, v2, rfl⟩, eG⟩
        rw [List.getElem?_map] at hx
        obtain ⟨s, hs, rfl⟩ := Option.map_eq_some_iff.mp hx
        obtain ⟨at_, hat⟩ := told_ref h5 h6 hg.all (hg.outG s (List.mem_of_getElem? hs)).2
        walk_at "ss"
        refine ⟨a, _, dx, _, _, rfl, eG _ _ h1, cN, nA _ (by simp), rfl, ?_⟩
        walk_at "ss"
        refine ⟨isD (eG _ _ gtd), ?_⟩
        walk_at "ss"
        refine ⟨_, dgetK (eG _ _ gtd), ?_⟩
        rw [hat]
        walk_at "ss"
        refine if_ff (by rfl) ?_
        walk_at "ss"
        exact ⟨⟨_, _, rfl⟩, eG⟩
      · rintro σ' G ⟨⟨v1, v2, rfl⟩, eG⟩
        walk_at "ss"
        exact k _ eG

/-! ### nodes made -/
open TL (tl)
def MCN (Z : Adr) (C : Addr) : Prop := C = Z.c_Node
def spmN_take_tellers (Z : Adr) (C : Addr) : Sp := sp_take Z
def spmN_need_told (Z : Adr) (C : Addr) : Sp := sp_need_told Z
theorem gmN_take_tellers (T : Txt K mg Z) : ∀ C, MCN Z C → MOk P w K mg base CX0 12 C "take_tellers" (spmN_take_tellers Z C) := by
  rintro C rfl
  exact ⟨(tcB_ok T.x_Node).cl, _, _, _, ⟨T.h_take_tellers_Node, T.y_Node_take_tellers, T.F_Node_take_tellers.kp⟩, ok_Node_take_tellers (P := P) (w := w) (base := base) T, T.b_Node_take_tellers⟩
theorem gmN_need_told (T : Txt K mg Z) : ∀ C, MCN Z C → MOk P w K mg base CX0 14 C "need_told" (spmN_need_told Z C) := by
  rintro C rfl
  exact ⟨(tcB_ok T.x_Node).cl, _, _, _, ⟨T.h_need_told_Node, T.y_Node_need_told, T.F_Node_need_told.kp⟩, ok_Node_need_told (P := P) (w := w) (base := base) T, T.b_Node_need_told⟩
theorem MCx_ne (T : Txt K mg Z) {C : Addr} (h : MC Z C ∨ MCE Z C) : C ≠ Z.c_Node := by
  rcases h with h | ⟨i, hi, rfl⟩
  · rcases h with rfl | rfl | rfl | rfl | rfl
    · exact (difB_ne (i := 0) (j := 1) T.fact_difN1 rfl rfl (by decide)).symm
    · exact (difB_ne (i := 0) (j := 2) T.fact_difN1 rfl rfl (by decide)).symm
    · exact (difB_ne (i := 0) (j := 3) T.fact_difN1 rfl rfl (by decide)).symm
    · exact (difB_ne (i := 0) (j := 4) T.fact_difN1 rfl rfl (by decide)).symm
    · exact (difB_ne (i := 0) (j := 5) T.fact_difN1 rfl rfl (by decide)).symm
  · have hi' : i = 0 ∨ i = 1 ∨ i = 2 ∨ i = 3 ∨ i = 4 ∨ i = 5 ∨ i = 6 := by omega
    rcases hi' with rfl | rfl | rfl | rfl | rfl | rfl | rfl
    · exact (difB_ne (i := 0) (j := 1) T.fact_difN2 rfl rfl (by decide)).symm
    · exact (difB_ne (i := 0) (j := 2) T.fact_difN2 rfl rfl (by decide)).symm
    · exact (difB_ne (i := 0) (j := 3) T.fact_difN2 rfl rfl (by decide)).symm
    · exact (difB_ne (i := 0) (j := 4) T.fact_difN2 rfl rfl (by decide)).symm
    · exact (difB_ne (i := 0) (j := 5) T.fact_difN2 rfl rfl (by decide)).symm
    · exact (difB_ne (i := 0) (j := 6) T.fact_difN2 rfl rfl (by decide)).symm
    · exact (difB_ne (i := 0) (j := 7) T.fact_difN2 rfl rfl (by decide)).symm
theorem EqAt.keepE {H H2 : Hp} {r : Rw} {v u : V} (h : EqAt Z H r v u) (ei : ∀ a C dx fs, MC Z C ∨ MCE Z C → H a = some (.ins C dx fs) → H2 a = some (.ins C dx fs)) (et : TupK H H2) : EqAt Z H2 r v u := by
  obtain ⟨a, dx, fs, h1, h2, h3, h4, h5, h6⟩ := h
  refine ⟨a, dx, fs, h1, ei _ _ _ _ (.inr ⟨_, r.kind_lt, rfl⟩) h2, h3.tu et, h4, h5, fun n t e => ?_⟩
  obtain ⟨tv, h7, h8⟩ := h6 n t e
  exact ⟨tv, h7, h8.keepM fun a C dx fs hC ha => ei a C dx fs (.inl hC) ha⟩
theorem eqs_node (T : Txt K mg Z) {H : Hp} {x dx : Addr} {fs gs : List (Str × V)} {rs : List Rw} {ps : List (V × V)} (hx : H x = some (.ins Z.c_Node dx fs)) (h : Paired (fun r (q : V × V) => EqAt Z H r q.1 q.2) rs ps) : Paired (fun r (q : V × V) => EqAt Z (upd H x (.ins Z.c_Node dx gs)) r q.1 q.2) rs ps :=
  paired_up (fun r q h => h.keepE (fun a C dx' fs' hC ha => by
    rw [upd_ne]
    · exact ha
    · intro z
      subst z
      rw [hx] at ha
      injection ha with ha
      injection ha with ha
      exact MCx_ne T hC ha.symm) (fun a xs ha => by rw [upd_ne (ne_of ha hx (fun z => by cases z))]; exact ha)) h
/-- the same, its things not yet there in H0 -/
def NdFr (Z : Adr) (H0 H : Hp) (n : Nd) (v : V) : Prop := ∃ a dx li lo lr td evs us, v = .ref a ∧ H a = some (.ins Z.c_Node dx (nfs n.nm li lo lr td)) ∧ H li = some (.lst (n.ins.map V.str)) ∧ H lo = some (.lst (n.outs.map V.str)) ∧ H lr = some (.lst evs) ∧ H td = some (.dK (telK n.ins n.rows evs)) ∧ Paired (fun r (q : V × V) => EqAt Z H r q.1 q.2) n.rows (evs.zip us) ∧ evs.length = us.length ∧ H0 a = none ∧ H0 li = none ∧ H0 lo = none ∧ H0 lr = none ∧ H0 td = none
theorem NdFr.at_ {H0 H : Hp} {n : Nd} {v : V} (h : NdFr Z H0 H n v) : NdAt Z H n v := by
  obtain ⟨a, dx, li, lo, lr, td, evs, us, h1, h2, h3, h4, h5, h6, h7, h8, _⟩ := h
  exact ⟨a, dx, li, lo, lr, td, evs, us, h1, h2, h3, h4, h5, h6, h7, h8⟩
theorem NdFr.back {H00 H0 H : Hp} {n : Nd} {v : V} (h : NdFr Z H0 H n v) (e : Ex H00 H0) : NdFr Z H00 H n v := by
  obtain ⟨a, dx, li, lo, lr, td, evs, us, h1, h2, h3, h4, h5, h6, h7, h8, f1, f2, f3, f4, f5⟩ := h
  exact ⟨a, dx, li, lo, lr, td, evs, us, h1, h2, h3, h4, h5, h6, h7, h8, fresh_back e f1, fresh_back e f2, fresh_back e f3, fresh_back e f4, fresh_back e f5⟩
def sp_Node_init (Z : Adr) : Sp := fun vs H Q _ => ∃ x dx n p q t us H0, vs = [.ref x, .str n.nm, .ref p, .ref q, .ref t] ∧ H x = some (.ins Z.c_Node dx []) ∧ H0 x = none ∧ Ex H0 H ∧ H0 p = some (.tup (n.ins.map V.str)) ∧ H0 q = some (.tup (n.outs.map V.str)) ∧ H0 t = some (.tup us) ∧ Paired (RowAt H0) n.rows us ∧ n.good ∧ ∀ H2, Ex H0 H2 → NdFr Z H0 H2 n (.ref x) → Q .non H2
theorem ok_Node_init (T : Txt K mg Z)  : FnOk P w K mg base CX0 (28) Z.f_Node_init Z.fd_Node_init ["self", "name", "inputs", "outs", "rows"] (sp_Node_init Z) := by
  have G_is_name := ok_is_name (P := P) (w := w) (base := base) T
  have G_need_names := ok_need_names (P := P) (w := w) (base := base) T
  have G_equations_of := ok_equations_of (P := P) (w := w) (base := base) T
  refine T.F_Node_init.ok sc_Node_init (fun vs H Q E h => ?_) (fun cdv AA outer s H vs Q E hr h => ?_)
  · obtain ⟨x, dx, n, p, q, t, us, H0, rfl, _⟩ := h
    rfl
  · obtain ⟨x, dx, n, p, q, t, us, H0, rfl, hx, h0, e0, gp, gq, gt, hrw, hg, k⟩ := h
    have GMN_take_tellers := gmN_take_tellers (P := P) (w := w) (base := base) T
    have GMN_need_told := gmN_need_told (P := P) (w := w) (base := base) T
    obtain ⟨cN, nA⟩ := tcN T
    have hnm := hg.nm
    have h8 := hnm.2.1
    have hin : n.ins.Nodup := (List.nodup_append.mp hg.all).1
    refine ⟨_, (pss_cons (ps_if (pt_not (pt_val (pe_call G_is_name (hr.mono (by omega)) rfl T.g_is_name T.F_is_name.kp T.b_is_name .nil pass0 (pa_cons (pv 1) pa_nil)))) (pss_one ps_never) pss_nil)
      (pss_cons (ps_expr (pe_call G_need_names (hr.mono (by omega)) rfl T.g_need_names T.F_need_names.kp T.b_need_names .nil pass0 (pa_cons (pv 2) pa_nil)))
      (pss_cons (ps_expr (pe_call G_need_names (hr.mono (by omega)) rfl T.g_need_names T.F_need_names.kp T.b_need_names .nil pass0 (pa_cons (pv 3) pa_nil)))
      (pss_cons (ps_fld (pv 0) (pv 1) (by rfl))
      (pss_cons (ps_fld (pv 0) (pe_callTy call_list_of (by rfl) T.n_list (by decide +kernel) (pa_cons (pv 2) pa_nil)) (by rfl))
      (pss_cons (ps_fld (pv 0) (pe_callTy call_list_of (by rfl) T.n_list (by decide +kernel) (pa_cons (pv 3) pa_nil)) (by rfl))
      (pss_cons (ps_fld (pv 0) (pe_call G_equations_of (hr.mono (by omega)) rfl T.g_equations_of T.F_equations_of.kp T.b_equations_of .nil pass0 (pa_cons (pv 4) pa_nil)) (by rfl))
      (pss_cons (ps_fld (pv 0) pe_dnewK (by rfl))
      (pss_cons (ps_expr (pe_methP0 (pv 0) GMN_take_tellers (hr.mono (by omega)) pass0))
      (pss_one (ps_expr (pe_methP0 (pv 0) GMN_need_told (hr.mono (by omega)) pass0)))))))))))), ?_⟩
    walk_at "ss"
    refine ⟨_, rfl, .inl ⟨n.nm, rfl, by omega, fun H1 e1 => ?_⟩⟩
    rw [hnm.1]
    walk_at "ss"
    refine ⟨p, n.ins, rfl, (e0.trans e1) _ _ gp, hg.in0, hg.in1, hg.inG, hin, fun H2 e2 => ?_⟩
    walk_at "ss"
    have e02 := e0.trans (e1.trans e2)
    refine ⟨q, n.outs, rfl, e02 _ _ gq, hg.out0, hg.out1, fun s hs => (hg.outG s hs).1, hg.outN, fun H3 e3 => ?_⟩
    have e03 := e02.trans e3
    walk_at "ss"
    have hx3 := (e1.trans (e2.trans e3)) _ _ hx
    refine ⟨x, _, dx, _, rfl, hx3, cN, nA _ (by simp), by simp, ?_⟩
    have f4 : Ex H0 (upd H3 x (.ins Z.c_Node dx (putF "name" (.str n.nm) []))) := Ex.mut e03 h0
    have hx4 : upd H3 x (.ins Z.c_Node dx (putF "name" (.str n.nm) [])) x = some (.ins Z.c_Node dx [("name", .str n.nm)]) := upd_same
    generalize upd H3 x (.ins Z.c_Node dx (putF "name" (.str n.nm) [])) = H4 at f4 hx4
    walk_at "ss"
    refine ⟨_, _, rfl, .inr (SqT.of (f4 _ _ gp)), fun li hli => ?_⟩
    have f5 : Ex H4 (upd H4 li (.lst (n.ins.map V.str))) := Ex.new hli
    have g5 : upd H4 li (.lst (n.ins.map V.str)) li = some (.lst (n.ins.map V.str)) := upd_same
    generalize upd H4 li (.lst (n.ins.map V.str)) = H5 at f5 g5
    walk_at "ss"
    refine ⟨x, _, dx, _, rfl, f5 _ _ hx4, cN, nA _ (by simp), by simp, ?_⟩
    rw [put_tl (by decide +kernel)]
    have nlx : li ≠ x := (ne_of_none hx4 hli).symm
    have f6 : Ex H0 (upd H5 x (.ins Z.c_Node dx (("name", .str n.nm) :: putF "kept_inputs" (.ref li) []))) := Ex.mut (f4.trans f5) h0
    have hx6 : upd H5 x (.ins Z.c_Node dx (("name", .str n.nm) :: putF "kept_inputs" (.ref li) [])) x = some (.ins Z.c_Node dx [("name", .str n.nm), ("kept_inputs", .ref li)]) := upd_same
    have g6 : upd H5 x (.ins Z.c_Node dx (("name", .str n.nm) :: putF "kept_inputs" (.ref li) [])) li = some (.lst (n.ins.map V.str)) := by rw [upd_ne nlx]; exact g5
    generalize upd H5 x (.ins Z.c_Node dx (("name", .str n.nm) :: putF "kept_inputs" (.ref li) [])) = H6 at f6 hx6 g6
    walk_at "ss"
    refine ⟨_, _, rfl, .inr (SqT.of (f6 _ _ gq)), fun lo hlo => ?_⟩
    have f7 : Ex H6 (upd H6 lo (.lst (n.outs.map V.str))) := Ex.new hlo
    have g7 : upd H6 lo (.lst (n.outs.map V.str)) lo = some (.lst (n.outs.map V.str)) := upd_same
    generalize upd H6 lo (.lst (n.outs.map V.str)) = H7 at f7 g7
    walk_at "ss"
    refine ⟨x, _, dx, _, rfl, f7 _ _ hx6, cN, nA _ (by simp), by simp, ?_⟩
    rw [put_tl (by decide +kernel), put_tl (by decide +kernel)]
    have nox : lo ≠ x := (ne_of_none hx6 hlo).symm
    generalize hF8 : (("name", .str n.nm) :: ("kept_inputs", .ref li) :: putF "kept_outs" (.ref lo) [] : List (Str × V)) = fs8
    have f8 : Ex H0 (upd H7 x (.ins Z.c_Node dx fs8)) := Ex.mut (f6.trans f7) h0
    have hx8 : upd H7 x (.ins Z.c_Node dx fs8) x = some (.ins Z.c_Node dx [("name", .str n.nm), ("kept_inputs", .ref li), ("kept_outs", .ref lo)]) := by rw [upd_same, ← hF8]; rfl
    have gi8 : upd H7 x (.ins Z.c_Node dx fs8) li = some (.lst (n.ins.map V.str)) := by rw [upd_ne nlx]; exact f7 _ _ g6
    have go8 : upd H7 x (.ins Z.c_Node dx fs8) lo = some (.lst (n.outs.map V.str)) := by rw [upd_ne nox]; exact g7
    generalize upd H7 x (.ins Z.c_Node dx fs8) = H8 at f8 hx8 gi8 go8
    walk_at "ss"
    refine ⟨t, n.rows, us, rfl, f8 _ _ gt, paired_up (fun r u h => h.up f8) hrw, hg.row1, fun r hr => ⟨(hg.row r hr).1, (hg.row r hr).2.1⟩, fun lr evs H9 hlr f9 g9 hev hel => ?_⟩
    walk_at "ss"
    refine ⟨x, _, dx, _, rfl, f9 _ _ hx8, cN, nA _ (by simp), by simp, ?_⟩
    rw [put_tl (by decide +kernel), put_tl (by decide +kernel), put_tl (by decide +kernel)]
    have nrx : lr ≠ x := (ne_of_none hx8 hlr).symm
    generalize hF10 : (("name", .str n.nm) :: ("kept_inputs", .ref li) :: ("kept_outs", .ref lo) :: putF "kept_rows" (.ref lr) [] : List (Str × V)) = fs10
    have f10 : Ex H0 (upd H9 x (.ins Z.c_Node dx fs10)) := Ex.mut (f8.trans f9) h0
    have hev10 := eqs_node T (gs := fs10) (f9 _ _ hx8) hev
    have hx10 : upd H9 x (.ins Z.c_Node dx fs10) x = some (.ins Z.c_Node dx [("name", .str n.nm), ("kept_inputs", .ref li), ("kept_outs", .ref lo), ("kept_rows", .ref lr)]) := by rw [upd_same, ← hF10]; rfl
    have gi10 : upd H9 x (.ins Z.c_Node dx fs10) li = some (.lst (n.ins.map V.str)) := by rw [upd_ne nlx]; exact f9 _ _ gi8
    have go10 : upd H9 x (.ins Z.c_Node dx fs10) lo = some (.lst (n.outs.map V.str)) := by rw [upd_ne nox]; exact f9 _ _ go8
    have gr10 : upd H9 x (.ins Z.c_Node dx fs10) lr = some (.lst evs) := by rw [upd_ne nrx]; exact g9
    generalize upd H9 x (.ins Z.c_Node dx fs10) = H10 at f10 hx10 gi10 go10 gr10 hev10
    walk_at "ss"
    intro td htd
    have htd0 : H0 td = none := fresh_back f10 htd
    have f11 : Ex H10 (upd H10 td (.dK [])) := Ex.new htd
    have g11 : upd H10 td (.dK []) td = some (.dK []) := upd_same
    generalize upd H10 td (.dK []) = H11 at f11 g11
    walk_at "ss"
    refine ⟨x, _, dx, _, rfl, f11 _ _ hx10, cN, nA _ (by simp), by simp, ?_⟩
    rw [put_tl (by decide +kernel), put_tl (by decide +kernel), put_tl (by decide +kernel), put_tl (by decide +kernel)]
    have ntx : td ≠ x := (ne_of_none hx10 htd).symm
    generalize hF12 : (("name", .str n.nm) :: ("kept_inputs", .ref li) :: ("kept_outs", .ref lo) :: ("kept_rows", .ref lr) :: putF "tellers" (.ref td) [] : List (Str × V)) = fs12
    have f12 : Ex H0 (upd H11 x (.ins Z.c_Node dx fs12)) := Ex.mut (f10.trans f11) h0
    have hev12 := eqs_node T (gs := fs12) (f11 _ _ hx10) (paired_up (fun r q h => h.up f11) hev10)
    have hx12 : upd H11 x (.ins Z.c_Node dx fs12) x = some (.ins Z.c_Node dx (nfs n.nm li lo lr td)) := by rw [upd_same, ← hF12]; rfl
    have gi12 : upd H11 x (.ins Z.c_Node dx fs12) li = some (.lst (n.ins.map V.str)) := by rw [upd_ne nlx]; exact f11 _ _ gi10
    have go12 : upd H11 x (.ins Z.c_Node dx fs12) lo = some (.lst (n.outs.map V.str)) := by rw [upd_ne nox]; exact f11 _ _ go10
    have gr12 : upd H11 x (.ins Z.c_Node dx fs12) lr = some (.lst evs) := by rw [upd_ne nrx]; exact f11 _ _ gr10
    have gt12 : upd H11 x (.ins Z.c_Node dx fs12) td = some (.dK []) := by rw [upd_ne ntx]; exact g11
    generalize upd H11 x (.ins Z.c_Node dx fs12) = H12 at f12 hx12 gi12 go12 gr12 gt12 hev12
    have hMk : NdMk Z H12 n x li lo lr td evs us := ⟨⟨dx, hx12⟩, gi12, go12, gr12, hev12, hel⟩
    walk_at "ss"
    refine ⟨x, _, dx, _, rfl, hx12, rfl, rfl, ?_⟩
    walk_at "ss"
    refine ⟨n, x, li, lo, lr, td, evs, us, rfl, hMk, gt12, hg, fun H13 x13 g13 => ?_⟩
    have hMk13 := hMk.dk x13 gt12
    have f13 : Ex H0 H13 := fun a o ha => x13 a o (ne_of_none ha htd0) (f12 _ _ ha)
    obtain ⟨⟨dx', hx13⟩, m2, m3, m4, m5, m6⟩ := id hMk13
    walk_at "ss"
    refine ⟨x, _, dx', _, rfl, hx13, rfl, rfl, ?_⟩
    walk_at "ss"
    refine ⟨n, x, li, lo, lr, td, evs, us, rfl, hMk13, g13, hg, fun H14 f14 => ?_⟩
    walk_at "ss"
    obtain ⟨⟨dx2, hx14⟩, w2, w3, w4, w5, w6⟩ := hMk13.up f14
    exact k H14 (f13.trans f14) ⟨x, dx2, li, lo, lr, td, evs, us, rfl, hx14, w2, w3, w4, f14 _ _ g13, w5, w6, h0, fresh_back f4 hli, fresh_back f6 hlo, fresh_back f8 hlr, htd0⟩

/-! ### nodes told -/
open TL (tl)
theorem rows_of {H : Hp} : ∀ {rs : List Rw} {evs us : List V}, Paired (fun r (q : V × V) => EqAt Z H r q.1 q.2) rs (evs.zip us) → evs.length = us.length → Paired (RowAt H) rs us
  | [], [], [], _, _ => .nil
  | r :: rs, v :: evs, u :: us, h, hl => by
    rw [List.zip_cons_cons] at h
    cases h with
    | cons h1 h2 =>
      obtain ⟨_, _, _, _, _, h3, _⟩ := h1
      exact .cons h3 (rows_of h2 (by simpa using hl))
  | [], _ :: _, _ :: _, h, _ => by cases h
  | _ :: _, [], [], h, _ => by cases h
  | _, _ :: _, [], _, hl => by cases hl
  | _, [], _ :: _, _, hl => by cases hl
def spmN_told (Z : Adr) (C : Addr) : Sp := fun vs H Q _ => ∃ n v, vs = [v] ∧ NdAt Z H n v ∧ n.good ∧ ∀ u H2, Ex H H2 → NdT H2 n u → Q u H2
theorem re_told {r : Rw} {v u : V} {H : Hp} {Q : VK} (q : Q u H) : Re_told r v u H Q := q
theorem ok_Node_told (T : Txt K mg Z)  : FnOk P w K mg base CX0 (4) Z.f_Node_told Z.fd_Node_told ["self"] (spmN_told Z Z.c_Node) := by
  refine T.F_Node_told.ok sc_Node_told (fun vs H Q E h => ?_) (fun cdv AA outer s H vs Q E hr h => ?_)
  · obtain ⟨n, v, rfl, _⟩ := h
    rfl
  · obtain ⟨n, v, rfl, ⟨a, dx, li, lo, lr, td, evs, us, rfl, h1, h2, h3, h4, h5, h6, h7⟩, hg, k⟩ := h
    have GME_told := gmE_told (P := P) (w := w) (base := base) T
    obtain ⟨cN, nA⟩ := tcN T
    have hlr : n.rows.length = evs.length := by have := paired_len h6; rw [List.length_zip, h7] at this; omega
    have hrl := hg.row1
    refine ⟨_, (pss_cons (ps_set (i := 1) sc_Node_told.nd rfl (Or.inl rfl) (pe_callTy call_tuple_of (by rfl) T.n_tuple (by decide +kernel) (pa_cons (pe_lc (own := [("row", 2)]) (g := (gName 2)) (tt := tYes) (te := (tMP (MCE Z) "told" (spmE_told Z) E0 (tVar 2) tNil)) rfl sc_Node_told.nd (pi_list (pe_fld (pv 0) (by rfl))) (blkOk_by (own := [("row", 2)]) (N := N_Node_told) (sc := defScope s_Node_told) (by decide +kernel)) (fun _ _ _ _ _ => (pg_name (i := 2) sc_Node_told.nd rfl (Or.inl rfl))) (fun _ _ _ _ _ => pts_nil) (fun _ _ _ _ _ => (pe_methP0 (pv 2) GME_told (hr.mono (by omega)) pass0))) pa_nil)))
      (pss_one (ps_ret (pe_tup (pa_cons (pe_fld (pv 0) (by rfl)) (pa_cons (pe_callTy call_tuple_of (by rfl) T.n_tuple (by decide +kernel) (pa_cons (pe_fld (pv 0) (by rfl)) pa_nil)) (pa_cons (pe_callTy call_tuple_of (by rfl) T.n_tuple (by decide +kernel) (pa_cons (pe_fld (pv 0) (by rfl)) pa_nil)) (pa_cons (pv 1) pa_nil)))))))), ?_⟩
    walk_at "ss"
    refine ⟨a, _, dx, _, _, rfl, h1, cN, nA _ (by simp), rfl, ?_⟩
    walk_at "ss"
    refine ⟨⟨_, SqL.of h4⟩, ?_⟩
    refine lcLP (fun D i y G => us[i]? = some y) (fun _ _ _ _ _ _ h => h) (SqL.of h4) (by omega) (fun D i v hD hv H2 e2 _ R N hR => ?_) (fun ys p H2 hyl hy hp e2 g2 => ?_)
    · have hil := (List.getElem?_eq_some_iff.mp hv).1
      have hu : us[i]? = some (us[i]'(by omega)) := List.getElem?_eq_getElem (by omega)
      have hz : (evs.zip us)[i]? = some (v, us[i]'(by omega)) := by
        rw [List.getElem?_zip_eq_some]
        exact ⟨hv, hu⟩
      obtain ⟨r, hr2, hE1⟩ := paired_ix h6 hz
      have hE : EqAt Z H2 r v _ := hE1.up e2
      have hgr := (hg.row r (List.mem_of_getElem? hr2)).1
      obtain ⟨a2, dx2, fs2, rfl, ha2, hM2, o1, o2, o3, o4, o5⟩ := hE.cls
      walk_at "ss"
      refine ⟨a2, _, dx2, fs2, rfl, ha2, hM2, o1, ?_⟩
      walk_at "ss"
      refine ⟨r, _, _, rfl, hE, hgr, rfl, re_told ?_⟩
      exact hR _ _ (Ex.refl _) hu
    have hys : ys = us := by
      apply List.ext_getElem?
      intro i
      cases hi : ys[i]? with
      | some y => exact (hy i y hi).symm
      | none =>
        rw [List.getElem?_eq_none_iff] at hi
        rw [List.getElem?_eq_none (by omega)]
    subst hys
    walk_at "ss"
    refine ⟨_, _, rfl, .inl ⟨SqL.of g2, fun t3 ht3 => ?_⟩⟩
    have e3 : Ex H2 (upd H2 t3 (.tup ys)) := Ex.new ht3
    have g3 : upd H2 t3 (.tup ys) t3 = some (.tup ys) := upd_same
    generalize upd H2 t3 (.tup ys) = H3 at e3 g3
    have e03 := Ex.trans e2 e3
    walk_at "ss"
    refine ⟨a, _, dx, _, _, rfl, e03 _ _ h1, cN, nA _ (by simp), rfl, ?_⟩
    walk_at "ss"
    refine ⟨a, _, dx, _, _, rfl, e03 _ _ h1, cN, nA _ (by simp), rfl, ?_⟩
    walk_at "ss"
    refine ⟨_, _, rfl, .inl ⟨SqL.of (e03 _ _ h2), fun t4 ht4 => ?_⟩⟩
    have e4 : Ex H3 (upd H3 t4 (.tup (n.ins.map V.str))) := Ex.new ht4
    have g4 : upd H3 t4 (.tup (n.ins.map V.str)) t4 = some (.tup (n.ins.map V.str)) := upd_same
    generalize upd H3 t4 (.tup (n.ins.map V.str)) = H4 at e4 g4
    have e04 := e03.trans e4
    walk_at "ss"
    refine ⟨a, _, dx, _, _, rfl, e04 _ _ h1, cN, nA _ (by simp), rfl, ?_⟩
    walk_at "ss"
    refine ⟨_, _, rfl, .inl ⟨SqL.of (e04 _ _ h3), fun t5 ht5 => ?_⟩⟩
    have e5 : Ex H4 (upd H4 t5 (.tup (n.outs.map V.str))) := Ex.new ht5
    have g5 : upd H4 t5 (.tup (n.outs.map V.str)) t5 = some (.tup (n.outs.map V.str)) := upd_same
    generalize upd H4 t5 (.tup (n.outs.map V.str)) = H5 at e5 g5
    walk_at "ss"
    refine newT fun t6 H6 ht6 e6 g6 => ?_
    walk_at "ss"
    have e06 := e04.trans (e5.trans e6)
    exact k _ H6 e06 ⟨t6, t4, t5, t3, ys, rfl, g6, (e5.trans e6) _ _ g4, e6 _ _ g5, (e4.trans (e5.trans e6)) _ _ g3, paired_up (fun r u h => h.up e06) (rows_of h6 h7)⟩
theorem gmN_told (T : Txt K mg Z) : ∀ C, MCN Z C → MOk P w K mg base CX0 4 C "told" (spmN_told Z C) := by
  rintro C rfl
  exact ⟨(tcB_ok T.x_Node).cl, _, _, _, ⟨T.h_told_Node, T.y_Node_told, T.F_Node_told.kp⟩, ok_Node_told (P := P) (w := w) (base := base) T, T.b_Node_told⟩
theorem c_thru {t u : TS} {D : Ends} {σ : St} {H : Hp} (h : t { D with nx := u D } σ H) : tThru t u D σ H := h
/-! the node that a tuple tells -/
def sp_node_of (Z : Adr) : Sp := fun vs H Q _ => ∃ u n, vs = [u] ∧ NdT H n u ∧ n.good ∧ ∀ v H2, Ex H H2 → NdFr Z H H2 n v → Q v H2
theorem ok_node_of (T : Txt K mg Z)  : FnOk P w K mg base CX0 (31) Z.f_node_of Z.fd_node_of ["told"] (sp_node_of Z) := by
  have G_Node_init := ok_Node_init (P := P) (w := w) (base := base) T
  refine T.F_node_of.ok sc_node_of (fun vs H Q E h => ?_) (fun cdv AA outer s H vs Q E hr h => ?_)
  · obtain ⟨u, n, rfl, _⟩ := h
    rfl
  · obtain ⟨u, n, rfl, ⟨a, p, q, t, us, rfl, ga, gp, gq, gt, hrw⟩, hg, k⟩ := h
    refine ⟨_, (pss_cons (ps_if (PW.pt (pw_or (pt_not (pt_val (pe_callB call_isi (by rfl) T.n_isinstance (by decide +kernel) (pa_cons (pv 0) (pa_cons (pe_bltn (v := .ty "tuple") (by rfl) T.n_tuple (by decide +kernel) rfl) pa_nil))))) (pw_or1 (pt_cmpR op_ne (pe_callB call_len_seq (by rfl) T.n_len (by decide +kernel) (pa_cons (pv 0) pa_nil)) (pe_gcst rfl T.c_TOLD_THINGS) (nomark _))))) (pss_one ps_never) pss_nil)
      (pss_cons (ps_if (pt_not (pt_val (pe_callB (cr_all rfl) (by rfl) T.n_all (by decide +kernel) (pa_cons (pe_lc (own := [("thing", 1)]) (g := (gName 1)) (tt := tYes) (te := (tCB (rIsi K) (tCons (tVar 1) (tCons (tC (.ty "tuple")) tNil)))) rfl sc_node_of.nd (pi_tup (pe_slice sl_tup (pv 0) (po_some pe_int) po_none)) (blkOk_by (own := [("thing", 1)]) (N := N_node_of) (sc := defScope s_node_of) (by decide +kernel)) (fun _ _ _ _ _ => (pg_name (i := 1) sc_node_of.nd rfl (Or.inl rfl))) (fun _ _ _ _ _ => pts_nil) (fun _ _ _ _ _ => (pe_callB call_isi (by rfl) T.n_isinstance (by decide +kernel) (pa_cons (pv 1) (pa_cons (pe_bltn (v := .ty "tuple") (by rfl) T.n_tuple (by decide +kernel) rfl) pa_nil))))) pa_nil)))) (pss_one ps_never) pss_nil)
      (pss_one (ps_try_thru (pss_one (ps_set (i := 2) sc_node_of.nd rfl (Or.inl rfl) (pe_make ⟨(tcB_ok T.x_Node).makes, T.i_Node, T.y_Node_init, (tcB_ok T.x_Node).kp⟩ G_Node_init (hr.mono (by omega)) rfl T.m_Node T.b_Node_init .nil pass0 (pa_cons (pe_ix ix_tup (pv 0) pe_int (fun _ _ => rfl)) (pa_cons (pe_ix ix_tup (pv 0) pe_int (fun _ _ => rfl)) (pa_cons (pe_ix ix_tup (pv 0) pe_int (fun _ _ => rfl)) (pa_cons (pe_ix ix_tup (pv 0) pe_int (fun _ _ => rfl)) pa_nil))))))) (pss_one (ps_ret (pv 2))))))), ?_⟩
    walk_at "ss"
    refine isi (ty_tup ga) kb_tt ?_
    walk_at "ss"
    refine ⟨a, _, rfl, .inr (SqT.of ga), ?_⟩
    walk_at "ss"
    refine if_ff (by rfl) ?_
    walk_at "ss"
    refine ⟨a, _, rfl, SqT.of ga, (by
      intro z
      have h1 := z.1
      rw [show (1 : Int) = ((1 : Nat) : Int) from rfl, HT.sIx_nat] at h1
      simp at h1), fun p2 hp2 => ?_⟩
    rw [show cutV [.str n.nm, .ref p, .ref q, .ref t] (some 1) none = [.ref p, .ref q, .ref t] from rfl]
    have e2 : Ex H (upd H p2 (.tup [.ref p, .ref q, .ref t])) := Ex.new hp2
    have g2 : upd H p2 (.tup [.ref p, .ref q, .ref t]) p2 = some (.tup [.ref p, .ref q, .ref t]) := upd_same
    generalize upd H p2 (.tup [.ref p, .ref q, .ref t]) = H2 at e2 g2
    refine ⟨p2, rfl, ⟨_, SqT.of g2⟩, ?_⟩
    refine lcT (fun _ => some (.bl true)) (SqT.of g2) (by simp) (fun i x hx F2 f2 R hR => ?_) ?_
    · have hty : TyX K F2 x (.type "tuple") := by
        have e := e2.trans f2
        match i, hx with
        | 0, hx => cases hx; exact ty_tup (e _ _ gp)
        | 1, hx => cases hx; exact ty_tup (e _ _ gq)
        | 2, hx => cases hx; exact ty_tup (e _ _ gt)
      walk_at "ss"
      refine isi hty kb_tt ?_
      exact hR _ (Ex.refl _)
    intro l3 H3 hl3 e3 g3
    walk_at "ss"
    refine ⟨l3, [true, true, true], rfl, SqL.of g3, ?_⟩
    walk_at "ss"
    have e03 := e2.trans e3
    refine if_ff (by rfl) ?_
    walk_at "ss"
    refine c_thru ?_
    walk_at "ss"
    refine c_ixT (SqT.of (e03 _ _ ga)) rfl ?_
    walk_at "ss"
    refine c_ixT (SqT.of (e03 _ _ ga)) rfl ?_
    walk_at "ss"
    refine c_ixT (SqT.of (e03 _ _ ga)) rfl ?_
    walk_at "ss"
    refine c_ixT (SqT.of (e03 _ _ ga)) rfl ?_
    walk_at "ss"
    intro x dx hx hdx nxd
    have eM : Ex H3 (upd (upd H3 dx (.own x)) x (.ins Z.c_Node dx [])) := fun b o hb => by rw [upd_ne (ne_of_none hb hx), upd_ne (ne_of_none hb hdx)]; exact hb
    refine ⟨x, dx, n, p, q, t, us, H3, rfl, upd_same, hx, eM, e03 _ _ gp, e03 _ _ gq, e03 _ _ gt, paired_up (fun r u h => h.up e03) hrw, hg, fun H4 e4 h4 => ⟨rfl, ?_⟩⟩
    walk_at "ss"
    exact k _ H4 (e03.trans e4) (h4.back e03)

/-! ### the names within a term -/
def sp_tnl (n : Nat) : Sp := fun vs H Q _ => ∃ (t : Tm) (u : V), vs = [u] ∧ ToldAt H t u ∧ t.good ∧ t.dep ≤ n ∧ t.dep ≤ 6 ∧ RetL (t.flat.map V.str) H Q
theorem ok_within_l (T : Txt K mg Z) {n : Nat} (G_within_l : FnOk P w K mg base CX0 (n + 1) Z.f_within_l Z.fd_within_l ["_law_term_here"] (sp_tnl n)) : FnOk P w K mg base CX0 (n + 2) Z.f_within_l Z.fd_within_l ["_law_term_here"] (sp_tnl (n + 1)) := by
  refine T.F_within_l.ok sc_within_l (fun vs H Q E h => ?_) (fun cdv AA outer s H vs Q E hr h => ?_)
  · obtain ⟨t, u, rfl, _⟩ := h
    rfl
  · obtain ⟨t, u, rfl, ht, hg, hd, h6, k⟩ := h
    refine ⟨_, (pss_cons (ps_if (pt_cmpR op_eq (pe_ix ix_tup (pv 0) pe_int (fun _ _ => rfl)) pe_str (nomark _)) (pss_one (ps_ret (pe_lst (pa_cons (pe_ix ix_tup (pv 0) pe_int (fun _ _ => rfl)) pa_nil)))) pss_nil)
      (pss_cons (ps_set (i := 1) sc_within_l.nd rfl (Or.inl rfl) (pe_lst pa_nil))
      (pss_cons (ps_for PassesOwn.never rfl (pi_tup (pe_slice sl_tup (pv 0) (po_some pe_int) po_none)) (pg_name (i := 2) sc_within_l.nd rfl (Or.inl rfl)) (pss_one (ps_if (pt_val (pe_callB call_isi (by rfl) T.n_isinstance (by decide +kernel) (pa_cons (pv 2) (pa_cons (pe_bltn (v := .ty "tuple") (by rfl) T.n_tuple (by decide +kernel) rfl) pa_nil)))) (pss_one (ps_set (i := 1) sc_within_l.nd rfl (Or.inl rfl) (pe_op op_cat (pv 1) (pe_call G_within_l (hr.mono (by omega)) rfl T.g_within_l T.F_within_l.kp T.b_within_l .nil pass0 (pa_cons (pv 2) pa_nil))))) pss_nil)))
      (pss_one (ps_ret (pv 1)))))), ?_⟩
    by_cases hn : ∃ s, t = .nm s
    · obtain ⟨s, rfl⟩ := hn
      obtain ⟨a, rfl, ha⟩ := ht
      walk_at "ss"
      refine c_ixT (SqT.of ha) rfl ?_
      walk_at "ss"
      rw [str_eq rfl]
      walk_at "ss"
      refine c_ixT (SqT.of ha) rfl ?_
      walk_at "ss"
      exact newL k
    · have hn' : ∀ s, t ≠ .nm s := fun s e => hn ⟨s, e⟩
      obtain ⟨a, w0, xs, rfl, ha, hw, hxl, hcut, hxs, hbeh, hq⟩ := told_beh (K := K) ht hg hn'
      walk_at "ss"
      refine c_ixT (SqT.of ha) at_hd ?_
      walk_at "ss"
      rw [str_ne hw]
      walk_at "ss"
      refine newL fun f H1 hf e1 g1 => ?_
      have ha1 := e1 _ _ ha
      walk_at "ss"
      refine ⟨a, _, rfl, SqT.of ha1, (by
        intro z
        have h1 := z.1
        rw [show (1 : Int) = ((1 : Nat) : Int) from rfl, HT.sIx_nat, List.length_cons] at h1
        omega), fun p2 hp2 => ?_⟩
      rw [hcut]
      have e2 : Ex H1 (upd H1 p2 (.tup xs)) := Ex.new hp2
      have g2 : upd H1 p2 (.tup xs) p2 = some (.tup xs) := upd_same
      generalize upd H1 p2 (.tup xs) = H2 at e2 g2
      have hb3 := beh_len t
      refine ⟨p2, rfl, ⟨_, SqT.of g2⟩, forT (xs := xs) (fun i σ' G => (∃ v2 f', σ' = [some (.ref a), some (.ref f'), v2] ∧ G f' = some (.lst ((flatO (t.beh.take i)).map V.str)) ∧ H f' = none) ∧ Ex H G ∧ G p2 = some (.tup xs)) ⟨⟨_, f, rfl, e2 _ _ g1, hf⟩, e1.trans e2, g2⟩ (fun i σ' G _ q => SqT.of q.2.2) ?_ ?_⟩
      · rintro i x σ' G hx ⟨⟨v2, f', rfl, gf, hf'⟩, eG, gp⟩
        obtain ⟨o, ho, hox⟩ := hbeh i x hx
        have ef : t.beh.take (i + 1) = t.beh.take i ++ [o] := by rw [List.take_add_one, ho]; rfl
        have hlen : (flatO (t.beh.take i)).length ≤ 3 * 729 := by
          have := nat_pow6 (t := t) (t.beh.take i) (fun q hq' => by have := (hq q (List.mem_of_mem_take hq')).2; omega) (by rw [List.length_take]; omega)
          have h3 : (t.beh.take i).length ≤ 3 := by rw [List.length_take]; omega
          have := Nat.mul_le_mul_right 729 h3
          omega
        walk_at "ss"
        cases o with
        | none =>
          obtain ⟨nm, ty, kb⟩ := beh_none hox
          have hty : ∃ n : String, TyX K G x (.type n) ∧ kitB n "tuple" = some false := by
            rcases hox with ⟨s, rfl⟩ | h
            · exact ⟨_, ty_str s, kb_st⟩
            · cases x with
              | bl b => exact ⟨_, ty_bl b, kb_bt⟩
              | int i => exact ⟨_, ty_int i, kb_it⟩
              | _ => exact absurd h Bool.false_ne_true
          obtain ⟨nm, ty, kb⟩ := hty
          refine isi ty kb ?_
          walk_at "ss"
          refine ⟨⟨_, f', rfl, ?_, hf'⟩, eG, gp⟩
          rw [ef, flatO_app]
          show G f' = some (.lst ((flatO (t.beh.take i) ++ []).map V.str))
          rw [List.append_nil]
          exact gf
        | some q =>
          have hqx : ToldAt G q x := ToldAt.up hox eG
          obtain ⟨a3, xs3, rfl, ha3⟩ := Told_tup hqx
          have hq2 := hq q (List.mem_of_getElem? ho)
          refine isi (ty_tup ha3) kb_tt ?_
          walk_at "ss"
          have hq7 := flat_729 (t := q) (by omega)
          refine ⟨q, _, rfl, hqx, hq2.1, by omega, by omega, fun p5 H5 hp5 e5 g5 => ?_⟩
          refine c_cat (e5 _ _ gf) g5 (fun p7 H7 hp7 e7 g7 => ?_) (by rw [List.length_map, List.length_map]; omega)
          walk_at "ss"
          refine ⟨⟨_, p7, rfl, ?_, fresh_back (eG.trans e5) hp7⟩, eG.trans (e5.trans e7), e7 _ _ (e5 _ _ gp)⟩
          rw [ef, flatO_app, List.map_append]
          exact g7
      · rintro σ' G ⟨⟨v2, f', rfl, gf, hf'⟩, eG, gp⟩
        walk_at "ss"
        rw [hxl, List.take_length, Tm.flat_beh t hn'] at gf
        exact k f' G hf' eG gf
theorem okn_tnl (T : Txt K mg Z) : ∀ n, FnOk P w K mg base CX0 (n + 1) Z.f_within_l Z.fd_within_l ["_law_term_here"] (sp_tnl n)
  | 0 => ⟨fun vs H Q E ⟨t, u, e, _⟩ => by rw [e]; rfl, fun _ _ _ _ _ _ _ _ _ _ _ _ _ ⟨t, u, _, _, _, h1, _⟩ => by have := t.dep_pos; omega⟩
  | n + 1 => ok_within_l T (okn_tnl T n)

/-! ### l.extend(t), t a tuple -/
section
open PySem.AutoSeq1 in
theorem ext_tup (l b : Addr) (xs ys : Array Value) (n m : Nat) (dd : Option Addr) (sl : Array (Option Value)) (h0 : ¬(!xs.isEmpty && Builtin.List.listTooLong (xs.size + ys.size)) = true) (h1 : xs.size ≤ sizeLine) (h2 : xs.size + ys.size ≤ sizeLine + 1) :
    Meets (Builtin.«list.extend» ⟨[.ref l, .ref b], []⟩) (fun _ R s => s.heap.get? l = some { cls := .type "list", dict := none, data := .seq xs n, slots := #[] } ∧ s.heap.get? b = some { cls := .type "tuple", dict := dd, data := .seq ys m, slots := sl } ∧
      R (.ok (.ret Value.none)) { s with heap := s.heap.update l (Obj.mapSeq fun x => x ++ ys), toks := s.toks }) :=
  .of_wp fun prog w A R s h => by
    obtain ⟨hp, g, d, tk, os⟩ := s
    obtain ⟨gl, gb, r⟩ := h
    have f1 := idx_int
    have f2 := sub_tuple_tuple
    have f3 := sub_list_list
    have f4 := sub_tuple_list
    have f5 := sub_list_tuple
    have z : (xs ++ ys).size ≤ sizeLine + 1 := by rw [Array.size_append]; exact h2
    wp_walk using (wpAny_updateSeq gl rfl (hz := h1) (_hz' := z)), wpAny_loadPart' gl, wpAny_loadPart' gb
    exact ⟨_, rfl, r⟩
def rExtendT (K : PySem.W.Frag) : V → List V → Hp → VK → Prop := fun x vs H Q => ∃ l b xs zs, x = .ref l ∧ vs = [.ref b] ∧ H l = some (.lst xs) ∧ SqT K H b zs ∧ xs.length + zs.length ≤ sizeLine ∧ Q .non (upd H l (.lst (xs ++ zs)))
theorem mt_extendT {X : Cx} : MtM X "list.extend" (rExtendT X.K) := by
  intro pins s σ H x vs v us Q I rx rv h
  obtain ⟨l, b, xs, zs, rfl, rfl, hH, hB, hz, q⟩ := h
  cases rx
  obtain ⟨u, rfl, ru⟩ := rv.one
  cases ru
  obtain ⟨z, its, n, r, hl, e⟩ := I.lstM hH
  obtain ⟨its2, r2, ⟨⟨c2, d2, t2, s2⟩, e2, hc2, m, hd2⟩, hl2⟩ := I.tuple hB
  simp only at hc2 hd2
  subst hc2 hd2
  have hl3 := r2.length
  have big : its.toArray.size + its2.toArray.size ≤ sizeLine := by rw [List.size_toArray, List.size_toArray]; omega
  have lng : ¬ (!its.toArray.isEmpty && Builtin.List.listTooLong (its.toArray.size + its2.toArray.size)) = true := by
    rw [notLongL big, Bool.and_false]
    exact Bool.false_ne_true
  refine call_meets F.slot_list_extend ⟨_, e, rfl⟩ F.entry_list_extend (F.args_list_extend_2 _ _) (ext_tup l b its.toArray its2.toArray n m d2 s2 lng (by rw [List.size_toArray]; omega) (by omega)) ⟨e, e2, ?_⟩
  refine ⟨.non, _, I.lset (its' := its ++ its2) hH e (by simp) (r.append r2) ?_, rfl, q⟩
  rw [List.length_append]
  omega
end

/-! ### what is read: the program -/
open TL (tl)
/-! the names within a term, by the program -/
def sp_nin (n : Nat) : Sp := fun vs H Q _ => ∃ (t : Tm) (u : V), vs = [u] ∧ ToldAt H t u ∧ t.good ∧ t.dep ≤ n ∧ t.dep ≤ 6 ∧ RetL (t.flat.map V.str) H Q
theorem ok_names_in (T : Txt K mg Z) {n : Nat} (G_names_in : FnOk P w K mg base CX0 (n + 1) Z.f_names_in Z.fd_names_in ["term"] (sp_nin n)) : FnOk P w K mg base CX0 (n + 2) Z.f_names_in Z.fd_names_in ["term"] (sp_nin (n + 1)) := by
  refine T.F_names_in.ok sc_names_in (fun vs H Q E h => ?_) (fun cdv AA outer s H vs Q E hr h => ?_)
  · obtain ⟨t, u, rfl, _⟩ := h
    rfl
  · obtain ⟨t, u, rfl, ht, hg, hd, h6, k⟩ := h
    refine ⟨_, (pss_cons (ps_if (pt_cmpR op_eq (pe_ix ix_tup (pv 0) pe_int (fun _ _ => rfl)) pe_str (nomark _)) (pss_one (ps_ret (pe_lst (pa_cons (pe_ix ix_tup (pv 0) pe_int (fun _ _ => rfl)) pa_nil)))) pss_nil)
      (pss_cons (ps_if (pt_cmpR op_eq (pe_ix ix_tup (pv 0) pe_int (fun _ _ => rfl)) pe_str (nomark _)) (pss_one (ps_ret (pe_lst pa_nil))) pss_nil)
      (pss_cons (ps_set (i := 1) sc_names_in.nd rfl (Or.inl rfl) (pe_lst pa_nil))
      (pss_cons (ps_for PassesOwn.never rfl (pi_tup (pe_slice sl_tup (pv 0) (po_some pe_int) po_none)) (pg_name (i := 2) sc_names_in.nd rfl (Or.inl rfl)) (pss_one (ps_if (pt_val (pe_callB call_isi (by rfl) T.n_isinstance (by decide +kernel) (pa_cons (pv 2) (pa_cons (pe_bltn (v := .ty "tuple") (by rfl) T.n_tuple (by decide +kernel) rfl) pa_nil)))) (pss_one (ps_expr (pe_bm PySem.F.plainAttrs_list PySem.F.slot_list_extend PySem.F.type_list_extend mt_extend (pv 1) (pa_cons (pe_call G_names_in (hr.mono (by omega)) rfl T.g_names_in T.F_names_in.kp T.b_names_in .nil pass0 (pa_cons (pv 2) pa_nil)) pa_nil)))) pss_nil)))
      (pss_one (ps_ret (pv 1))))))), ?_⟩
    by_cases hn : ∃ s, t = .nm s
    · obtain ⟨s, rfl⟩ := hn
      obtain ⟨a, rfl, ha⟩ := ht
      walk_at "ss"
      refine c_ixT (SqT.of ha) rfl ?_
      walk_at "ss"
      rw [str_eq rfl]
      walk_at "ss"
      refine c_ixT (SqT.of ha) rfl ?_
      walk_at "ss"
      exact newL k
    by_cases hv : ∃ v, t = .vl v
    · obtain ⟨v, rfl⟩ := hv
      obtain ⟨a, rfl, ha⟩ := ht
      walk_at "ss"
      refine c_ixT (SqT.of ha) rfl ?_
      walk_at "ss"
      rw [str_ne (x := "value") (y := "name") (by decide +kernel)]
      walk_at "ss"
      refine c_ixT (SqT.of ha) rfl ?_
      walk_at "ss"
      rw [str_eq rfl]
      walk_at "ss"
      exact newL k
    have hn' : ∀ s, t ≠ .nm s := fun s e => hn ⟨s, e⟩
    obtain ⟨a, w0, xs, rfl, ha, hw, hxl, hcut, hxs, hbeh, hq⟩ := told_beh (K := K) ht hg hn'
    have hwv : w0 ≠ "value" := by
      cases t with
      | nm s => exact absurd rfl (hn' s)
      | vl v => exact absurd ⟨v, rfl⟩ hv
      | two op p q =>
        obtain ⟨a', v1, v2, e, ha', h1, h2⟩ := ht
        cases e
        rw [ha] at ha'
        injection ha' with ha'
        injection ha' with ha'
        injection ha' with ha' _
        rw [V.str.inj ha']
        decide +kernel
      | nt p =>
        obtain ⟨a', v1, e, ha', h1⟩ := ht
        cases e
        rw [ha] at ha'
        injection ha' with ha'
        injection ha' with ha'
        injection ha' with ha' _
        rw [V.str.inj ha']
        decide +kernel
      | pk c p q =>
        obtain ⟨a', v0, v1, v2, e, ha', h1⟩ := ht
        cases e
        rw [ha] at ha'
        injection ha' with ha'
        injection ha' with ha'
        injection ha' with ha' _
        rw [V.str.inj ha']
        decide +kernel
    walk_at "ss"
    refine c_ixT (SqT.of ha) at_hd ?_
    walk_at "ss"
    rw [str_ne hw]
    walk_at "ss"
    refine c_ixT (SqT.of ha) at_hd ?_
    walk_at "ss"
    rw [str_ne hwv]
    walk_at "ss"
    refine newL fun f H1 hf e1 g1 => ?_
    have ha1 := e1 _ _ ha
    walk_at "ss"
    refine ⟨a, _, rfl, SqT.of ha1, (by
      intro z
      have h1 := z.1
      rw [show (1 : Int) = ((1 : Nat) : Int) from rfl, HT.sIx_nat, List.length_cons] at h1
      omega), fun p2 hp2 => ?_⟩
    rw [hcut]
    have e2 : Ex H1 (upd H1 p2 (.tup xs)) := Ex.new hp2
    have g2 : upd H1 p2 (.tup xs) p2 = some (.tup xs) := upd_same
    generalize upd H1 p2 (.tup xs) = H2 at e2 g2
    have hb3 := beh_len t
    have npf : p2 ≠ f := (ne_of_none g1 hp2).symm
    refine ⟨p2, rfl, ⟨_, SqT.of g2⟩, L2.forT (xs := xs) (fun i σ' G => (∃ v2, σ' = [some (.ref a), some (.ref f), v2]) ∧ G f = some (.lst ((flatO (t.beh.take i)).map V.str)) ∧ Ex H G ∧ G p2 = some (.tup xs)) ⟨⟨_, rfl⟩, e2 _ _ g1, e1.trans e2, g2⟩ (fun i σ' G _ q => SqT.of q.2.2.2) ?_ ?_⟩
    · rintro i x σ' G hx ⟨⟨v2, rfl⟩, gf, eG, gp⟩
      obtain ⟨o, ho, hox⟩ := hbeh i x hx
      have ef : t.beh.take (i + 1) = t.beh.take i ++ [o] := by rw [List.take_add_one, ho]; rfl
      have hlen : (flatO (t.beh.take i)).length ≤ 3 * 729 := by
        have := nat_pow6 (t := t) (t.beh.take i) (fun q hq' => by have := (hq q (List.mem_of_mem_take hq')).2; omega) (by rw [List.length_take]; omega)
        have h3 : (t.beh.take i).length ≤ 3 := by rw [List.length_take]; omega
        have := Nat.mul_le_mul_right 729 h3
        omega
      walk_at "ss"
      cases o with
      | none =>
        have hty : ∃ n : String, TyX K G x (.type n) ∧ kitB n "tuple" = some false := by
          rcases hox with ⟨s, rfl⟩ | h
          · exact ⟨_, ty_str s, kb_st⟩
          · cases x with
            | bl b => exact ⟨_, ty_bl b, kb_bt⟩
            | int i => exact ⟨_, ty_int i, kb_it⟩
            | _ => exact absurd h Bool.false_ne_true
        obtain ⟨nm, ty, kb⟩ := hty
        refine isi ty kb ?_
        walk_at "ss"
        refine ⟨⟨_, rfl⟩, ?_, eG, gp⟩
        rw [ef, flatO_app]
        show G f = some (.lst ((flatO (t.beh.take i) ++ []).map V.str))
        rw [List.append_nil]
        exact gf
      | some q =>
        have hqx : ToldAt G q x := ToldAt.up hox eG
        obtain ⟨a3, xs3, rfl, ha3⟩ := Told_tup hqx
        have hq2 := hq q (List.mem_of_getElem? ho)
        refine isi (ty_tup ha3) kb_tt ?_
        walk_at "ss"
        refine ⟨.inl ⟨rfl, _, SqL.of gf⟩, ?_⟩
        walk_at "ss"
        have hq7 := flat_729 (t := q) (by omega)
        refine ⟨q, _, rfl, hqx, hq2.1, by omega, by omega, fun p5 H5 hp5 e5 g5 => ?_⟩
        walk_at "ss"
        refine ⟨f, p5, _, _, rfl, rfl, e5 _ _ gf, g5, Evl.sz_of (by rw [List.length_map, List.length_map]; omega), ?_⟩
        walk_at "ss"
        refine ⟨⟨_, rfl⟩, ?_, Ex.mut (eG.trans e5) hf, by rw [upd_ne npf]; exact e5 _ _ gp⟩
        rw [upd_same, ef, flatO_app, List.map_append]
    · rintro σ' G ⟨⟨v2, rfl⟩, gf, eG, gp⟩
      walk_at "ss"
      rw [hxl, List.take_length, Tm.flat_beh t hn'] at gf
      exact k f G hf eG gf
theorem okn_nin (T : Txt K mg Z) : ∀ n, FnOk P w K mg base CX0 (n + 1) Z.f_names_in Z.fd_names_in ["term"] (sp_nin n)
  | 0 => ⟨fun vs H Q E ⟨t, u, e, _⟩ => by rw [e]; rfl, fun _ _ _ _ _ _ _ _ _ _ _ _ _ ⟨t, u, _, _, _, h1, _⟩ => by have := t.dep_pos; omega⟩
  | n + 1 => ok_names_in T (okn_nin T n)
theorem vw_no {k : Nat} {y : Str} (h1 : ("before" : Str) ≠ y) (h2 : ("hold" : Str) ≠ y) (h3 : ("like" : Str) ≠ y) : vword k ≠ y := by
  rcases vword_in k with e | e | e <;> (rw [e]; assumption)
/-! what a row tells, and reads now -/
def Rw.nocall : Rw → Prop
  | .cl _ _ _ => False
  | _ => True
theorem RowAt.tuple {H : Hp} {r : Rw} {u : V} (h : RowAt H r u) : ∃ a xs, u = .ref a ∧ H a = some (.tup (.str r.word :: xs)) := h.hd
def sp_told_by : Sp := fun vs H Q _ => ∃ (r : Rw) (u : V), vs = [u] ∧ RowAt H r u ∧ r.nocall ∧ RetT (r.tells.map V.str) H Q
theorem ok_told_by (T : Txt K mg Z) : FnOk P w K mg base CX0 1 Z.f_told_by Z.fd_told_by ["row"] sp_told_by := by
  refine T.F_told_by.ok sc_told_by (fun vs H Q E h => ?_) (fun cdv AA outer s H vs Q E hr h => ?_)
  · obtain ⟨r, u, rfl, _⟩ := h
    rfl
  · obtain ⟨r, u, rfl, hR, hc, k⟩ := h
    refine ⟨_, (pss_cons (ps_if (pt_cmpR op_eq (pe_ix ix_tup (pv 0) pe_int (fun _ _ => rfl)) pe_str (nomark _)) (pss_one (ps_ret (pe_tup pa_nil))) pss_nil)
      (pss_one (ps_ret (pe_tup (pa_cons (pe_ix ix_tup (pv 0) pe_int (fun _ _ => rfl)) pa_nil))))), ?_⟩
    cases r with
    | pl n t =>
      obtain ⟨a, w0, rfl, ha, _⟩ := hR
      walk_at "ss"
      refine c_ixT (SqT.of ha) rfl ?_
      walk_at "ss"
      rw [str_ne (x := "plain") (y := "same") (by decide +kernel)]
      walk_at "ss"
      refine c_ixT (SqT.of ha) rfl ?_
      walk_at "ss"
      exact newT k
    | vd kk n v x =>
      obtain ⟨a, rfl, ha⟩ := hR
      walk_at "ss"
      refine c_ixT (SqT.of ha) rfl ?_
      walk_at "ss"
      rw [str_ne (x := vword kk) (y := "same") (vw_no (by decide +kernel) (by decide +kernel) (by decide +kernel))]
      walk_at "ss"
      refine c_ixT (SqT.of ha) rfl ?_
      walk_at "ss"
      exact newT k
    | wh n x y =>
      obtain ⟨a, rfl, ha⟩ := hR
      walk_at "ss"
      refine c_ixT (SqT.of ha) rfl ?_
      walk_at "ss"
      rw [str_ne (x := "when") (y := "same") (by decide +kernel)]
      walk_at "ss"
      refine c_ixT (SqT.of ha) rfl ?_
      walk_at "ss"
      exact newT k
    | sm ns =>
      obtain ⟨a, p, rfl, ha, hp⟩ := hR
      walk_at "ss"
      refine c_ixT (SqT.of ha) rfl ?_
      walk_at "ss"
      rw [str_eq rfl]
      walk_at "ss"
      exact newT k
    | cl os nd xs => exact absurd hc id
/-- what a row reads in the beat that it tells -/
def Rw.now : Rw → List Str
  | .pl _ t => t.flat
  | .vd 1 _ _ x => [x]
  | .vd _ _ _ _ => []
  | .wh _ x y => [x, y]
  | _ => []
def sp_mentioned_now : Sp := fun vs H Q _ => ∃ (r : Rw) (u : V), vs = [u] ∧ RowAt H r u ∧ r.good ∧ r.nocall ∧ RetL (r.now.map V.str) H Q
theorem ok_mentioned_now (T : Txt K mg Z)  : FnOk P w K mg base CX0 (9) Z.f_mentioned_now Z.fd_mentioned_now ["row"] sp_mentioned_now := by
  refine T.F_mentioned_now.ok sc_mentioned_now (fun vs H Q E h => ?_) (fun cdv AA outer s H vs Q E hr h => ?_)
  · obtain ⟨r, u, rfl, _⟩ := h
    rfl
  · obtain ⟨r, u, rfl, hR, hg, hc, k⟩ := h
    have G_names_in := okn_nin (P := P) (w := w) (base := base) T 6
    refine ⟨_, (pss_cons (ps_if (pt_cmpR op_eq (pe_ix ix_tup (pv 0) pe_int (fun _ _ => rfl)) pe_str (nomark _)) (pss_one (ps_ret (pe_call G_names_in (hr.mono (by omega)) rfl T.g_names_in T.F_names_in.kp T.b_names_in .nil pass0 (pa_cons (pe_ix ix_tup (pv 0) pe_int (fun _ _ => rfl)) pa_nil)))) pss_nil)
      (pss_cons (ps_if (pt_cmpR op_eq (pe_ix ix_tup (pv 0) pe_int (fun _ _ => rfl)) pe_str (nomark _)) (pss_one (ps_ret (pe_lst (pa_cons (pe_ix ix_tup (pv 0) pe_int (fun _ _ => rfl)) (pa_cons (pe_ix ix_tup (pv 0) pe_int (fun _ _ => rfl)) pa_nil))))) pss_nil)
      (pss_cons (ps_if (pt_cmpR op_eq (pe_ix ix_tup (pv 0) pe_int (fun _ _ => rfl)) pe_str (nomark _)) (pss_one (ps_ret (pe_lst (pa_cons (pe_ix ix_tup (pv 0) pe_int (fun _ _ => rfl)) pa_nil)))) pss_nil)
      (pss_one (ps_ret (pe_lst pa_nil)))))), ?_⟩
    cases r with
    | pl n t =>
      obtain ⟨a, w0, rfl, ha, ht⟩ := hR
      walk_at "ss"
      refine c_ixT (SqT.of ha) rfl ?_
      walk_at "ss"
      rw [str_eq rfl]
      walk_at "ss"
      refine c_ixT (SqT.of ha) rfl ?_
      walk_at "ss"
      have := hg.2.2
      exact ⟨t, _, rfl, ht, hg.2.1, by omega, by omega, k⟩
    | vd kk n v x =>
      obtain ⟨a, rfl, ha⟩ := hR
      walk_at "ss"
      refine c_ixT (SqT.of ha) rfl ?_
      walk_at "ss"
      rw [str_ne (x := vword kk) (y := "plain") (vw_no (by decide +kernel) (by decide +kernel) (by decide +kernel))]
      walk_at "ss"
      refine c_ixT (SqT.of ha) rfl ?_
      walk_at "ss"
      rw [str_ne (x := vword kk) (y := "when") (vw_no (by decide +kernel) (by decide +kernel) (by decide +kernel))]
      walk_at "ss"
      refine c_ixT (SqT.of ha) rfl ?_
      walk_at "ss"
      rcases kk with _ | _ | kk
      · rw [str_ne (x := vword 0) (y := "hold") (by decide +kernel)]
        walk_at "ss"
        exact newL k
      · rw [str_eq (x := vword 1) (y := "hold") rfl]
        walk_at "ss"
        refine c_ixT (SqT.of ha) rfl ?_
        walk_at "ss"
        exact newL k
      · rw [show vword (kk + 1 + 1) = "like" from rfl, str_ne (x := "like") (y := "hold") (by decide +kernel)]
        walk_at "ss"
        exact newL k
    | wh n x y =>
      obtain ⟨a, rfl, ha⟩ := hR
      walk_at "ss"
      refine c_ixT (SqT.of ha) rfl ?_
      walk_at "ss"
      rw [str_ne (x := "when") (y := "plain") (by decide +kernel)]
      walk_at "ss"
      refine c_ixT (SqT.of ha) rfl ?_
      walk_at "ss"
      rw [str_eq rfl]
      walk_at "ss"
      refine c_ixT (SqT.of ha) rfl ?_
      walk_at "ss"
      refine c_ixT (SqT.of ha) rfl ?_
      walk_at "ss"
      exact newL k
    | sm ns =>
      obtain ⟨a, p, rfl, ha, hp⟩ := hR
      walk_at "ss"
      refine c_ixT (SqT.of ha) rfl ?_
      walk_at "ss"
      rw [str_ne (x := "same") (y := "plain") (by decide +kernel)]
      walk_at "ss"
      refine c_ixT (SqT.of ha) rfl ?_
      walk_at "ss"
      rw [str_ne (x := "same") (y := "when") (by decide +kernel)]
      walk_at "ss"
      refine c_ixT (SqT.of ha) rfl ?_
      walk_at "ss"
      rw [str_ne (x := "same") (y := "hold") (by decide +kernel)]
      walk_at "ss"
      exact newL k
    | cl os nd xs => exact absurd hc id
/-! all names of a node -/
def Nd.nocalls (n : Nd) : Prop := ∀ r ∈ n.rows, r.nocall
def sp_names_of (Z : Adr) : Sp := fun vs H Q _ => ∃ n v, vs = [v] ∧ NdAt Z H n v ∧ n.good ∧ n.nocalls ∧ RetL (n.names.map V.str) H Q
theorem ins_len {n : Nd} (h : n.good) (i : Nat) : (n.ins ++ (n.rows.take i).flatMap Rw.tells).length ≤ 1000 := by
  refine Nat.le_trans ?_ h.all1
  have e : n.names = (n.ins ++ (n.rows.take i).flatMap Rw.tells) ++ (n.rows.drop i).flatMap Rw.tells := by
    unfold Nd.names Nd.told
    conv => lhs; rw [← List.take_append_drop i n.rows]
    rw [List.flatMap_append, List.append_assoc]
  rw [e, List.length_append (as := n.ins ++ (n.rows.take i).flatMap Rw.tells)]
  omega
theorem NdAt.cls {H : Hp} {n : Nd} {v : V} (h : NdAt Z H n v) : ∃ a dx fs, v = .ref a ∧ H a = some (.ins Z.c_Node dx fs) ∧ fs.lookup ("told" : Str) = none := by
  obtain ⟨a, dx, li, lo, lr, td, evs, us, h1, h2, _⟩ := h
  exact ⟨a, dx, _, h1, h2, rfl⟩
theorem ok_names_of (T : Txt K mg Z)  : FnOk P w K mg base CX0 (6) Z.f_names_of Z.fd_names_of ["node"] (sp_names_of Z) := by
  have G_told_by := ok_told_by (P := P) (w := w) (base := base) T
  refine T.F_names_of.ok sc_names_of (fun vs H Q E h => ?_) (fun cdv AA outer s H vs Q E hr h => ?_)
  · obtain ⟨n, v, rfl, _⟩ := h
    rfl
  · obtain ⟨n, v, rfl, hN, hg, hnc, k⟩ := h
    have GMN_told := gmN_told (P := P) (w := w) (base := base) T
    obtain ⟨a, dx, fs, rfl, ha, hlk⟩ := hN.cls
    refine ⟨_, (pss_cons (ps_asg (pe_methP0 (pv 0) GMN_told (hr.mono (by omega)) pass0) (pg_tup (by rfl) (pgs_cons (pg_name (i := 1) sc_names_of.nd rfl (Or.inl rfl)) (pgs_cons (pg_name (i := 2) sc_names_of.nd rfl (Or.inl rfl)) (pgs_cons (pg_name (i := 3) sc_names_of.nd rfl (Or.inl rfl)) (pgs_cons (pg_name (i := 4) sc_names_of.nd rfl (Or.inl rfl)) pgs_nil))))))
      (pss_cons (ps_set (i := 5) sc_names_of.nd rfl (Or.inl rfl) (pe_callTy call_list_of (by rfl) T.n_list (by decide +kernel) (pa_cons (pv 2) pa_nil)))
      (pss_cons (ps_for PassesOwn.never rfl (pi_tup (pv 4)) (pg_name (i := 6) sc_names_of.nd rfl (Or.inl rfl)) (pss_one (ps_expr (pe_bm PySem.F.plainAttrs_list PySem.F.slot_list_extend PySem.F.type_list_extend mt_extendT (pv 5) (pa_cons (pe_call G_told_by (hr.mono (by omega)) rfl T.g_told_by T.F_told_by.kp T.b_told_by .nil pass0 (pa_cons (pv 6) pa_nil)) pa_nil)))))
      (pss_one (ps_ret (pv 5)))))), ?_⟩
    walk_at "ss"
    refine ⟨a, _, dx, _, rfl, ha, rfl, hlk, ?_⟩
    walk_at "ss"
    refine ⟨n, _, rfl, hN, hg, fun u H1 e1 hT => ?_⟩
    obtain ⟨b, p, q, t, us, rfl, gb, gp, gq, gt, hrw⟩ := hT
    refine c_gTup (SqT.of gb) rfl ?_
    walk_at "ss"
    refine ⟨_, _, rfl, .inr (SqT.of gp), fun fd hfd => ?_⟩
    have hfdH : H fd = none := fresh_back e1 hfd
    have e2 : Ex H1 (upd H1 fd (.lst (n.ins.map V.str))) := Ex.new hfd
    have g2 : upd H1 fd (.lst (n.ins.map V.str)) fd = some (.lst (n.ins.map V.str)) := upd_same
    generalize upd H1 fd (.lst (n.ins.map V.str)) = H2 at e2 g2
    walk_at "ss"
    refine ⟨⟨_, SqT.of (e2 _ _ gt)⟩, forT (xs := us) (fun i σ' G => (∃ v6, σ' = [some (.ref a), some (.str n.nm), some (.ref p), some (.ref q), some (.ref t), some (.ref fd), v6]) ∧ Ex H1 G ∧ G fd = some (.lst ((n.ins ++ (n.rows.take i).flatMap Rw.tells).map V.str))) ⟨⟨_, rfl⟩, e2, by rw [g2]; simp⟩ (fun i σ' G _ q => SqT.of (q.2.1 _ _ gt)) ?_ ?_⟩
    · rintro i x σ' G hx ⟨⟨v6, rfl⟩, eG, gf⟩
      obtain ⟨r, hr2, hR⟩ := paired_ix hrw hx
      walk_at "ss"
      refine ⟨.inl ⟨rfl, _, SqL.of gf⟩, ?_⟩
      walk_at "ss"
      refine ⟨r, _, rfl, hR.up eG, hnc r (List.mem_of_getElem? hr2), fun tp G2 htp f2 m2 => ?_⟩
      walk_at "ss"
      have hl1 := ins_len hg (i + 1)
      have ef : n.ins ++ (n.rows.take (i + 1)).flatMap Rw.tells = (n.ins ++ (n.rows.take i).flatMap Rw.tells) ++ r.tells := by
        rw [List.take_add_one, hr2]
        show n.ins ++ (n.rows.take i ++ [r]).flatMap Rw.tells = _
        rw [List.flatMap_append, List.flatMap_singleton, List.append_assoc]
      rw [ef, List.length_append (as := n.ins ++ (n.rows.take i).flatMap Rw.tells)] at hl1
      refine ⟨fd, tp, _, _, rfl, rfl, f2 _ _ gf, SqT.of m2, Evl.sz_of (by rw [List.length_map, List.length_map]; omega), ?_⟩
      walk_at "ss"
      refine ⟨⟨_, rfl⟩, Ex.mut (eG.trans f2) hfd, ?_⟩
      rw [upd_same, ef, List.map_append (l₁ := n.ins ++ (n.rows.take i).flatMap Rw.tells)]
    · rintro σ' G ⟨⟨v6, rfl⟩, eG, gf⟩
      walk_at "ss"
      rw [← paired_len hrw, List.take_length] at gf
      exact k fd G hfdH (e1.trans eG) gf

/-! ### dicts of lists; what each name reads -/
open TL (tl)
def dlK (ns : List Str) (ls : List Addr) : List (Key × V) := (ns.zip ls).map fun p => ((.inr p.1 : Key), V.ref p.2)
def DLs (H : Hp) (d : Addr) (ns : List Str) (ls : List Addr) (f : Str → List Str) : Prop := ls.length = ns.length ∧ H d = some (.dK (dlK ns ls)) ∧ ∀ (i : Nat) s a, ns[i]? = some s → ls[i]? = some a → H a = some (.lst ((f s).map V.str))
theorem dlK_keys : ∀ {ns : List Str} {ls : List Addr}, ls.length = ns.length → (dlK ns ls).map (·.1) = ns.map (Sum.inr : Str → Key)
  | [], [], _ => rfl
  | s :: ns, a :: ls, h => by
    have ih := dlK_keys (ns := ns) (ls := ls) (by simpa using h)
    unfold dlK at ih ⊢
    rw [List.zip_cons_cons, List.map_cons, List.map_cons, ih]
    rfl
theorem dlK_get : ∀ {ns : List Str} {ls : List Addr} {i : Nat} {s : Str} {a : Addr}, ns.Nodup → ns[i]? = some s → ls[i]? = some a → valV (dlK ns ls) (.inr s) = some (.ref a)
  | [], _, i, s, a, _, h, _ => by simp at h
  | _ :: _, [], i, s, a, _, _, h => by simp at h
  | z :: ns, b :: ls, 0, s, a, hn, hs, ha => by
    have e1 : z = s := by simpa using hs
    have e2 : b = a := by simpa using ha
    subst e1 e2
    exact valV_pos rfl
  | z :: ns, b :: ls, i + 1, s, a, hn, hs, ha => by
    have hs' : ns[i]? = some s := by simpa using hs
    have ha' : ls[i]? = some a := by simpa using ha
    have hne : ¬ ((Sum.inr z : Key)) = Sum.inr s := fun e => (List.nodup_cons.mp hn).1 (by rw [Sum.inr.inj e]; exact List.mem_of_getElem? hs')
    have := dlK_get (List.nodup_cons.mp hn).2 hs' ha'
    show valV ((.inr z, .ref b) :: dlK ns ls) (.inr s) = some (.ref a)
    rw [valV_neg hne]
    exact this
theorem dlK_snoc {ns : List Str} {ls : List Addr} {s : Str} {a : Addr} (h : ls.length = ns.length) : dlK (ns ++ [s]) (ls ++ [a]) = dlK ns ls ++ [((.inr s : Key), V.ref a)] := by
  unfold dlK
  rw [List.zip_append h.symm, List.map_append]
  rfl
theorem dlK_len {ns : List Str} {ls : List Addr} (h : ls.length = ns.length) : (dlK ns ls).length = ns.length := by
  unfold dlK
  rw [List.length_map, List.length_zip, h]
  omega
theorem dlK_at {ns : List Str} {ls : List Addr} (h : ls.length = ns.length) {s : Str} (hs : s ∈ ns) : ∃ (i : Nat) (a : Addr), ns[i]? = some s ∧ ls[i]? = some a := by
  obtain ⟨i, hi, he⟩ := List.mem_iff_getElem.mp hs
  exact ⟨i, ls[i]'(by omega), by rw [List.getElem?_eq_getElem hi, he], List.getElem?_eq_getElem (by omega)⟩
theorem DLs.congr {H : Hp} {d : Addr} {ns : List Str} {ls : List Addr} {f g : Str → List Str} (h : DLs H d ns ls f) (e : ∀ s ∈ ns, f s = g s) : DLs H d ns ls g := by
  obtain ⟨h1, h2, h3⟩ := h
  exact ⟨h1, h2, fun i s a hs ha => by rw [← e s (List.mem_of_getElem? hs)]; exact h3 i s a hs ha⟩
theorem DLs.up {H H2 : Hp} {d : Addr} {ns : List Str} {ls : List Addr} {f : Str → List Str} (h : DLs H d ns ls f) (e : Ex H H2) : DLs H2 d ns ls f := by
  obtain ⟨h1, h2, h3⟩ := h
  exact ⟨h1, e _ _ h2, fun i s a hs ha => e _ _ (h3 i s a hs ha)⟩
/-- one of the lists is changed -/
theorem DLs.chg {H : Hp} {d : Addr} {ns : List Str} {ls : List Addr} {f : Str → List Str} (h : DLs H d ns ls f) (hn : ns.Nodup) (hl : ls.Nodup) (hd : d ∉ ls) {m : Nat} {s0 : Str} {a0 : Addr} (hs : ns[m]? = some s0) (ha : ls[m]? = some a0) (g : List Str) : DLs (upd H a0 (.lst (g.map V.str))) d ns ls (fun s => if s = s0 then g else f s) := by
  obtain ⟨h1, h2, h3⟩ := h
  have nd0 : d ≠ a0 := fun e => hd (by rw [e]; exact List.mem_of_getElem? ha)
  refine ⟨h1, by rw [upd_ne nd0]; exact h2, fun i s a hs' ha' => ?_⟩
  by_cases e : s = s0
  · subst e
    have him : i = m := by
      have e1 := List.getElem?_eq_some_iff.mp hs'
      have e2 := List.getElem?_eq_some_iff.mp hs
      obtain ⟨l1, e1⟩ := e1
      obtain ⟨l2, e2⟩ := e2
      exact (List.getElem_inj hn).mp (e1.trans e2.symm)
    subst him
    have : a = a0 := Option.some.inj (ha'.symm.trans ha)
    subst this
    rw [upd_same]
    show some (HO.lst (g.map V.str)) = some (HO.lst ((if s = s then g else f s).map V.str))
    rw [if_pos rfl]
  · have na : a ≠ a0 := by
      intro ea
      subst ea
      obtain ⟨l1, e1⟩ := List.getElem?_eq_some_iff.mp ha'
      obtain ⟨l2, e2⟩ := List.getElem?_eq_some_iff.mp ha
      have him : i = m := (List.getElem_inj hl).mp (e1.trans e2.symm)
      subst him
      exact e (Option.some.inj (hs'.symm.trans hs))
    rw [upd_ne na]
    show H a = some (HO.lst ((if s = s0 then g else f s).map V.str))
    rw [if_neg e]
    exact h3 i s a hs' ha'
theorem tup_lst {H : Hp} {a : Addr} {xs ys : List V} (h : H a = some (.lst xs)) : TupK H (upd H a (.lst ys)) := fun b zs hb => by
  rw [upd_ne (ne_of hb h (fun z => by cases z))]
  exact hb
theorem TupK.trans {H H1 H2 : Hp} (e : TupK H H1) (e2 : TupK H1 H2) : TupK H H2 := fun a xs h => e2 a xs (e a xs h)
theorem TupK.of {H H1 : Hp} (e : Ex H H1) : TupK H H1 := fun a xs h => e _ _ h
/-- clocks: a dict from names to tuples of names -/
def CkAt (H : Hp) (d : Addr) (ck : Str → List Str) (L : List Str) : Prop := ∃ kv, H d = some (.dK kv) ∧ ∀ s ∈ L, ∃ p, valV kv (.inr s) = some (.ref p) ∧ H p = some (.tup ((ck s).map V.str))
theorem CkAt.up {H H2 : Hp} {d : Addr} {ck : Str → List Str} {L : List Str} (h : CkAt H d ck L) (e : Ex H H2) : CkAt H2 d ck L := by
  obtain ⟨kv, h1, h2⟩ := h
  refine ⟨kv, e _ _ h1, fun s hs => ?_⟩
  obtain ⟨p, h3, h4⟩ := h2 s hs
  exact ⟨p, h3, e _ _ h4⟩
def lastS (l : List Str) : List Str := l.drop (l.length - 1)
theorem cut_last (l : List Str) : cutV (l.map V.str) (some (-1)) none = (lastS l).map V.str := by
  unfold cutV lastS
  rw [List.length_map, HT.sIx_none, List.map_drop]
  have e : HT.sIx l.length 0 (some (-1)) = l.length - 1 := by
    unfold HT.sIx
    simp only
    split <;> omega
  rw [e, List.take_of_length_le]
  rw [List.length_drop, List.length_map]
  exact Nat.le_refl _
theorem last_len (l : List Str) : (lastS l).length ≤ 1 := by
  unfold lastS
  rw [List.length_drop]
  omega
theorem now_len {r : Rw} (h : r.good) : r.now.length ≤ 729 := by
  cases r with
  | pl n t => exact flat_729 (by have := h.2.2; omega)
  | vd k n v x => rcases k with _ | _ | k <;> simp [Rw.now]
  | wh n x y => simp [Rw.now]
  | sm ns => simp [Rw.now]
  | cl os nd xs => simp [Rw.now]
/-- what a name reads, by its clock and the first rows -/
def someBy (ck : Str → List Str) (rs : List Rw) (s : Str) : List Str := lastS (ck s) ++ rs.flatMap fun r => if r.tells.contains s then r.now else []
def readsBy (ck : Str → List Str) (n : Nd) (s : Str) : List Str := n.names.filter fun o => (someBy ck n.rows s).contains o
theorem some_len {ck : Str → List Str} {s : Str} : ∀ {rs : List Rw}, (∀ r ∈ rs, r.good) → (someBy ck rs s).length ≤ 1 + rs.length * 729 := by
  intro rs h
  unfold someBy
  rw [List.length_append]
  have h1 := last_len (ck s)
  have h2 : (rs.flatMap fun r => if r.tells.contains s then r.now else []).length ≤ rs.length * 729 := by
    clear h1
    induction rs with
    | nil => simp
    | cons r rs ih =>
      have ih' := ih fun q hq => h q (List.mem_cons_of_mem _ hq)
      have hr := now_len (h r List.mem_cons_self)
      rw [List.flatMap_cons, List.length_append, List.length_cons, Nat.succ_mul]
      have : (if r.tells.contains s then r.now else []).length ≤ 729 := by split <;> simp [hr]
      omega
  omega
theorem some_snoc {ck : Str → List Str} {rs : List Rw} {r : Rw} {s : Str} : someBy ck (rs ++ [r]) s = someBy ck rs s ++ if r.tells.contains s then r.now else [] := by
  unfold someBy
  rw [List.flatMap_append, List.append_assoc, List.flatMap_singleton]
def sp_reads_of (Z : Adr) : Sp := fun vs H Q _ => ∃ n v cd ck, vs = [v, .ref cd] ∧ NdAt Z H n v ∧ n.good ∧ n.nocalls ∧ CkAt H cd ck n.names ∧ ∀ d ls H2, Ex H H2 → H d = none → (∀ a ∈ ls, H a = none) → ls.Nodup → d ∉ ls → DLs H2 d n.names ls (readsBy ck n) → Q (.ref d) H2
theorem c_slA {H : Hp} {Q : VK} {a : Addr} {xs : List V} {lo hi : Option Int} (h : SqT K H a xs) (k : ∀ p H2, Ex H H2 → SqT K H2 p (cutV xs lo hi) → Q (.ref p) H2) : rSlA K (.ref a) lo hi H Q := by
  refine ⟨a, xs, rfl, h, fun ⟨z1, z2⟩ => k a H (Ex.refl _) ?_, fun _ p hp => k p _ (Ex.new hp) (SqT.of upd_same)⟩
  unfold cutV
  rw [z1, z2, List.drop_zero, Nat.sub_zero, List.take_length]
  exact h
/-- the first loop: the clocks' last names -/
def RJ (H : Hp) (l sd : Addr) (ns : List Str) (f : Str → List Str) (m : Nat) (G : Hp) : Prop := Ex H G ∧ H sd = none ∧ ∃ ls, DLs G sd (ns.take m) ls f ∧ ls.Nodup ∧ (∀ a ∈ ls, H a = none) ∧ sd ∉ ls ∧ l ∉ ls
theorem reads_fm {ck : Str → List Str} {n : Nd} {s : Str} : (n.names.map V.str).filterMap (fun y => if inV y ((someBy ck n.rows s).map V.str) = true then some y else none) = (readsBy ck n s).map V.str := by
  unfold readsBy
  generalize n.names = l
  induction l with
  | nil => rfl
  | cons a l ih =>
    rw [List.map_cons, List.filterMap_cons, inV_str, List.filter_cons, ih]
    cases hc : (someBy ck n.rows s).contains a <;> simp
/-- one list more in the dict -/
theorem rj_snoc {H G G4 : Hp} {l d la : Addr} {ns : List Str} {ls : List Addr} {f : Str → List Str} {i : Nat} {s : Str} {xs : List V} (hs : ns[i]? = some s) (hla : G la = none) (hla1 : H la = none) (nlas : la ≠ d) (eG : Ex H G) (hd : H d = none) (hll : ls.length = (ns.take i).length)
    (hls : ∀ (i_1 : Nat) s a, (ns.take i)[i_1]? = some s → ls[i_1]? = some a → G a = some (.lst ((f s).map V.str))) (hln : ls.Nodup) (hlf : ∀ a ∈ ls, H a = none) (hsn : d ∉ ls) (hlnl : l ∉ ls) (gl : H l = some (.lst xs)) (f4 : Ex G G4) (g4 : G4 la = some (.lst ((f s).map V.str))) :
    RJ H l d ns f (i + 1) (upd G4 d (.dK (dlK (ns.take i) ls ++ [((.inr s : Key), V.ref la)]))) := by
  have hil := (List.getElem?_eq_some_iff.mp hs).1
  have hlt : (ns.take i).length = i := by rw [List.length_take]; omega
  have hlal : la ∉ ls := fun hm => by
    obtain ⟨j, hj, he⟩ := List.mem_iff_getElem.mp hm
    have hj2 : ls[j]? = some la := by rw [List.getElem?_eq_getElem hj, he]
    have := hls j ((ns.take i)[j]'(by omega)) la (List.getElem?_eq_getElem (by omega)) hj2
    rw [hla] at this
    cases this
  have etk : ns.take (i + 1) = ns.take i ++ [s] := by rw [List.take_add_one, hs]; rfl
  refine ⟨Ex.mut (eG.trans f4) hd, hd, ls ++ [la], ⟨by rw [etk, List.length_append, List.length_append, hll]; rfl, ?_, fun j z a' hz ha' => ?_⟩, ?_, fun a' ha' => ?_, fun hm => ?_, fun hm => ?_⟩
  · rw [upd_same, etk, dlK_snoc hll]
  · rw [etk] at hz
    rcases Nat.lt_or_ge j (ns.take i).length with hj | hj
    · rw [List.getElem?_append_left hj] at hz
      rw [List.getElem?_append_left (by omega)] at ha'
      have h4 := hls j z a' hz ha'
      have : a' ≠ d := fun e => hsn (by rw [← e]; exact List.mem_of_getElem? ha')
      rw [upd_ne this]
      exact f4 _ _ h4
    · rw [List.getElem?_append_right hj] at hz
      rw [List.getElem?_append_right (by omega)] at ha'
      have hj0 : j - (ns.take i).length = 0 := by
        have := (List.getElem?_eq_some_iff.mp hz).1
        rw [List.length_singleton] at this
        omega
      rw [hll, hj0] at ha'
      rw [hj0] at hz
      have e1 : s = z := by simpa using hz
      have e2 : la = a' := by simpa using ha'
      subst e1 e2
      rw [upd_ne nlas]
      exact g4
  · rw [List.nodup_append]
    refine ⟨hln, by simp, fun x hx y hy e => hlal ?_⟩
    have : y = la := by simpa using hy
    rw [← this, ← e]
    exact hx
  · rcases List.mem_append.mp ha' with h | h
    · exact hlf a' h
    · have : a' = la := by simpa using h
      rw [this]
      exact hla1
  · rcases List.mem_append.mp hm with h | h
    · exact hsn h
    · have : d = la := by simpa using h
      exact nlas this.symm
  · rcases List.mem_append.mp hm with h | h
    · exact hlnl h
    · have : l = la := by simpa using h
      rw [this, hla1] at gl
      cases gl
theorem ok_reads_of (T : Txt K mg Z)  : FnOk P w K mg base CX0 (11) Z.f_reads_of Z.fd_reads_of ["node", "clocks"] (sp_reads_of Z) := by
  have G_names_of := ok_names_of (P := P) (w := w) (base := base) T
  have G_told_by := ok_told_by (P := P) (w := w) (base := base) T
  have G_mentioned_now := ok_mentioned_now (P := P) (w := w) (base := base) T
  refine T.F_reads_of.ok sc_reads_of (fun vs H Q E h => ?_) (fun cdv AA outer s H vs Q E hr h => ?_)
  · obtain ⟨n, v, cd, ck, rfl, _⟩ := h
    rfl
  · obtain ⟨n, v, cd, ck, rfl, hN, hg, hnc, hck, k⟩ := h
    have GMN_told := gmN_told (P := P) (w := w) (base := base) T
    obtain ⟨a, dx, fs, rfl, ha, hlk⟩ := hN.cls
    have hnd := hg.all
    have hn1 := hg.all1
    have hr1 := hg.row1
    refine ⟨_, (pss_cons (ps_set (i := 2) sc_reads_of.nd rfl (Or.inl rfl) (pe_call G_names_of (hr.mono (by omega)) rfl T.g_names_of T.F_names_of.kp T.b_names_of .nil pass0 (pa_cons (pv 0) pa_nil)))
      (pss_cons (ps_set (i := 3) sc_reads_of.nd rfl (Or.inr rfl) pe_dnewK)
      (Evl.pss_cut (ps_for PassesOwn.never rfl (pi_list (pv 2)) (pg_name (i := 4) sc_reads_of.nd rfl (Or.inr rfl)) (pss_one (ps_dput (hu_of hr) (pv 3) (pv 4) (pe_callTy call_list_of (by rfl) T.n_list (by decide +kernel) (pa_cons (pe_slice sl_tupA (pe_dget (hu_of hr) (pv 1) (pv 4) (fun _ _ => rfl)) (po_some (pe_un un_neg pe_int)) po_none) pa_nil)) rfl)))
      (Evl.pss_cut (ps_for PassesOwn.never rfl (pi_tup (pe_ix ix_tup (pe_methP0 (pv 0) GMN_told (hr.mono (by omega)) pass0) pe_int (fun _ _ => rfl))) (pg_name (i := 5) sc_reads_of.nd rfl (Or.inl rfl)) (pss_one (ps_for PassesOwn.never rfl (pi_tup (pe_call G_told_by (hr.mono (by omega)) rfl T.g_told_by T.F_told_by.kp T.b_told_by .nil pass0 (pa_cons (pv 5) pa_nil))) (pg_name (i := 4) sc_reads_of.nd rfl (Or.inr rfl)) (pss_one (ps_expr (pe_bm PySem.F.plainAttrs_list PySem.F.slot_list_extend PySem.F.type_list_extend mt_extend (pe_dget (hu_of hr) (pv 3) (pv 4) (fun _ _ => rfl)) (pa_cons (pe_call G_mentioned_now (hr.mono (by omega)) rfl T.g_mentioned_now T.F_mentioned_now.kp T.b_mentioned_now .nil pass0 (pa_cons (pv 5) pa_nil)) pa_nil)))))))
      (pss_cons (ps_set (i := 6) sc_reads_of.nd rfl (Or.inl rfl) pe_dnewK)
      (Evl.pss_cut (ps_for PassesOwn.never rfl (pi_list (pv 2)) (pg_name (i := 4) sc_reads_of.nd rfl (Or.inr rfl)) (pss_one (ps_dput (hu_of hr) (pv 6) (pv 4) (pe_lc (own := [("other", 7)]) (g := (gName 7)) (tt := (tTest (tOp (rIn K false) (tVar 7) (tDGet (tVar 3) (tVar 4))))) (te := (tVar 7)) rfl sc_reads_of.nd (pi_list (pv 2)) (blkOk_by (own := [("other", 7)]) (N := N_reads_of) (sc := defScope s_reads_of) (by decide +kernel)) (fun _ _ _ _ _ => (pg_name (i := 7) sc_reads_of.nd rfl (Or.inl rfl))) (fun _ _ _ _ _ => (pts_one (pt_cmpR op_in_seq (pv 7) (pe_dget (hu_of hr) (pv 3) (pv 4) (fun _ _ => rfl)) (by rfl)))) (fun _ _ _ _ _ => (pv 7))) rfl)))
      (pss_one (ps_ret (pv 6))))))))), ?_⟩
    walk_at "ss"
    refine ⟨n, _, rfl, hN, hg, hnc, fun l H1 hl e1 g1 => ?_⟩
    walk_at "ss"
    intro sd hsd
    have e2 : Ex H1 (upd H1 sd (.dK [])) := Ex.new hsd
    have g2 : upd H1 sd (.dK []) sd = some (.dK []) := upd_same
    generalize upd H1 sd (.dK []) = H2 at e2 g2
    have e12 := e1.trans e2
    have nls : l ≠ sd := ne_of_none g1 hsd
    walk_at "ss"
    refine c_cut (M := fun σ' G => (∃ v4 v5 v6 v7, σ' = [some (.ref a), some (.ref cd), some (.ref l), some (.ref sd), v4, v5, v6, v7]) ∧ RJ H1 l sd n.names (fun s => lastS (ck s)) n.names.length G) ?_ ?_
    · walk_at "ss"
      refine ⟨⟨_, SqL.of (e2 _ _ g1)⟩, forL (xs := n.names.map V.str) (fun i σ' G => (∃ v4 v5 v6 v7, σ' = [some (.ref a), some (.ref cd), some (.ref l), some (.ref sd), v4, v5, v6, v7]) ∧ RJ H1 l sd n.names (fun s => lastS (ck s)) i G) ⟨⟨_, _, _, _, rfl⟩, e2, hsd, [], ⟨rfl, g2, fun i s a h => by simp at h⟩, List.nodup_nil, (fun a h => by cases h), (fun h => by cases h), fun h => by cases h⟩ (fun i σ' G _ q => SqL.of (q.2.1 _ _ g1)) ?_ ?_⟩
      · rintro i x σ' G hx ⟨⟨v4, v5, v6, v7, rfl⟩, eG, _, ls, ⟨hll, gsd, hls⟩, hln, hlf, hsn, hlnl⟩
        rw [List.getElem?_map] at hx
        obtain ⟨s, hs, rfl⟩ := Option.map_eq_some_iff.mp hx
        have hil := (List.getElem?_eq_some_iff.mp hs).1
        obtain ⟨kv, gcd, hkv⟩ := hck
        obtain ⟨p, hp1, hp2⟩ := hkv s (List.mem_of_getElem? hs)
        have eHG := e1.trans eG
        walk_at "ss"
        refine ⟨cd, _, rfl, by rw [← hp1]; exact dgetK (eHG _ _ gcd), ?_⟩
        walk_at "ss"
        refine c_slA (SqT.of (eHG _ _ hp2)) fun q G2 f2 hq => ?_
        rw [cut_last] at hq
        walk_at "ss"
        refine ⟨_, _, rfl, .inr hq, fun la hla => ?_⟩
        have f3 : Ex G2 (upd G2 la (.lst ((lastS (ck s)).map V.str))) := Ex.new hla
        have g3 : upd G2 la (.lst ((lastS (ck s)).map V.str)) la = some (.lst ((lastS (ck s)).map V.str)) := upd_same
        generalize upd G2 la (.lst ((lastS (ck s)).map V.str)) = G3 at f3 g3
        have f23 := f2.trans f3
        have hlaG : G la = none := fresh_back f2 hla
        have hla1 : H1 la = none := fresh_back eG hlaG
        have nlas : la ≠ sd := (ne_of_none gsd hlaG).symm
        have hlt : (n.names.take i).length = i := by rw [List.length_take]; omega
        have hnot : valV (dlK (n.names.take i) ls) (.inr s) = none := valV_nokey (dlK_keys hll) (fun z => nodup_at hnd hs z (Nat.le_refl _) rfl)
        have hdl := dlK_len hll
        walk_at "ss"
        refine ⟨sd, _, rfl, .inl ⟨_, .inr s, f23 _ _ gsd, rfl, Evl.sz_lt (by omega), rfl⟩, ?_⟩
        walk_at "ss"
        rw [putK_new _ hnot]
        have hlal : la ∉ ls := fun hm => by
          obtain ⟨j, hj, he⟩ := List.mem_iff_getElem.mp hm
          have hj2 : ls[j]? = some la := by rw [List.getElem?_eq_getElem hj, he]
          have := hls j ((n.names.take i)[j]'(by omega)) la (List.getElem?_eq_getElem (by omega)) hj2
          rw [hlaG] at this
          cases this
        have etk : n.names.take (i + 1) = n.names.take i ++ [s] := by rw [List.take_add_one, hs]; rfl
        refine ⟨⟨_, _, _, _, rfl⟩, Ex.mut (eG.trans f23) hsd, hsd, ls ++ [la], ⟨by rw [etk, List.length_append, List.length_append, hll]; rfl, ?_, fun j z a' hz ha' => ?_⟩, ?_, fun a' ha' => ?_, fun hm => ?_, fun hm => ?_⟩
        · rw [upd_same, etk, dlK_snoc hll]
        · rw [etk] at hz
          rcases Nat.lt_or_ge j (n.names.take i).length with hj | hj
          · rw [List.getElem?_append_left hj] at hz
            rw [List.getElem?_append_left (by omega)] at ha'
            have h4 := hls j z a' hz ha'
            have : a' ≠ sd := fun e => hsn (by rw [← e]; exact List.mem_of_getElem? ha')
            rw [upd_ne this]
            exact f23 _ _ h4
          · rw [List.getElem?_append_right hj] at hz
            rw [List.getElem?_append_right (by omega)] at ha'
            have hj0 : j - (n.names.take i).length = 0 := by
              have := (List.getElem?_eq_some_iff.mp hz).1
              rw [List.length_singleton] at this
              omega
            rw [hll, hj0] at ha'
            rw [hj0] at hz
            have e1 : s = z := by simpa using hz
            have e2 : la = a' := by simpa using ha'
            subst e1 e2
            rw [upd_ne nlas]
            exact g3
        · rw [List.nodup_append]
          refine ⟨hln, by simp, fun x hx y hy e => hlal ?_⟩
          have : y = la := by simpa using hy
          rw [← this, ← e]
          exact hx
        · rcases List.mem_append.mp ha' with h | h
          · exact hlf a' h
          · have : a' = la := by simpa using h
            rw [this]
            exact hla1
        · rcases List.mem_append.mp hm with h | h
          · exact hsn h
          · have : sd = la := by simpa using h
            exact nlas this.symm
        · rcases List.mem_append.mp hm with h | h
          · exact hlnl h
          · have : l = la := by simpa using h
            rw [this, hla1] at g1
            cases g1
      · rintro σ' G ⟨⟨v4, v5, v6, v7, rfl⟩, hJ⟩
        walk_at "ss"
        rw [List.length_map] at hJ
        exact ⟨⟨_, _, _, _, rfl⟩, hJ⟩
    · rintro σ' G1 ⟨⟨v4, v5, v6, v7, rfl⟩, eG1, _, ls, hD0, hln, hlf, hsn, hlnl⟩
      rw [List.take_length] at hD0
      have e1G := e1.trans eG1
      walk_at "ss"
      refine c_cut (M := fun σ' G => (∃ v4 v5 v6 v7, σ' = [some (.ref a), some (.ref cd), some (.ref l), some (.ref sd), v4, v5, v6, v7]) ∧ Ex H1 G ∧ DLs G sd n.names ls (someBy ck n.rows)) ?_ ?_
      · walk_at "ss"
        refine ⟨a, _, dx, _, rfl, e1G _ _ ha, rfl, hlk, ?_⟩
        walk_at "ss"
        refine ⟨n, _, rfl, hN.up e1G, hg, fun u G2 f2 hT => ?_⟩
        obtain ⟨b, p, q, t, us, rfl, gb, gp, gq, gt, hrw⟩ := hT
        walk_at "ss"
        refine c_ixT (SqT.of gb) rfl ?_
        refine ⟨t, rfl, ⟨_, SqT.of gt⟩, forT (xs := us) (fun i σ' G => (∃ v4 v5 v6 v7, σ' = [some (.ref a), some (.ref cd), some (.ref l), some (.ref sd), v4, v5, v6, v7]) ∧ Ex H1 G ∧ TupK G2 G ∧ DLs G sd n.names ls (someBy ck (n.rows.take i))) ⟨⟨_, _, _, _, rfl⟩, eG1.trans f2, TupK.of (Ex.refl _), (hD0.up f2).congr fun s _ => by unfold someBy; simp⟩ (fun i σ' G _ q => SqT.of (q.2.2.1 _ _ gt)) ?_ ?_⟩
        · rintro i x σ' G hx ⟨⟨v4, v5, v6, v7, rfl⟩, eG, tG, hD⟩
          obtain ⟨r, hr2, hR⟩ := paired_ix hrw hx
          have hrm := List.mem_of_getElem? hr2
          have hgr := (hg.row r hrm).1
          have hil := (List.getElem?_eq_some_iff.mp hr2).1
          walk_at "ss"
          refine ⟨r, _, rfl, hR.tu tG, hnc r hrm, fun tp G3 htp f3 m3 => ?_⟩
          walk_at "ss"
          refine ⟨⟨_, SqT.of m3⟩, forT (xs := r.tells.map V.str) (fun j σ' G' => (∃ v4 v6 v7, σ' = [some (.ref a), some (.ref cd), some (.ref l), some (.ref sd), v4, some x, v6, v7]) ∧ Ex H1 G' ∧ TupK G3 G' ∧ DLs G' sd n.names ls (fun s => someBy ck (n.rows.take i) s ++ if (r.tells.take j).contains s then r.now else [])) ⟨⟨_, _, _, rfl⟩, eG.trans f3, TupK.of (Ex.refl _), (hD.up f3).congr fun s _ => by simp⟩ (fun j σ' G' _ q => SqT.of (q.2.2.1 _ _ m3)) ?_ ?_⟩
          · rintro j y σ' G' hy ⟨⟨v4, v6, v7, rfl⟩, eG', tG', hD'⟩
            rw [List.getElem?_map] at hy
            obtain ⟨s, hs, rfl⟩ := Option.map_eq_some_iff.mp hy
            have hsn' : s ∈ n.names := List.mem_append_right _ (List.mem_flatMap.mpr ⟨r, hrm, List.mem_of_getElem? hs⟩)
            obtain ⟨m, am, hm1, hm2⟩ := dlK_at hD'.1 hsn'
            have hnotin : s ∉ r.tells.take j := fun z => names_split hnd hr2 hs (List.mem_append_right _ z)
            have gam : G' am = some (.lst ((someBy ck (n.rows.take i) s ++ if (r.tells.take j).contains s then r.now else []).map V.str)) := hD'.2.2 m s am hm1 hm2
            have hsl := some_len (ck := ck) (s := s) (rs := n.rows.take i) (fun q hq => (hg.row q (List.mem_of_mem_take hq)).1)
            have hnl := now_len hgr
            have htl : (n.rows.take i).length ≤ 300 := by rw [List.length_take]; omega
            have hmul := Nat.mul_le_mul_right 729 htl
            walk_at "ss"
            refine ⟨sd, _, rfl, by rw [← dlK_get hnd hm1 hm2]; exact dgetK hD'.2.1, ?_⟩
            walk_at "ss"
            refine ⟨.inl ⟨rfl, _, SqL.of gam⟩, ?_⟩
            walk_at "ss"
            refine ⟨r, _, rfl, (hR.tu tG).tu (TupK.trans (TupK.of f3) tG'), hgr, hnc r hrm, fun nl G4 hnl4 f4 m4 => ?_⟩
            walk_at "ss"
            have econt : (r.tells.take j).contains s = false := by
              cases hc : (r.tells.take j).contains s with
              | false => rfl
              | true => exact absurd (List.contains_iff_mem.mp hc) hnotin
            rw [econt] at gam
            refine ⟨am, nl, _, _, rfl, rfl, f4 _ _ gam, m4, by rw [sizeLine_eq, List.length_map, List.length_map, List.length_append]; simp only [Bool.false_eq_true, ↓reduceIte, List.length_nil]; omega, ?_⟩
            walk_at "ss"
            have hamf : H1 am = none := hlf am (List.mem_of_getElem? hm2)
            refine ⟨⟨_, _, _, rfl⟩, Ex.mut (eG'.trans f4) hamf, TupK.trans (TupK.trans tG' (TupK.of f4)) (tup_lst (f4 _ _ gam)), ?_⟩
            rw [← List.map_append]
            refine ((hD'.up f4).chg hnd hln hsn hm1 hm2 _).congr fun z hz => ?_
            rw [List.take_add_one, hs]
            by_cases ez : z = s
            · subst ez
              rw [if_pos rfl]
              simp
            · rw [if_neg ez]
              congr 1
              simp [ez]
          · rintro σ' G' ⟨⟨v4, v6, v7, rfl⟩, eG', tG', hD'⟩
            walk_at "ss"
            rw [List.length_map, List.take_length] at hD'
            refine ⟨⟨_, _, _, _, rfl⟩, eG', TupK.trans tG (TupK.trans (TupK.of f3) tG'), hD'.congr fun z hz => ?_⟩
            rw [List.take_add_one, hr2]
            exact some_snoc.symm
        · rintro σ' G ⟨⟨v4, v5, v6, v7, rfl⟩, eG, tG, hD⟩
          walk_at "ss"
          rw [← paired_len hrw, List.take_length] at hD
          exact ⟨⟨_, _, _, _, rfl⟩, eG, hD⟩
      · rintro σ' G2 ⟨⟨v4, v5, v6, v7, rfl⟩, eG2, hD2⟩
        walk_at "ss"
        intro fd hfd
        have hfd1 : H1 fd = none := fresh_back eG2 hfd
        have f3 : Ex G2 (upd G2 fd (.dK [])) := Ex.new hfd
        have g3 : upd G2 fd (.dK []) fd = some (.dK []) := upd_same
        generalize upd G2 fd (.dK []) = G3 at f3 g3
        have eH3 := eG2.trans f3
        walk_at "ss"
        refine c_cut (M := fun σ' G => (∃ v4 v5 v7, σ' = [some (.ref a), some (.ref cd), some (.ref l), some (.ref sd), v4, v5, some (.ref fd), v7]) ∧ RJ G2 l fd n.names (readsBy ck n) n.names.length G) ?_ ?_
        · walk_at "ss"
          refine ⟨⟨_, SqL.of (eH3 _ _ g1)⟩, forL (xs := n.names.map V.str) (fun i σ' G => (∃ v4 v5 v7, σ' = [some (.ref a), some (.ref cd), some (.ref l), some (.ref sd), v4, v5, some (.ref fd), v7]) ∧ RJ G2 l fd n.names (readsBy ck n) i G) ⟨⟨_, _, _, rfl⟩, f3, hfd, [], ⟨rfl, g3, fun i s a h => by simp at h⟩, List.nodup_nil, (fun a h => by cases h), (fun h => by cases h), fun h => by cases h⟩ (fun i σ' G _ q => SqL.of (q.2.1 _ _ (eG2 _ _ g1))) ?_ ?_⟩
          · rintro i x σ' G hx ⟨⟨v4, v5, v7, rfl⟩, eG, _, ls', ⟨hll, gfd, hls⟩, hln', hlf', hfn, hlnl'⟩
            rw [List.getElem?_map] at hx
            obtain ⟨s, hs, rfl⟩ := Option.map_eq_some_iff.mp hx
            have hil := (List.getElem?_eq_some_iff.mp hs).1
            obtain ⟨m, am, hm1, hm2⟩ := dlK_at hD2.1 (List.mem_of_getElem? hs)
            have gam := eG _ _ (hD2.2.2 m s am hm1 hm2)
            have gsd := eG _ _ hD2.2.1
            walk_at "ss"
            have hokn : ∀ z ∈ n.names, goodN z := fun z hz => by
              rcases List.mem_append.mp hz with h | h
              · exact hg.inG z h
              · obtain ⟨r, hr, hz2⟩ := List.mem_flatMap.mp h
                exact row_tells_good (hg.row r hr).1 z hz2
            refine ⟨⟨_, SqL.of (eG _ _ (eG2 _ _ g1))⟩, lcLv (fun y => if inV y ((someBy ck n.rows s).map V.str) then some y else none) (SqL.of (eG _ _ (eG2 _ _ g1))) (by rw [List.length_map]; omega) (fun y hy F2 f2 R hR => ?_) ?_⟩
            · obtain ⟨z, hz, rfl⟩ := List.mem_map.mp hy
              walk_at "ss"
              refine ⟨sd, _, rfl, by rw [← dlK_get hnd hm1 hm2]; exact dgetK (f2 _ _ gsd), ?_⟩
              refine c_in (.inl (SqL.of (f2 _ _ gam))) rfl flat_strs ?_
              have hR' := hR _ (Ex.refl _)
              refine ⟨_, rfl, if_cs (fun hc => ?_) (fun hc => ?_)⟩
              · walk_at "ss"
                rw [if_pos hc] at hR'
                exact hR'
              · rw [if_neg (by rw [hc]; decide)] at hR'
                exact hR'
            intro la G4 hla f4 g4
            rw [reads_fm] at g4
            have hla2 : G2 la = none := fresh_back eG hla
            have nlas : la ≠ fd := (ne_of_none gfd hla).symm
            have hnot : valV (dlK (n.names.take i) ls') (.inr s) = none := valV_nokey (dlK_keys hll) (fun z => nodup_at hnd hs z (Nat.le_refl _) rfl)
            have hdl := dlK_len hll
            have hlt : (n.names.take i).length = i := by rw [List.length_take]; omega
            walk_at "ss"
            refine ⟨fd, _, rfl, .inl ⟨_, .inr s, f4 _ _ gfd, rfl, Evl.sz_lt (by omega), rfl⟩, ?_⟩
            walk_at "ss"
            rw [putK_new _ hnot]
            exact ⟨⟨_, _, _, rfl⟩, rj_snoc hs hla hla2 nlas eG hfd hll hls hln' hlf' hfn hlnl' (eG2 _ _ g1) f4 g4⟩
          · rintro σ' G ⟨⟨v4, v5, v7, rfl⟩, hJ⟩
            rw [List.length_map] at hJ
            walk_at "ss"
            exact ⟨⟨_, _, _, rfl⟩, hJ⟩
        · rintro σ' G ⟨⟨v4, v5, v7, rfl⟩, eG, _, ls', hD3, hln', hlf', hfn, hlnl'⟩
          rw [List.take_length] at hD3
          walk_at "ss"
          exact k fd ls' G (e1.trans (eG2.trans eG)) (fresh_back (e1.trans eG2) hfd) (fun z hz => fresh_back (e1.trans eG2) (hlf' z hz)) hln' hfn hD3

/-! ### the drawing of nodes: things in another order -/
open TL (tl)
/-- l != [] -/
def rNeNil (K : PySem.W.Frag) : R2 := fun x y H Q => ∃ (a b : Addr) (xs : List V), x = .ref a ∧ y = .ref b ∧ SqL K H a xs ∧ SqL K H b [] ∧ Q (.bl (!xs.isEmpty)) H
theorem op_neNil {X : Cx} (hu : X.A.units + 68 < cLine) : OpR X (compareOp .NotEq) (rNeNil X.K) := by
  intro pins s σ H x y v u Q I rx ry h
  obtain ⟨a, b, xs, rfl, rfl, ha, hb, q⟩ := h
  cases (show v = Value.ref a from rx)
  cases (show u = Value.ref b from ry)
  obtain ⟨us, r1, p1, _⟩ := I.list ha
  obtain ⟨ws, r2, p2, _⟩ := I.list hb
  cases r2
  cases xs with
  | nil =>
    cases r1
    exact NeL.lists_ne p1.isList p2.isList rfl (by omega) (fun j h1 h2 => absurd h1 (Nat.not_lt_zero j)) _ _ ⟨.bl false, H, I, rfl, q⟩
  | cons z zs =>
    cases r1
    exact SeqAt.RcNeAt.lists_lengths p1.isList p2.isList (by simp) (by omega) X.prog X.w _ _ ⟨.bl true, H, I, rfl, q⟩
def sp_mixed_l : Sp := fun vs H Q _ => ∃ (α : Type) (f : α → V) (b l : Addr) (ns : List α), vs = [.ref b, .ref l] ∧ BoxAt H b ∧ H l = some (.lst (ns.map f)) ∧ ns.length ≤ 300 ∧ ∀ (ms : List α) p H2, ms.Perm ns → H p = none → ExB b H H2 → BoxAt H2 b → H2 p = some (.lst (ms.map f)) → Q (.ref p) H2
theorem map_erase {α β : Type} (f : α → β) : ∀ (l : List α) (j : Nat), (l.eraseIdx j).map f = (l.map f).eraseIdx j
  | [], _ => rfl
  | _ :: _, 0 => rfl
  | a :: l, j + 1 => by
    show f a :: (l.eraseIdx j).map f = f a :: (l.map f).eraseIdx j
    rw [map_erase f l j]
theorem erase_perm {α : Type} : ∀ {l : List α} {j : Nat} (h : j < l.length), (l[j] :: l.eraseIdx j).Perm l
  | a :: l, 0, _ => List.Perm.refl _
  | a :: l, j + 1, h => by
    have hj : j < l.length := by rw [List.length_cons] at h; omega
    have ih := erase_perm (l := l) (j := j) hj
    exact (List.Perm.swap a l[j] _).trans (List.Perm.cons a ih)
theorem ok_mixed_l (T : Txt K mg Z) : FnOk P w K mg base CX0 2 Z.f_mixed_l Z.fd_mixed_l ["_law_box_here", "_law_some_here"] sp_mixed_l := by
  have G_take_l := ok_take_l (P := P) (w := w) (base := base) T
  refine T.F_mixed_l.ok sc_mixed_l (fun vs H Q E h => ?_) (fun cdv AA outer s H vs Q E hr h => ?_)
  · obtain ⟨α, f, b, l, ns, rfl, _⟩ := h
    rfl
  · obtain ⟨α, f, b, l, ns, rfl, hB, hl, hn, k⟩ := h
    refine ⟨_, (pss_cons (ps_set (i := 2) sc_mixed_l.nd rfl (Or.inl rfl) (pe_callTy call_list_of (by rfl) T.n_list (by decide +kernel) (pa_cons (pv 1) pa_nil)))
      (pss_cons (ps_set (i := 3) sc_mixed_l.nd rfl (Or.inl rfl) (pe_lst pa_nil))
      (pss_cons (ps_while PassesOwn.never (pt_cmpR (op_neNil (hu68 hr)) (pv 2) (pe_lst pa_nil) (nomark _)) (pss_one (ps_expr (pe_bm PySem.F.plainAttrs_list PySem.F.slot_list_append PySem.F.type_list_append mt_append (pv 3) (pa_cons (pe_bm PySem.F.plainAttrs_list PySem.F.slot_list_pop PySem.F.type_list_pop mt_popAt (pv 2) (pa_cons (pe_call G_take_l (hr.mono (by omega)) rfl T.g_take_l T.F_take_l.kp T.b_take_l .nil pass0 (pa_cons (pv 0) (pa_cons (pe_callB call_len_seq (by rfl) T.n_len (by decide +kernel) (pa_cons (pv 2) pa_nil)) pa_nil))) pa_nil)) pa_nil)))))
      (pss_one (ps_ret (pv 3)))))), ?_⟩
    walk_at "ss"
    refine ⟨_, _, rfl, .inl (SqL.of hl), fun lf hlf => ?_⟩
    have e1 : Ex H (upd H lf (.lst (ns.map f))) := Ex.new hlf
    have g1 : upd H lf (.lst (ns.map f)) lf = some (.lst (ns.map f)) := upd_same
    generalize upd H lf (.lst (ns.map f)) = H1 at e1 g1
    walk_at "ss"
    refine newL fun fd H2 hfd e2 g2 => ?_
    walk_at "ss"
    have hfdH : H fd = none := fresh_back e1 hfd
    have nfl : fd ≠ lf := (ne_of_none g1 hfd).symm
    have ob := (hB.up e1).some
    have nlb : lf ≠ b := by
      obtain ⟨o, ho⟩ := hB.some
      exact (ne_of_none ho hlf).symm
    have nfb : fd ≠ b := by
      obtain ⟨o, ho⟩ := ob
      exact (ne_of_none ho hfd).symm
    refine while_by (fun σ' G => σ' = [some (.ref b), some (.ref l), some (.ref lf), some (.ref fd)] ∧ ExB b H G ∧ BoxAt G b ∧ ∃ (fs ls : List α), (fs ++ ls).Perm ns ∧ G fd = some (.lst (fs.map f)) ∧ G lf = some (.lst (ls.map f)))
      (fun σ' G => match G lf with | some (.lst xs) => xs.length | _ => 0) ⟨rfl, ExB.of (e1.trans e2), hB.up (e1.trans e2), [], ns, List.Perm.refl _, g2, e2 _ _ g1⟩ ?_ ?_
    · rintro σ' G ⟨rfl, xG, bG, fs, ls, hperm, gf, gl⟩
      have hlen : fs.length + ls.length = ns.length := by rw [← List.length_append]; exact hperm.length_eq
      walk_at "ss"
      refine newL fun q G1 hq f1 m1 => ?_
      refine ⟨lf, q, _, rfl, rfl, SqL.of (f1 _ _ gl), SqL.of m1, ?_⟩
      walk_at "ss"
      cases ls with
      | nil =>
        refine if_ff (by rfl) ?_
        walk_at "ss"
        rw [List.append_nil] at hperm
        exact k fs fd G1 hperm hfdH (xG.trans (ExB.of f1)) (bG.up f1) (f1 _ _ gf)
      | cons a r =>
        refine if_tt (by rfl) ?_
        walk_at "ss"
        refine ⟨.inl ⟨rfl, _, SqL.of (f1 _ _ gf)⟩, ?_⟩
        walk_at "ss"
        refine ⟨.inl ⟨rfl, _, SqL.of (f1 _ _ gl)⟩, ?_⟩
        walk_at "ss"
        refine ⟨lf, _, rfl, .inl (SqL.of (f1 _ _ gl)), ?_⟩
        walk_at "ss"
        have hlr : ((a :: r).map f).length = r.length + 1 := by rw [List.length_map, List.length_cons]
        have hlen2 : fs.length + (r.length + 1) = ns.length := hlen
        refine ⟨b, _, rfl, bG.up f1, by rw [hlr]; omega, by rw [hlr]; omega, fun d G2 h0 h1 x2 b2 => ?_⟩
        rw [hlr] at h1
        obtain ⟨j, rfl⟩ := Int.eq_ofNat_of_zero_le h0
        have hj : j < (a :: r).length := by rw [List.length_cons]; omega
        have gl2 := x2 _ _ nlb (f1 _ _ gl)
        have gf2 := x2 _ _ nfb (f1 _ _ gf)
        refine ⟨lf, _, _, j, f ((a :: r)[j]'hj), rfl, rfl, gl2, by omega, by omega, ?_, ?_, ?_⟩
        · rw [seqIndex_of (by omega) (by rw [hlr]; omega)]
          rfl
        · rw [List.getElem?_map, List.getElem?_eq_getElem hj] <;> rfl
        have gf3 : upd G2 lf (.lst (((a :: r).map f).eraseIdx j)) fd = some (.lst (fs.map f)) := by rw [upd_ne nfl]; exact gf2
        refine ⟨fd, _, _, rfl, rfl, gf3, Evl.sz_lt (by rw [List.length_map]; omega), ?_⟩
        have he : ((a :: r).map f).eraseIdx j = ((a :: r).eraseIdx j).map f := (map_erase f (a :: r) j).symm
        have gl4 : upd (upd G2 lf (.lst (((a :: r).map f).eraseIdx j))) fd (.lst (fs.map f ++ [f ((a :: r)[j]'hj)])) lf = some (.lst (((a :: r).eraseIdx j).map f)) := by rw [upd_ne nfl.symm, upd_same, he]
        refine ⟨⟨rfl, exB_put (exB_put (xG.trans ((ExB.of f1).trans x2)) hlf) hfdH, box_put (box_put b2 nlb.symm) nfb.symm, fs ++ [(a :: r)[j]'hj], (a :: r).eraseIdx j, ?_, ?_, gl4⟩, ?_⟩
        · rw [List.append_assoc]
          exact (List.Perm.append_left fs (erase_perm hj)).trans hperm
        · rw [upd_same, List.map_append]
          rfl
        · rw [gl4, gl]
          show (((a :: r).eraseIdx j).map f).length < ((a :: r).map f).length
          rw [List.length_map, List.length_map, List.length_eraseIdx_of_lt hj, List.length_cons]
          omega
    · rintro σ' G Q Q' hq ⟨xa, h1, hz, h2⟩
      exact ⟨xa, h1, hz, fun p hp => let ⟨d, e, q1, q2, q3, q4, q5, kk, ek, q⟩ := h2 p hp; ⟨d, e, q1, q2, q3, q4, q5, kk, ek, hq _ _ q⟩⟩

/-! ### names that are drawn: unlike, and names -/
open TL (tl)
/-- the signs of a name: letters, a q among them or just one -/
def PNm (l : List Nat) : Prop := 1 ≤ l.length ∧ l.length ≤ 8 ∧ (∀ c ∈ l, letC c = true) ∧ (113 ∈ l ∨ l.length = 1)
theorem own_noq : ∀ w ∈ ownW, 113 ∉ tl w ∧ (tl w).length ≠ 1 := by decide +kernel
theorem isName_of {t : Str} (h : PNm (tl t)) : isName t = true := by
  obtain ⟨h1, h2, h3, h4⟩ := h
  rw [tl_len] at h1 h2
  unfold isName
  have ho : inV (.str t) ownV = false := by
    unfold ownV
    rw [inV_str]
    cases hc : ownW.contains t with
    | false => rfl
    | true =>
      have := own_noq t (List.contains_iff_mem.mp hc)
      exact absurd h4 (fun z => z.elim this.1 this.2)
  rw [ho, decide_eq_true (by omega : (1 : Int) ≤ t.length), decide_eq_true (by omega : (t.length : Int) ≤ 8), List.all_eq_true.mpr h3]
  rfl
theorem let_ok {c : Nat} (h : letC c = true) : c < 1114112 := by
  unfold letC at h
  rw [Bool.and_eq_true, decide_eq_true_eq, decide_eq_true_eq] at h
  omega
theorem let_nodot {c : Nat} (h : letC c = true) : c ≠ 46 := by
  unfold letC at h
  rw [Bool.and_eq_true, decide_eq_true_eq, decide_eq_true_eq] at h
  omega
theorem tl_dot : tl "." = [46] := by decide +kernel
theorem spl_free : ∀ (l acc : List Nat), 46 ∉ l → TL.spl [46] 0 acc l = [acc ++ l]
  | [], acc, _ => by rw [TL.spl_nil, List.append_nil]
  | c :: r, acc, h => by
    have hc : TL.pre [46] (c :: r) = false := by
      unfold TL.pre
      have : c ≠ 46 := fun e => h (by rw [e]; exact List.mem_cons_self)
      simp [this]
    rw [TL.spl_miss hc, spl_free r (acc ++ [c]) (fun z => h (List.mem_cons_of_mem _ z)), List.append_assoc]
    rfl
theorem spl_two : ∀ (l acc m : List Nat), 46 ∉ l → 46 ∉ m → TL.spl [46] 0 acc (l ++ 46 :: m) = [acc ++ l, m]
  | [], acc, m, _, hm => by
    have hc : TL.pre [46] (46 :: m) = true := by simp [TL.pre]
    rw [List.nil_append, TL.spl_hit hc, List.append_nil]
    show acc :: TL.spl [46] 0 [] m = _
    rw [spl_free m [] hm]
    rfl
  | c :: r, acc, m, h, hm => by
    have hc : TL.pre [46] (c :: (r ++ 46 :: m)) = false := by
      unfold TL.pre
      have : c ≠ 46 := fun e => h (by rw [e]; exact List.mem_cons_self)
      simp [this]
    rw [List.cons_append, TL.spl_miss hc, spl_two r (acc ++ [c]) m (fun z => h (List.mem_cons_of_mem _ z)) hm, List.append_assoc]
    rfl
theorem split_one {t : Str} (h : PNm (tl t)) : Txt.split t "." = [t] := by
  apply TL.map_tl_inj
  rw [TL.split_spl t "." (by decide +kernel) (TL.kind_ok (by decide +kernel)), tl_dot, spl_free _ _ (fun z => let_nodot (h.2.2.1 46 z) rfl)]
  rfl
theorem split_two {a b : Str} (ha : PNm (tl a)) (hb : PNm (tl b)) : Txt.split ((a ++ ".") ++ b) "." = [a, b] := by
  apply TL.map_tl_inj
  rw [TL.split_spl _ "." (by decide +kernel) (TL.kind_ok (by decide +kernel)), tl_dot, TL.tl_append, TL.tl_append, tl_dot, List.append_assoc]
  show TL.spl [46] 0 [] (tl a ++ 46 :: tl b) = _
  rw [spl_two _ _ _ (fun z => let_nodot (ha.2.2.1 46 z) rfl) (fun z => let_nodot (hb.2.2.1 46 z) rfl)]
  rfl
theorem goodN_one {t : Str} (h : PNm (tl t)) : goodN t := by
  have h2 := h.2.1
  rw [tl_len] at h2
  refine ⟨?_, by omega, fun c hc => let_ok (h.2.2.1 c hc)⟩
  unfold isPointed
  rw [split_one h, decide_eq_true (by omega : (t.length : Int) ≤ 80), List.all_cons, isName_of h]
  rfl
theorem goodN_two {a b : Str} (ha : PNm (tl a)) (hb : PNm (tl b)) : goodN ((a ++ ".") ++ b) := by
  have h1 := ha.2.1
  have h2 := hb.2.1
  rw [tl_len] at h1 h2
  have hl : ((a ++ ".") ++ b).length ≤ 20 := by
    rw [add_len, add_len]
    have : ("." : Str).length = 1 := by decide +kernel
    omega
  refine ⟨?_, by omega, ?_⟩
  · unfold isPointed
    rw [split_two ha hb, decide_eq_true (by omega : (((a ++ ".") ++ b).length : Int) ≤ 80), List.all_cons, isName_of ha, List.all_cons, isName_of hb]
    rfl
  · exact ((show OkT a from fun c hc => let_ok (ha.2.2.1 c hc)).app (OkT.lit (by decide +kernel))).app (fun c hc => let_ok (hb.2.2.1 c hc))
/-! the three ways -/
theorem nodup_ix {l : List Str} {f : Nat → List Nat} (h : ∀ (i : Nat) t, l[i]? = some t → tl t = f i) (hf : ∀ i j, i < l.length → j < l.length → f i = f j → i = j) : l.Nodup := by
  unfold List.Nodup
  rw [List.pairwise_iff_getElem]
  intro i j hi hj hij e
  have h1 := h i _ (List.getElem?_eq_getElem hi)
  have h2 := h j _ (List.getElem?_eq_getElem hj)
  rw [e] at h1
  have := hf i j hi hj (h1.symm.trans h2)
  omega
/-- the tail: a q and six letters -/
def Tail (T : List Nat) : Prop := T.length = 7 ∧ (∀ c ∈ T, letC c = true) ∧ ∃ u, T = 113 :: u
def letN (i : Nat) : Nat := 97 + i % 26
theorem letN_ok (i : Nat) : letC (letN i) = true := by
  unfold letC letN
  rw [Bool.and_eq_true, decide_eq_true_eq, decide_eq_true_eq]
  omega
def way0 (T : List Nat) (sh k : Nat) : List Nat := letN (sh + k / 8) :: T.take (k % 8)
def way1 (T : List Nat) (sh at_ k : Nat) : List Nat := T.take at_ ++ letN (sh + 5 * k) :: ((T.drop at_).take (5 - at_) ++ List.replicate (k / 26) 113)
def wordsG : List Str := ["node", "in", "out", "before", "when", "hold", "like", "same", "call", "true", "mod", "beat", "desk"]
def way2 (sh k : Nat) : List Nat := tl (wordsG.getD ((sh + k) % 13) "") ++ List.replicate (1 + k / 13) 113
theorem way0_nm {T : List Nat} (h : Tail T) (sh k : Nat) : PNm (way0 T sh k) := by
  obtain ⟨h1, h2, u, rfl⟩ := h
  unfold way0
  refine ⟨by simp, by rw [List.length_cons, List.length_take]; omega, fun c hc => ?_, ?_⟩
  · rcases List.mem_cons.mp hc with rfl | hc
    · exact letN_ok _
    · exact h2 c (List.mem_of_mem_take hc)
  · rcases Nat.eq_zero_or_pos (k % 8) with e | e
    · right
      rw [e]
      simp
    · left
      obtain ⟨m, hm⟩ : ∃ m, k % 8 = m + 1 := ⟨k % 8 - 1, by omega⟩
      rw [hm, List.take_succ_cons]
      simp
theorem way0_inj {T : List Nat} (h : Tail T) {sh i j : Nat} (hi : i < 200) (hj : j < 200) (e : way0 T sh i = way0 T sh j) : i = j := by
  obtain ⟨h1, _, _⟩ := h
  unfold way0 at e
  injection e with e1 e2
  have e3 := congrArg List.length e2
  rw [List.length_take, List.length_take] at e3
  unfold letN at e1
  omega
theorem way1_nm {T : List Nat} (h : Tail T) {sh at_ k : Nat} (ha : at_ ≤ 5) (hk : k < 52) : PNm (way1 T sh at_ k) := by
  obtain ⟨h1, h2, u, rfl⟩ := h
  unfold way1
  refine ⟨by rw [List.length_append, List.length_cons]; omega, ?_, fun c hc => ?_, ?_⟩
  · rw [List.length_append, List.length_cons, List.length_append, List.length_take, List.length_take, List.length_drop, List.length_replicate]
    omega
  · rcases List.mem_append.mp hc with hc | hc
    · exact h2 c (List.mem_of_mem_take hc)
    · rcases List.mem_cons.mp hc with rfl | hc
      · exact letN_ok _
      · rcases List.mem_append.mp hc with hc | hc
        · exact h2 c (List.mem_of_mem_drop (List.mem_of_mem_take hc))
        · rw [List.eq_of_mem_replicate hc]
          decide
  · left
    rcases Nat.eq_zero_or_pos at_ with e | e
    · subst e
      simp
    · obtain ⟨m, hm⟩ : ∃ m, at_ = m + 1 := ⟨at_ - 1, by omega⟩
      rw [hm, List.take_succ_cons]
      simp
theorem way1_inj {T : List Nat} (h : Tail T) {sh at_ i j : Nat} (ha : at_ ≤ 5) (hi : i < 52) (hj : j < 52) (e : way1 T sh at_ i = way1 T sh at_ j) : i = j := by
  obtain ⟨h1, _, _⟩ := h
  unfold way1 at e
  have e2 := List.append_cancel_left e
  injection e2 with e3 e4
  have e5 := congrArg List.length (List.append_cancel_left e4)
  rw [List.length_replicate, List.length_replicate] at e5
  unfold letN at e3
  omega
theorem words_ok : ∀ w ∈ wordsG, 113 ∉ tl w ∧ 1 ≤ (tl w).length ∧ (tl w).length ≤ 6 ∧ (tl w).all letC = true := by decide +kernel
theorem words_at (i : Nat) : wordsG.getD (i % 13) "" ∈ wordsG := by
  have hl : wordsG.length = 13 := rfl
  have h : i % 13 < wordsG.length := by rw [hl]; omega
  rw [List.getD_eq_getElem?_getD, List.getElem?_eq_getElem h]
  exact List.getElem_mem h
theorem words_inj0 : ∀ i j : Fin 13, tl (wordsG.getD i.val "") = tl (wordsG.getD j.val "") → i = j := by decide +kernel
theorem words_inj (i j : Nat) (hi : i < 13) (hj : j < 13) (e : tl (wordsG.getD i "") = tl (wordsG.getD j "")) : i = j := congrArg Fin.val (words_inj0 ⟨i, hi⟩ ⟨j, hj⟩ e)
theorem rep_inj : ∀ {a b : List Nat} {m n : Nat}, 113 ∉ a → 113 ∉ b → a ++ List.replicate (m + 1) 113 = b ++ List.replicate (n + 1) 113 → a = b ∧ m = n
  | [], [], m, n, _, _, e => by
    have := congrArg List.length e
    simp at this
    exact ⟨rfl, this⟩
  | [], y :: b, m, n, _, hb, e => by
    rw [List.nil_append, List.replicate_succ, List.cons_append] at e
    injection e with e1 _
    exact absurd (by rw [e1]; exact List.mem_cons_self) hb
  | x :: a, [], m, n, ha, _, e => by
    rw [List.nil_append, List.replicate_succ, List.cons_append] at e
    injection e with e1 _
    exact absurd (by rw [← e1]; exact List.mem_cons_self) ha
  | x :: a, y :: b, m, n, ha, hb, e => by
    rw [List.cons_append, List.cons_append] at e
    injection e with e1 e2
    obtain ⟨h1, h2⟩ := rep_inj (fun z => ha (List.mem_cons_of_mem _ z)) (fun z => hb (List.mem_cons_of_mem _ z)) e2
    rw [e1, h1]
    exact ⟨rfl, h2⟩
theorem way2_nm {sh k : Nat} (hk : k < 26) : PNm (way2 sh k) := by
  unfold way2
  obtain ⟨h1, h2, h3, h4⟩ := words_ok _ (words_at (sh + k))
  refine ⟨by rw [List.length_append]; omega, by rw [List.length_append, List.length_replicate]; omega, fun c hc => ?_, .inl ?_⟩
  · rcases List.mem_append.mp hc with hc | hc
    · exact List.all_eq_true.mp h4 c hc
    · rw [List.eq_of_mem_replicate hc]
      decide
  · rw [Nat.add_comm 1 (k / 13), List.replicate_succ]
    simp
theorem way2_inj {sh i j : Nat} (hi : i < 26) (hj : j < 26) (e : way2 sh i = way2 sh j) : i = j := by
  unfold way2 at e
  rw [Nat.add_comm 1 (i / 13), Nat.add_comm 1 (j / 13)] at e
  obtain ⟨e1, e2⟩ := rep_inj (words_ok _ (words_at _)).1 (words_ok _ (words_at _)).1 e
  have := words_inj _ _ (by omega) (by omega) e1
  omega

/-! ### the names that are drawn -/
open TL (tl)
theorem joinL_nil : ∀ ps : List (List Nat), TL.joinL [] ps = ps.flatten
  | [] => rfl
  | [p] => by simp [TL.joinL]
  | p :: q :: r => by
    show p ++ ([] ++ TL.joinL [] (q :: r)) = _
    rw [joinL_nil (q :: r), List.nil_append]
    simp
theorem tl_empty : tl "" = [] := by decide +kernel
theorem tl_q : tl "q" = [113] := by decide +kernel
theorem len_q : ("q" : Str).length = 1 := by decide +kernel
theorem len_empty : ("" : Str).length = 0 := by decide +kernel
theorem let_list : tl "abcdefghijklmnopqrstuvwxyz" = (List.range 26).map (97 + ·) := by decide +kernel
theorem let_at (j : Nat) : atI (tl "abcdefghijklmnopqrstuvwxyz") ((j % 26 : Nat) : Int) = some (letN j) := by
  refine atI_nat ?_
  have h : j % 26 < 26 := by omega
  rw [let_list, List.getElem?_map, List.getElem?_range h]
  rfl
theorem flat_ones : ∀ {ss : List Str}, (∀ s ∈ ss, ∃ c, tl s = [c] ∧ letC c = true) → ((ss.map tl).flatten).length = ss.length ∧ ∀ c ∈ (ss.map tl).flatten, letC c = true
  | [], _ => ⟨rfl, fun c h => by cases h⟩
  | s :: ss, h => by
    obtain ⟨c, h1, h2⟩ := h s List.mem_cons_self
    obtain ⟨i1, i2⟩ := flat_ones (ss := ss) fun z hz => h z (List.mem_cons_of_mem _ hz)
    rw [List.map_cons, List.flatten_cons, h1]
    refine ⟨by rw [List.length_append, i1, List.length_cons]; simp; omega, fun d hd => ?_⟩
    rcases List.mem_append.mp hd with hd | hd
    · have : d = c := by simpa using hd
      rw [this]
      exact h2
    · exact i2 d hd
theorem tail_of {ss : List Str} (hl : ss.length = 6) (h : ∀ s ∈ ss, ∃ c, tl s = [c] ∧ letC c = true) : Tail (tl ("q" ++ Txt.join "" ss)) := by
  obtain ⟨h1, h2⟩ := flat_ones h
  have e : tl ("q" ++ Txt.join "" ss) = 113 :: (ss.map tl).flatten := by
    rw [TL.tl_append, TL.join_eq, TL.tl_join, tl_empty, joinL_nil, tl_q]
    rfl
  rw [e]
  refine ⟨by rw [List.length_cons, h1, hl], fun c hc => ?_, _, rfl⟩
  rcases List.mem_cons.mp hc with rfl | hc
  · decide
  · exact h2 c hc
theorem cut_hi (z : Str) (j : Nat) : tl (cutS z none (some (j : Int))) = (tl z).take j := by
  rw [tl_cut, HT.sIx_none, HT.sIx_nat, List.drop_zero, Nat.sub_zero, ← tl_len]
  rcases Nat.le_total j (tl z).length with h | h
  · rw [Nat.min_eq_left h]
  · rw [Nat.min_eq_right h, List.take_of_length_le (Nat.le_refl _), List.take_of_length_le h]
theorem cut_both (z : Str) (a b : Nat) (ha : a ≤ b) (hb : b ≤ z.length) : tl (cutS z (some (a : Int)) (some (b : Int))) = ((tl z).drop a).take (b - a) := by
  rw [tl_cut, HT.sIx_nat, HT.sIx_nat, Nat.min_eq_left hb, Nat.min_eq_left (by omega : a ≤ z.length)]
theorem rep_toList (a : Array Nat) : ∀ (n : Nat) (acc : Array Nat), ((List.replicate n a).foldl (· ++ ·) acc).toList = acc.toList ++ (List.replicate n a.toList).flatten
  | 0, acc => by simp
  | n + 1, acc => by
    rw [List.replicate_succ, List.foldl_cons, rep_toList a n, Array.toList_append, List.replicate_succ, List.flatten_cons, List.append_assoc]
theorem rep_flat (n : Nat) : (List.replicate n [113]).flatten = List.replicate n 113 := by
  induction n with
  | zero => rfl
  | succ n ih => rw [List.replicate_succ, List.flatten_cons, ih, List.replicate_succ]; rfl
theorem tl_rep (n : Nat) : tl (repS "q" n) = List.replicate n 113 := by
  have e : tl (repS "q" n) = (List.replicate n (tl "q")).flatten := by
    show ((List.replicate n ("q" : Str).cps).foldl (· ++ ·) #[]).toList = _
    rw [rep_toList]
    rfl
  rw [e, tl_q, rep_flat]
theorem cut_take {l : List Str} {i : Nat} : cutV (l.map V.str) none (some (i : Int)) = (l.take i).map V.str := by
  unfold cutV
  rw [HT.sIx_none, HT.sIx_nat, List.drop_zero, Nat.sub_zero, List.length_map, List.map_take]
  rcases Nat.le_total i l.length with h | h
  · rw [Nat.min_eq_left h]
  · rw [Nat.min_eq_right h, List.take_of_length_le (by rw [List.length_map]; omega), List.take_of_length_le (by rw [List.length_map]; omega)]
theorem cut_drop {l : List Str} {i : Nat} : cutV (l.map V.str) (some (i : Int)) none = (l.drop i).map V.str := by
  unfold cutV
  rw [HT.sIx_none, HT.sIx_nat, List.length_map, List.map_drop]
  rcases Nat.le_total i l.length with h | h
  · rw [Nat.min_eq_left h, List.take_of_length_le (by rw [List.length_drop, List.length_map]; omega)]
  · rw [Nat.min_eq_right h, List.drop_of_length_le (by rw [List.length_map]; omega), List.drop_of_length_le (by rw [List.length_map]; omega)]
    simp
theorem c_lcEi {σ : St} {H : Hp} {Q : VK} {g : L2.TG} {tt : TT} {te : TE} {vs : List Nat} {ta : TA} (h : ta σ H fun ws H1 => ∃ a xs, ws = [.ref a] ∧ SqL K H1 a xs ∧ LcI (Ite K a) g tt te vs σ H1 Q) : tLc (iEnum K ta) g tt te vs σ H Q := h
/-- [.. for i, x in enumerate(l)] -/
theorem lcEN {σ : St} {H : Hp} {Q : VK} {g : L2.TG} {tt : TT} {te : TE} {vs : List Nat} {a : Addr} {xs : List V} (P : Nat → V → Hp → Prop) (hst : ∀ i y G G2, NL G G2 → P i y G → P i y G2) (hs : SqL K H a xs) (hn : xs.length ≤ 1000)
    (ht : ∀ (i : Nat) (x : V), xs[i]? = some x → ∀ H2 T, Ex H H2 → H2 T = none → ∀ (R : V → Hp → Prop) (N : Hp → Prop), (∀ y H3, Ex (upd H2 T (.tup [.int (i : Nat), x])) H3 → P i y H3 → R y H3) →
      g (.ref T) (wipe σ vs) (upd H2 T (.tup [.int (i : Nat), x])) fun σ2 H3 => wipe σ2 vs = wipe σ vs ∧ tt σ2 H3 fun c H4 => if c = true then te σ2 H4 fun y H5 => R y H5 else N H4)
    (k : ∀ ys p H2, ys.length = xs.length → (∀ i y, ys[i]? = some y → P i y H2) → H p = none → Ex H H2 → H2 p = some (.lst ys) → Q (.ref p) H2) : LcI (Ite K a) g tt te vs σ H Q := by
  refine fun D hD => ?_
  have ex : ∀ {G : Hp} {o : HO}, Ex H G → Ex H (upd G D o) := fun e b u hb => by rw [upd_ne (ne_of_none hb hD)]; exact e b u hb
  refine lc_it walk_enum (fun i H' => i ≤ xs.length ∧ Ex H H' ∧ ∃ ys, ys.length = i ∧ (∀ j y, ys[j]? = some y → P j y H') ∧ H' D = some (.lst ys))
    ⟨Nat.zero_le _, ex (Ex.refl _), [], rfl, (fun j y h => by simp at h), upd_same⟩ (fun i H' _ p => ex_l p.2.1 hs) (fun i v H' H'' hi p y => ?_) (fun H' p => ?_)
  · obtain ⟨T, x, z, rfl, hT, rfl, ex1, ez⟩ := y
    cases ex1
    obtain ⟨_, e1, ys, hl, hy, hD'⟩ := p
    have hil := (List.getElem?_eq_some_iff.mp ez).1
    have eT : Ex H' (upd H' T (.tup [.int (i : Nat), z])) := Ex.new hT
    refine ht i z ez H' T e1 hT (fun y H4 => ∃ acc, H4 D = some (.lst acc) ∧ acc.length < sizeLine ∧ (i + 1 ≤ xs.length ∧ Ex H (upd H4 D (.lst (acc ++ [y]))) ∧ ∃ zs, zs.length = i + 1 ∧ (∀ j y2, zs[j]? = some y2 → P j y2 (upd H4 D (.lst (acc ++ [y])))) ∧ upd H4 D (.lst (acc ++ [y])) D = some (.lst zs))) _ (fun y H3 e3 py => ?_)
    have e13 := eT.trans e3
    have hD3 := e13 _ _ hD'
    have eD : NL H3 (upd H3 D (.lst (ys ++ [y]))) := NL.upd hD3
    refine ⟨ys, hD3, Evl.sz_lt (by omega), hil, ex (e1.trans e13), ys ++ [y], by rw [List.length_append, hl]; rfl, fun j y2 hj => ?_, upd_same⟩
    rcases Nat.lt_or_ge j ys.length with h | h
    · rw [List.getElem?_append_left h] at hj
      exact hst _ _ _ _ eD (hst _ _ _ _ (NL.of e13) (hy j y2 hj))
    · rw [List.getElem?_append_right h] at hj
      have hj0 : j - ys.length = 0 := by
        have := (List.getElem?_eq_some_iff.mp hj).1
        rw [List.length_singleton] at this
        omega
      rw [hj0] at hj
      have hyy : y = y2 := by simpa using hj
      subst hyy
      have : j = i := by omega
      subst this
      exact hst _ _ _ _ eD py
  · obtain ⟨_, e1, ys, hl, hy, hD'⟩ := p
    exact k ys D H' hl hy hD e1 hD'
theorem strs_nobox {ns : List Str} (x y z : Int) : HO.lst (ns.map V.str) ≠ .lst [.int x, .int y, .int z] := by
  intro h
  injection h with h
  cases ns with
  | nil => cases h
  | cons a l =>
    rw [List.map_cons] at h
    injection h with h _
    cases h
theorem nb_strs {b a : Addr} {H G : Hp} {ns : List Str} (hB : BoxAt H b) (h : H a = some (.lst (ns.map V.str))) (x : ExB b H G) : G a = some (.lst (ns.map V.str)) := x _ _ (box_ne hB h (fun x y z => strs_nobox x y z)) h
/-- what the names of a row are -/
def NmsOk (n : Nat) (ns : List Str) : Prop := ns.length = n ∧ ns.Nodup ∧ ∀ s ∈ ns, PNm (tl s)
theorem nms_of {n : Nat} {ys : List V} {f : Nat → List Nat} (hl : ys.length = n) (h : ∀ (i : Nat) y, ys[i]? = some y → ∃ t : Str, y = .str t ∧ tl t = f i) (hf : ∀ i j, i < n → j < n → f i = f j → i = j) (hp : ∀ i, i < n → PNm (f i)) : ∃ ns, ys = ns.map V.str ∧ NmsOk n ns := by
  have key : ∀ (m : Nat) (zs : List V), (∀ (i : Nat) y, zs[i]? = some y → ∃ t : Str, y = .str t ∧ tl t = f (m + i)) → ∃ ns : List Str, zs = ns.map V.str ∧ ∀ (i : Nat) t, ns[i]? = some t → tl t = f (m + i) := by
    intro m zs
    induction zs generalizing m with
    | nil => exact fun _ => ⟨[], rfl, fun i t h => by simp at h⟩
    | cons z zs ih =>
      intro h
      obtain ⟨t, e1, e2⟩ := h 0 z rfl
      obtain ⟨ns, h1, h2⟩ := ih (m + 1) fun i y hy => by
        have := h (i + 1) y (by simpa using hy)
        rw [show m + 1 + i = m + (i + 1) by omega]
        exact this
      refine ⟨t :: ns, by rw [h1, e1]; rfl, fun i u hu => ?_⟩
      cases i with
      | zero =>
        have : t = u := by simpa using hu
        rw [← this]
        exact e2
      | succ i =>
        have := h2 i u (by simpa using hu)
        rw [show m + (i + 1) = m + 1 + i by omega]
        exact this
  obtain ⟨ns, rfl, h2⟩ := key 0 ys (fun i y hy => by rw [Nat.zero_add]; exact h i y hy)
  have h3 : ∀ (i : Nat) t, ns[i]? = some t → tl t = f i := fun i t ht => by have := h2 i t ht; rw [Nat.zero_add] at this; exact this
  rw [List.length_map] at hl
  refine ⟨ns, rfl, hl, nodup_ix h3 (fun i j hi hj => hf i j (by omega) (by omega)), fun s hs => ?_⟩
  obtain ⟨i, hi, he⟩ := List.mem_iff_getElem.mp hs
  rw [h3 i s (by rw [List.getElem?_eq_getElem hi, he])]
  exact hp i (by omega)
def sp_names_l : Sp := fun vs H Q _ => ∃ (b : Addr) (n : Nat), vs = [.ref b, .int (n : Int)] ∧ BoxAt H b ∧ 1 ≤ n ∧ n ≤ 40 ∧ ∀ (ns : List Str) p H2, ns.length = n → ns.Nodup → (∀ s ∈ ns, goodN s) → H p = none → ExB b H H2 → BoxAt H2 b → H2 p = some (.lst (ns.map V.str)) → Q (.ref p) H2
theorem emod_at {a m : Int} (h : 0 < m) : 0 ≤ a % m ∧ a % m < m := ⟨Int.emod_nonneg _ (by omega), Int.emod_lt_of_pos _ h⟩
theorem dotless {s : Str} (h : PNm (tl s)) : 46 ∉ tl s := fun z => let_nodot (h.2.2.1 46 z) rfl
theorem point_inj {a b c : Str} (e : (a ++ ".") ++ c = (b ++ ".") ++ c) : a = b := by
  apply TL.ext_tl
  have := congrArg tl e
  rw [TL.tl_append, TL.tl_append, TL.tl_append, TL.tl_append] at this
  exact List.append_cancel_right (List.append_cancel_right this)
theorem pn_len {s : Str} (h : PNm (tl s)) : s.length ≤ 8 := by rw [← tl_len]; exact h.2.1
theorem map_nodup {l : List Str} {f : Str → Str} (h : l.Nodup) (hf : ∀ a ∈ l, ∀ b ∈ l, f a = f b → a = b) : (l.map f).Nodup := by
  unfold List.Nodup at h ⊢
  rw [List.pairwise_map]
  refine List.Pairwise.imp_of_mem ?_ h
  intro a b ha hb hne e
  exact hne (hf a ha b hb e)
/-- each other one with a point -/
def Alt (n0 : Str) (ms zs : List Str) : Prop := zs.length = ms.length ∧ ∀ (i : Nat) s, ms[i]? = some s → zs[i]? = some (if i % 2 = 0 then (n0 ++ ".") ++ s else s)
theorem alt_of {n0 : Str} {ms : List Str} {ys : List V} (hl : ys.length = ms.length) (h : ∀ (i : Nat) y, ys[i]? = some y → ∀ s, ms[i]? = some s → y = .str (if i % 2 = 0 then (n0 ++ ".") ++ s else s)) : ∃ zs, ys = zs.map V.str ∧ Alt n0 ms zs := by
  refine ⟨(List.range ms.length).map fun i => if i % 2 = 0 then (n0 ++ ".") ++ ms.getD i "" else ms.getD i "", ?_, ?_, fun i s hs => ?_⟩
  · apply List.ext_getElem?
    intro i
    rw [List.getElem?_map, List.getElem?_map]
    rcases Nat.lt_or_ge i ms.length with hi | hi
    · rw [List.getElem?_range hi]
      have h1 : ys[i]? = some (ys[i]'(by omega)) := List.getElem?_eq_getElem (by omega)
      have h2 : ms[i]? = some (ms[i]'hi) := List.getElem?_eq_getElem hi
      rw [h1, h i _ h1 _ h2]
      simp only [Option.map_some, List.getD_eq_getElem?_getD, h2, Option.getD_some]
    · rw [List.getElem?_eq_none (by omega), List.getElem?_eq_none (by rw [List.length_range]; omega)]
      rfl
  · rw [List.length_map, List.length_range]
  · have hi := (List.getElem?_eq_some_iff.mp hs).1
    rw [List.getElem?_map, List.getElem?_range hi]
    simp only [Option.map_some, List.getD_eq_getElem?_getD, hs, Option.getD_some]
theorem alt_mem {n0 : Str} {ms zs : List Str} (h : Alt n0 ms zs) {z : Str} (hz : z ∈ zs) : ∃ (i : Nat) (s : Str), ms[i]? = some s ∧ zs[i]? = some z ∧ (z = (n0 ++ ".") ++ s ∨ z = s) := by
  obtain ⟨i, hi, he⟩ := List.mem_iff_getElem.mp hz
  have hz2 : zs[i]? = some z := by rw [List.getElem?_eq_getElem hi, he]
  have hm : ms[i]? = some (ms[i]'(by rw [← h.1]; exact hi)) := List.getElem?_eq_getElem (by rw [← h.1]; exact hi)
  have e := h.2 i _ hm
  refine ⟨i, _, hm, hz2, ?_⟩
  have e2 := Option.some.inj (hz2.symm.trans e)
  split at e2
  · exact .inl e2
  · exact .inr e2
theorem dot_mem (a c : Str) : 46 ∈ tl ((a ++ ".") ++ c) := by
  rw [TL.tl_append, TL.tl_append, tl_dot]
  simp
theorem behind_inj {a b c : Str} (e : (c ++ ".") ++ a = (c ++ ".") ++ b) : a = b := by
  apply TL.ext_tl
  have := congrArg tl e
  rw [TL.tl_append, TL.tl_append (c ++ ".") b] at this
  exact List.append_cancel_left this
theorem alt_nodup {ns zs : List Str} (h0 : 0 < ns.length) (hn : ns.Nodup) (hp : ∀ s ∈ ns, PNm (tl s)) (h : Alt (ns[0]'h0) (ns.drop 1) zs) : (ns.take 1 ++ zs).Nodup := by
  have hdn : (ns.drop 1).Nodup := List.Nodup.sublist (List.drop_sublist 1 ns) hn
  have h1 : ns.take 1 = [ns[0]'h0] := by
    cases ns with
    | nil => simp at h0
    | cons a l => rfl
  have hne : ∀ s ∈ ns.drop 1, s ≠ ns[0]'h0 := by
    intro s hs e
    cases ns with
    | nil => simp at h0
    | cons a l => exact (List.nodup_cons.mp hn).1 (by rw [← show s = a from e]; exact hs)
  rw [h1, List.nodup_append]
  refine ⟨by simp, ?_, fun a ha b hb e => ?_⟩
  · unfold List.Nodup
    rw [List.pairwise_iff_getElem]
    intro i j hi hj hij e
    obtain ⟨hzl, hz⟩ := h
    have mi : (ns.drop 1)[i]? = some ((ns.drop 1)[i]'(by omega)) := List.getElem?_eq_getElem (by omega)
    have mj : (ns.drop 1)[j]? = some ((ns.drop 1)[j]'(by omega)) := List.getElem?_eq_getElem (by omega)
    have zi := hz i _ mi
    have zj := hz j _ mj
    rw [List.getElem?_eq_getElem hi] at zi
    rw [List.getElem?_eq_getElem hj] at zj
    have e3 := (Option.some.inj zi).symm.trans (e.trans (Option.some.inj zj))
    have pi := hp _ (List.mem_of_mem_drop (List.mem_of_getElem? mi))
    have pj := hp _ (List.mem_of_mem_drop (List.mem_of_getElem? mj))
    have same : (ns.drop 1)[i]'(by omega) = (ns.drop 1)[j]'(by omega) := by
      split at e3 <;> split at e3
      · exact behind_inj e3
      · exact absurd (by rw [← e3]; exact dot_mem _ _) (dotless pj)
      · exact absurd (by rw [e3]; exact dot_mem _ _) (dotless pi)
      · exact e3
    have := (List.getElem_inj hdn).mp same
    omega
  · have ea : a = ns[0]'h0 := by simpa using ha
    obtain ⟨i, s, hs, _, hzs⟩ := alt_mem h hb
    rcases hzs with e2 | e2
    · have p0 := hp _ (List.getElem_mem h0)
      exact dotless p0 (by rw [← ea, e, e2]; exact dot_mem _ _)
    · exact hne s (List.mem_of_getElem? hs) (by rw [← e2, ← e, ea])
theorem alt_good {ns zs : List Str} (h0 : 0 < ns.length) (hp : ∀ s ∈ ns, PNm (tl s)) (h : Alt (ns[0]'h0) (ns.drop 1) zs) : ∀ s ∈ ns.take 1 ++ zs, goodN s := by
  intro s hs
  rcases List.mem_append.mp hs with hs | hs
  · exact goodN_one (hp s (List.mem_of_mem_take hs))
  · obtain ⟨i, t, ht, _, hz⟩ := alt_mem h hs
    have pt := hp t (List.mem_of_mem_drop (List.mem_of_getElem? ht))
    rcases hz with rfl | rfl
    · exact goodN_two (hp _ (List.getElem_mem h0)) pt
    · exact goodN_one pt
theorem ok_names_l (T : Txt K mg Z) : FnOk P w K mg base CX0 3 Z.f_names_l Z.fd_names_l ["_law_box_here", "_law_many_here"] sp_names_l := by
  have G_take_l := ok_take_l (P := P) (w := w) (base := base) T
  have G_mixed_l := ok_mixed_l (P := P) (w := w) (base := base) T
  refine T.F_names_l.ok sc_names_l (fun vs H Q E h => ?_) (fun cdv AA outer s H vs Q E hr h => ?_)
  · obtain ⟨b, n, rfl, _⟩ := h
    rfl
  · obtain ⟨b, n, rfl, hB, hn0, hn1, k⟩ := h
    refine ⟨_, (pss_cons (ps_set (i := 2) sc_names_l.nd rfl (Or.inr rfl) pe_str)
      (pss_cons (ps_set (i := 3) sc_names_l.nd rfl (Or.inr rfl) (pe_op op_add_str pe_str (pe_join pe_str (pe_lc (own := [("_law_k", 4)]) (g := (gName 4)) (tt := tYes) (te := (tOp rIxS (tVar 2) (tCall sp_take_l [] E0 (tCons (tVar 0) (tCons (tC (.int 26)) tNil))))) rfl sc_names_l.nd (pi_range1 (by rfl) T.n_range (pa_cons pe_int pa_nil)) (blkOk_by (own := [("_law_k", 4)]) (N := N_names_l) (sc := defScope s_names_l) (by decide +kernel)) (fun _ _ _ _ _ => (pg_name (i := 4) sc_names_l.nd rfl (Or.inl rfl))) (fun _ _ _ _ _ => pts_nil) (fun _ _ _ _ _ => (pe_ix ix_str (pv 2) (pe_call G_take_l (hr.mono (by omega)) rfl T.g_take_l T.F_take_l.kp T.b_take_l .nil pass0 (pa_cons (pv 0) (pa_cons pe_int pa_nil))) (fun _ _ => rfl)))))))
      (pss_cons (ps_set (i := 5) sc_names_l.nd rfl (Or.inr rfl) (pe_call G_take_l (hr.mono (by omega)) rfl T.g_take_l T.F_take_l.kp T.b_take_l .nil pass0 (pa_cons (pv 0) (pa_cons pe_int pa_nil))))
      (pss_cons (ps_set (i := 6) sc_names_l.nd rfl (Or.inl rfl) (pe_call G_take_l (hr.mono (by omega)) rfl T.g_take_l T.F_take_l.kp T.b_take_l .nil pass0 (pa_cons (pv 0) (pa_cons pe_int pa_nil))))
      (Evl.pss_cut (ps_if (PW.pt (pw_and (pt_cmpR op_eq (pv 6) pe_int (nomark _)) (pw_and1 (pt_cmpR op_le (pv 1) pe_int (nomark _))))) (pss_cons (ps_set (i := 7) sc_names_l.nd rfl (Or.inr rfl) (pe_lst (pa_cons pe_str (pa_cons pe_str (pa_cons pe_str (pa_cons pe_str (pa_cons pe_str (pa_cons pe_str (pa_cons pe_str (pa_cons pe_str (pa_cons pe_str (pa_cons pe_str pa_nil))))))))))))
      (pss_cons (ps_set (i := 7) sc_names_l.nd rfl (Or.inr rfl) (pe_op op_cat (pv 7) (pe_lst (pa_cons pe_str (pa_cons pe_str (pa_cons pe_str pa_nil))))))
      (pss_one (ps_set (i := 8) sc_names_l.nd rfl (Or.inr rfl) (pe_lc (own := [("_law_k", 4)]) (g := (gName 4)) (tt := tYes) (te := (tOp (fun x y H Q => ∃ i j, x = .str i ∧ y = .str j ∧ i.length + j.length ≤ sizeLine ∧ Q (.str (i ++ j)) H) (tOp (rIxL K) (tVar 7) (tOp (rI (fun _ j => 0 < j) fun i j => .int (i % j)) (tOp (rI0 fun i j => .int (i + j)) (tVar 5) (tVar 4)) (tC (.int 13)))) (tOp rRepA (tC (.str "q")) (tOp (rI0 fun i j => .int (i + j)) (tC (.int 1)) (tOp (rI CDiv fun i j => .int (i / j)) (tVar 4) (tC (.int 13))))))) rfl sc_names_l.nd (pi_range1 (by rfl) T.n_range (pa_cons (pv 1) pa_nil)) (blkOk_by (own := [("_law_k", 4)]) (N := N_names_l) (sc := defScope s_names_l) (by decide +kernel)) (fun _ _ _ _ _ => (pg_name (i := 4) sc_names_l.nd rfl (Or.inl rfl))) (fun _ _ _ _ _ => pts_nil) (fun _ _ _ _ _ => (pe_op op_add_str (pe_ix ix_list (pv 7) (pe_op op_mod (pe_op op_add (pv 5) (pv 4)) pe_int) (fun _ _ => rfl)) (pe_op op_rep_strA pe_str (pe_op op_add pe_int (pe_op op_fdiv (pv 4) pe_int)))))))))) (pss_one (ps_if (PW.pt (pw_and (pt_cmpR op_eq (pv 6) pe_int (nomark _)) (pw_and1 (pt_cmpR op_le (pv 1) pe_int (nomark _))))) (pss_cons (ps_set (i := 9) sc_names_l.nd rfl (Or.inr rfl) (pe_call G_take_l (hr.mono (by omega)) rfl T.g_take_l T.F_take_l.kp T.b_take_l .nil pass0 (pa_cons (pv 0) (pa_cons pe_int pa_nil))))
      (pss_cons (ps_set (i := 10) sc_names_l.nd rfl (Or.inr rfl) (pe_lc (own := [("_law_k", 4)]) (g := (gName 4)) (tt := tYes) (te := (tOp rIxS (tVar 2) (tOp (rI (fun _ j => 0 < j) fun i j => .int (i % j)) (tOp (rI0 fun i j => .int (i + j)) (tVar 5) (tOp (rI CMul fun i j => .int (i * j)) (tC (.int 5)) (tVar 4))) (tC (.int 26))))) rfl sc_names_l.nd (pi_range1 (by rfl) T.n_range (pa_cons (pv 1) pa_nil)) (blkOk_by (own := [("_law_k", 4)]) (N := N_names_l) (sc := defScope s_names_l) (by decide +kernel)) (fun _ _ _ _ _ => (pg_name (i := 4) sc_names_l.nd rfl (Or.inl rfl))) (fun _ _ _ _ _ => pts_nil) (fun _ _ _ _ _ => (pe_ix ix_str (pv 2) (pe_op op_mod (pe_op op_add (pv 5) (pe_op op_mul pe_int (pv 4))) pe_int) (fun _ _ => rfl)))))
      (pss_one (ps_set (i := 8) sc_names_l.nd rfl (Or.inr rfl) (pe_lc (own := [("_law_k", 4)]) (g := (gName 4)) (tt := tYes) (te := (tOp (fun x y H Q => ∃ i j, x = .str i ∧ y = .str j ∧ i.length + j.length ≤ sizeLine ∧ Q (.str (i ++ j)) H) (tOp (fun x y H Q => ∃ i j, x = .str i ∧ y = .str j ∧ i.length + j.length ≤ sizeLine ∧ Q (.str (i ++ j)) H) (tOp (fun x y H Q => ∃ i j, x = .str i ∧ y = .str j ∧ i.length + j.length ≤ sizeLine ∧ Q (.str (i ++ j)) H) (tSl rSlS (tVar 3) tNoPart (tPart (tVar 9))) (tOp (rIxL K) (tVar 10) (tVar 4))) (tSl rSlS (tVar 3) (tPart (tVar 9)) (tPart (tC (.int 5))))) (tOp rRepA (tC (.str "q")) (tOp (rI CDiv fun i j => .int (i / j)) (tVar 4) (tC (.int 26)))))) rfl sc_names_l.nd (pi_range1 (by rfl) T.n_range (pa_cons (pv 1) pa_nil)) (blkOk_by (own := [("_law_k", 4)]) (N := N_names_l) (sc := defScope s_names_l) (by decide +kernel)) (fun _ _ _ _ _ => (pg_name (i := 4) sc_names_l.nd rfl (Or.inl rfl))) (fun _ _ _ _ _ => pts_nil) (fun _ _ _ _ _ => (pe_op op_add_str (pe_op op_add_str (pe_op op_add_str (pe_slice sl_str (pv 3) po_none (po_some (pv 9))) (pe_ix ix_list (pv 10) (pv 4) (fun _ _ => rfl))) (pe_slice sl_str (pv 3) (po_some (pv 9)) (po_some pe_int))) (pe_op op_rep_strA pe_str (pe_op op_fdiv (pv 4) pe_int))))))))) (pss_one (ps_set (i := 8) sc_names_l.nd rfl (Or.inr rfl) (pe_lc (own := [("_law_k", 4)]) (g := (gName 4)) (tt := tYes) (te := (tOp (fun x y H Q => ∃ i j, x = .str i ∧ y = .str j ∧ i.length + j.length ≤ sizeLine ∧ Q (.str (i ++ j)) H) (tOp rIxS (tVar 2) (tOp (rI (fun _ j => 0 < j) fun i j => .int (i % j)) (tOp (rI0 fun i j => .int (i + j)) (tVar 5) (tOp (rI CDiv fun i j => .int (i / j)) (tVar 4) (tC (.int 8)))) (tC (.int 26)))) (tSl rSlS (tVar 3) tNoPart (tPart (tOp (rI (fun _ j => 0 < j) fun i j => .int (i % j)) (tVar 4) (tC (.int 8))))))) rfl sc_names_l.nd (pi_range1 (by rfl) T.n_range (pa_cons (pv 1) pa_nil)) (blkOk_by (own := [("_law_k", 4)]) (N := N_names_l) (sc := defScope s_names_l) (by decide +kernel)) (fun _ _ _ _ _ => (pg_name (i := 4) sc_names_l.nd rfl (Or.inl rfl))) (fun _ _ _ _ _ => pts_nil) (fun _ _ _ _ _ => (pe_op op_add_str (pe_ix ix_str (pv 2) (pe_op op_mod (pe_op op_add (pv 5) (pe_op op_fdiv (pv 4) pe_int)) pe_int) (fun _ _ => rfl)) (pe_slice sl_str (pv 3) po_none (po_some (pe_op op_mod (pv 4) pe_int)))))))))))
      (Evl.pss_cut (ps_if (pt_cmpR op_eq (pe_call G_take_l (hr.mono (by omega)) rfl T.g_take_l T.F_take_l.kp T.b_take_l .nil pass0 (pa_cons (pv 0) (pa_cons pe_int pa_nil))) pe_int (nomark _)) (pss_one (ps_set (i := 8) sc_names_l.nd rfl (Or.inr rfl) (pe_lc (own := [("_law_name", 11)]) (g := (gName 11)) (tt := tYes) (te := (tOp (fun x y H Q => ∃ i j, x = .str i ∧ y = .str j ∧ i.length + j.length ≤ sizeLine ∧ Q (.str (i ++ j)) H) (tOp (fun x y H Q => ∃ i j, x = .str i ∧ y = .str j ∧ i.length + j.length ≤ sizeLine ∧ Q (.str (i ++ j)) H) (tVar 11) (tC (.str "."))) (tOp (rIxL K) (tVar 8) (tC (.int 0))))) rfl sc_names_l.nd (pi_list (pv 8)) (blkOk_by (own := [("_law_name", 11)]) (N := N_names_l) (sc := defScope s_names_l) (by decide +kernel)) (fun _ _ _ _ _ => (pg_name (i := 11) sc_names_l.nd rfl (Or.inl rfl))) (fun _ _ _ _ _ => pts_nil) (fun _ _ _ _ _ => (pe_op op_add_str (pe_op op_add_str (pv 11) pe_str) (pe_ix ix_list (pv 8) pe_int (fun _ _ => rfl))))))) pss_nil)
      (pss_one (ps_ret (pe_call G_mixed_l (hr.mono (by omega)) rfl T.g_mixed_l T.F_mixed_l.kp T.b_mixed_l .nil pass0 (pa_cons (pv 0) (pa_cons (pv 8) pa_nil))))))))))), ?_⟩
    walk_at "ss"
    refine ⟨⟨_, rfl⟩, ?_⟩
    walk_at "ss"
    refine ⟨by decide, by decide, ?_⟩
    refine lcRB (b := b) (fun y => ∃ s : Str, y = .str s ∧ ∃ c, tl s = [c] ∧ letC c = true) (by decide) hB (fun i hi H2 hB2 x2 R N hR => ?_) (fun ys p H2 hl hg hp x2 hB2 g2 => ?_)
    · walk_at "ss"
      refine ⟨b, 26, rfl, hB2, by decide, by decide, fun d2 H3 d20 d21 x3 hB3 => ?_⟩
      obtain ⟨j, rfl⟩ := Int.eq_ofNat_of_zero_le d20
      have hj : j % 26 = j := Nat.mod_eq_of_lt (by omega)
      have hat := let_at j
      rw [hj] at hat
      refine c_ixS (by decide +kernel) hat ?_
      exact hR _ _ ⟨_, rfl, _, rfl, letN_ok j⟩ hB3 x3
    obtain ⟨ss, rfl, hss⟩ := strs_of hg
    rw [List.length_map] at hl
    have hl6 : ss.length = 6 := hl
    have hT := tail_of hl6 hss
    have hs1 : ∀ s ∈ ss, s.length ≤ 1 := fun s hs => by
      obtain ⟨c, hc, _⟩ := hss s hs
      rw [← tl_len, hc]
      exact Nat.le_refl _
    have hsum := sum_len hs1
    walk_at "ss"
    refine ⟨_, _, ss, rfl, rfl, .inl (SqL.of g2), by rw [len_empty]; omega, ?_⟩
    walk_at "ss"
    have hT7 : ("q" ++ Txt.join "" ss).length = 7 := by rw [← tl_len]; exact hT.1
    refine ⟨Evl.sz_of (by rw [← add_len]; omega), ?_⟩
    generalize ("q" ++ Txt.join "" ss : Str) = tail at hT hT7
    walk_at "ss"
    refine ⟨b, 26, rfl, hB2, by decide, by decide, fun shi H3 sh0 sh1 x3 hB3 => ?_⟩
    obtain ⟨sh, rfl⟩ := Int.eq_ofNat_of_zero_le sh0
    walk_at "ss"
    refine ⟨b, 3, rfl, hB3, by decide, by decide, fun wy H4 wy0 wy1 x4 hB4 => ?_⟩
    have X4 := x2.trans (x3.trans x4)
    walk_at "ss"
    refine c_cut (M := fun σ' G => ∃ v2 v3 v4 v5 v6 v7 v9 v10 v11 fl, σ' = [some (.ref b), some (.int (n : Int)), v2, v3, v4, v5, v6, v7, some (.ref fl), v9, v10, v11] ∧ ExB b H G ∧ BoxAt G b ∧ ∃ ns : List Str, NmsOk n ns ∧ G fl = some (.lst (ns.map V.str))) ?_ ?_
    · walk_at "ss"
      refine if_cs (fun e2 => ?w2) (fun e2 => ?wn)
      case w2 =>
       walk_at "ss"
       refine if_cs (fun e3 => ?A) (fun e3 => ?C)
       case A =>
        walk_at "ss"
        have hn26 : n ≤ 26 := by have := of_decide_eq_true e3; omega
        refine newL fun w1 H5 hw1 e5 g5 => ?_
        walk_at "ss"
        refine newL fun w2 H6 hw2 e6 g6 => ?_
        refine c_cat (e6 _ _ g5) g6 (fun w3 H7 hw3 e7 g7 => ?_)
        have e47 : Ex H4 H7 := e5.trans (e6.trans e7)
        have g7' : H7 w3 = some (.lst (wordsG.map V.str)) := g7
        walk_at "ss"
        refine ⟨by omega, by omega, ?_⟩
        refine lcRN (b := b) (fun i y _ => ∃ t : Str, y = .str t ∧ tl t = way2 sh i) (fun _ _ _ _ _ h => h) (show n ≤ 1000 by omega) (hB4.up e47) (fun i hi G8 bG8 xG8 R N hR => ?_) (fun ys8 p8 G8 hl8 hg8 hp8 x8 hB8 g8 => ?_)
        · walk_at "ss"
          refine c_I (by decide) ?_
          walk_at "ss"
          have gw := nb_strs (hB4.up e47) g7' xG8
          have hm := words_at (sh + i)
          have hat : atI (wordsG.map V.str) (((sh : Int) + (i : Int)) % 13) = some (.str (wordsG.getD ((sh + i) % 13) "")) := by
            rw [show ((sh : Int) + (i : Int)) % 13 = (((sh + i) % 13 : Nat) : Int) by omega]
            refine atI_nat ?_
            have hl : wordsG.length = 13 := rfl
            have h : (sh + i) % 13 < wordsG.length := by rw [hl]; omega
            rw [List.getElem?_map, List.getD_eq_getElem?_getD, List.getElem?_eq_getElem h]
            rfl
          refine c_ixL (SqL.of gw) hat ?_
          walk_at "ss"
          refine c_I ⟨by decide, by decide⟩ ?_
          walk_at "ss"
          have hin : i < n := hi
          refine ⟨"q", _, rfl, rfl, by omega, by omega, by decide +kernel, by decide +kernel, ?_⟩
          walk_at "ss"
          have hwl := (words_ok _ hm).2.2.1
          rw [tl_len] at hwl
          have hrl := repS_len "q" (Int.toNat (1 + (i : Int) / 13))
          rw [len_q] at hrl
          refine ⟨Evl.sz_of (by omega), ?_⟩
          refine hR _ _ (ExB.refl _ _) bG8 ⟨_, rfl, ?_⟩
          rw [TL.tl_append, tl_rep, show Int.toNat (1 + (i : Int) / 13) = 1 + i / 13 by omega]
          rfl
        obtain ⟨ns2, rfl, hns2⟩ := nms_of (f := way2 sh) hl8 hg8 (fun i j hi hj => way2_inj (by omega) (by omega)) (fun i hi => way2_nm (by omega))
        walk_at "ss"
        exact ⟨_, _, _, _, _, _, _, _, _, p8, rfl, X4.trans ((ExB.of e47).trans x8), hB8, ns2, hns2, g8⟩
       case C =>
        have hw : wy = 2 := V.int.inj (of_decide_eq_true e2)
        subst hw
        walk_at "ss"
        refine if_ff (by decide) ?_
        walk_at "ss"
        refine ⟨by omega, by omega, ?_⟩
        refine lcRN (b := b) (fun i y _ => ∃ t : Str, y = .str t ∧ tl t = way0 (tl tail) sh i) (fun _ _ _ _ _ h => h) (show n ≤ 1000 by omega) hB4 (fun i hi G8 bG8 xG8 R N hR => ?_) (fun ys8 p8 G8 hl8 hg8 hp8 x8 hB8 g8 => ?_)
        · walk_at "ss"
          refine c_I ⟨by decide, by decide⟩ ?_
          walk_at "ss"
          refine c_I (by decide) ?_
          walk_at "ss"
          have hat := let_at (sh + i / 8)
          rw [show (((sh + i / 8) % 26 : Nat) : Int) = ((sh : Int) + (i : Int) / 8) % 26 by omega] at hat
          refine c_ixS (by decide +kernel) hat ?_
          walk_at "ss"
          refine c_I (by decide) ?_
          walk_at "ss"
          refine c_slS (by omega) ?_
          walk_at "ss"
          have hcl := cut_len tail none (some ((i : Int) % 8))
          refine ⟨Evl.sz_of (by show 1 + _ ≤ _; omega), ?_⟩
          refine hR _ _ (ExB.refl _ _) bG8 ⟨_, rfl, ?_⟩
          rw [TL.tl_append, show ((i : Int) % 8) = ((i % 8 : Nat) : Int) by omega, cut_hi]
          rfl
        obtain ⟨ns2, rfl, hns2⟩ := nms_of (f := way0 (tl tail) sh) hl8 hg8 (fun i j hi hj => way0_inj hT (by omega) (by omega)) (fun i hi => way0_nm hT _ _)
        walk_at "ss"
        exact ⟨_, _, _, _, _, _, _, _, _, p8, rfl, X4.trans x8, hB8, ns2, hns2, g8⟩
      case wn =>
       walk_at "ss"
       refine if_cs (fun e3 => ?B) (fun e3 => ?C)
       case B =>
        walk_at "ss"
        refine if_tt (decide_eq_true (show (n : Int) ≤ 52 by omega)) ?_
        walk_at "ss"
        refine ⟨b, 6, rfl, hB4, by decide, by decide, fun ati H5 at0 at1 x5 hB5 => ?_⟩
        obtain ⟨at_, rfl⟩ := Int.eq_ofNat_of_zero_le at0
        walk_at "ss"
        refine ⟨by omega, by omega, ?_⟩
        refine lcRN (b := b) (fun i y _ => y = .str ⟨#[letN (sh + 5 * i)]⟩) (fun _ _ _ _ _ h => h) (show n ≤ 1000 by omega) hB5 (fun i hi G8 bG8 xG8 R N hR => ?_) (fun ys7 p7 H7 hl7 hg7 hp7 x7 hB7 g7 => ?_)
        · walk_at "ss"
          refine c_I (.inl ⟨by decide, by decide⟩) ?_
          walk_at "ss"
          refine c_I (by decide) ?_
          walk_at "ss"
          have hat := let_at (sh + 5 * i)
          rw [show (((sh + 5 * i) % 26 : Nat) : Int) = ((sh : Int) + 5 * (i : Int)) % 26 by omega] at hat
          refine c_ixS (by decide +kernel) hat ?_
          exact hR _ _ (ExB.refl _ _) bG8 rfl
        have hl7' : ys7.length = n := hl7
        walk_at "ss"
        refine ⟨by omega, by omega, ?_⟩
        have n7b : p7 ≠ b := by
          obtain ⟨o, ho⟩ := hB5.some
          exact (ne_of_none ho hp7).symm
        refine lcRN (b := b) (fun i y _ => ∃ t : Str, y = .str t ∧ tl t = way1 (tl tail) sh at_ i) (fun _ _ _ _ _ h => h) (show n ≤ 1000 by omega) hB7 (fun i hi G8 bG8 xG8 R N hR => ?_) (fun ys8 p8 G8 hl8 hg8 hp8 x8 hB8 g8 => ?_)
        · walk_at "ss"
          refine c_slS (by omega) ?_
          walk_at "ss"
          have gw := xG8 _ _ n7b g7
          have hin : i < n := hi
          have hy : ys7[i]? = some (ys7[i]'(by omega)) := List.getElem?_eq_getElem (by omega)
          have hyv := hg7 i _ hy
          refine c_ixL (SqL.of gw) (atI_nat (hy.trans (congrArg some hyv))) ?_
          walk_at "ss"
          have hc1 := cut_len tail none (some (at_ : Int))
          have hc2 := cut_len tail (some (at_ : Int)) (some 5)
          have hrl := repS_len "q" (Int.toNat ((i : Int) / 26))
          rw [len_q] at hrl
          have h1l : (⟨#[letN (sh + 5 * i)]⟩ : Str).length = 1 := rfl
          refine ⟨Evl.sz_of (by omega), ?_⟩
          walk_at "ss"
          refine c_slS (by omega) ?_
          walk_at "ss"
          refine ⟨Evl.sz_of (by rw [add_len]; omega), ?_⟩
          walk_at "ss"
          refine c_I ⟨by decide, by decide⟩ ?_
          walk_at "ss"
          refine ⟨"q", _, rfl, rfl, by omega, by omega, by decide +kernel, by decide +kernel, ?_⟩
          walk_at "ss"
          refine ⟨Evl.sz_of (by rw [add_len, add_len]; omega), ?_⟩
          refine hR _ _ (ExB.refl _ _) bG8 ⟨_, rfl, ?_⟩
          rw [TL.tl_append, TL.tl_append, TL.tl_append, tl_rep, cut_hi, show Int.toNat ((i : Int) / 26) = i / 26 by omega, show (5 : Int) = ((5 : Nat) : Int) from rfl, cut_both tail at_ 5 (by omega) (by omega)]
          unfold way1
          simp only [List.append_assoc]
          rfl
        obtain ⟨ns2, rfl, hns2⟩ := nms_of (f := way1 (tl tail) sh at_) hl8 hg8 (fun i j hi hj => way1_inj hT (by omega) (by omega) (by omega)) (fun i hi => way1_nm hT (by omega) (by omega))
        walk_at "ss"
        exact ⟨_, _, _, _, _, _, _, _, _, p8, rfl, X4.trans (x5.trans (x7.trans x8)), hB8, ns2, hns2, g8⟩
       case C =>
        walk_at "ss"
        refine ⟨by omega, by omega, ?_⟩
        refine lcRN (b := b) (fun i y _ => ∃ t : Str, y = .str t ∧ tl t = way0 (tl tail) sh i) (fun _ _ _ _ _ h => h) (show n ≤ 1000 by omega) hB4 (fun i hi G8 bG8 xG8 R N hR => ?_) (fun ys8 p8 G8 hl8 hg8 hp8 x8 hB8 g8 => ?_)
        · walk_at "ss"
          refine c_I ⟨by decide, by decide⟩ ?_
          walk_at "ss"
          refine c_I (by decide) ?_
          walk_at "ss"
          have hat := let_at (sh + i / 8)
          rw [show (((sh + i / 8) % 26 : Nat) : Int) = ((sh : Int) + (i : Int) / 8) % 26 by omega] at hat
          refine c_ixS (by decide +kernel) hat ?_
          walk_at "ss"
          refine c_I (by decide) ?_
          walk_at "ss"
          refine c_slS (by omega) ?_
          walk_at "ss"
          have hcl := cut_len tail none (some ((i : Int) % 8))
          refine ⟨Evl.sz_of (by show 1 + _ ≤ _; omega), ?_⟩
          refine hR _ _ (ExB.refl _ _) bG8 ⟨_, rfl, ?_⟩
          rw [TL.tl_append, show ((i : Int) % 8) = ((i % 8 : Nat) : Int) by omega, cut_hi]
          rfl
        obtain ⟨ns2, rfl, hns2⟩ := nms_of (f := way0 (tl tail) sh) hl8 hg8 (fun i j hi hj => way0_inj hT (by omega) (by omega)) (fun i hi => way0_nm hT _ _)
        walk_at "ss"
        exact ⟨_, _, _, _, _, _, _, _, _, p8, rfl, X4.trans x8, hB8, ns2, hns2, g8⟩
    · rintro σ' G ⟨v2, v3, v4, v5, v6, v7, v9, v10, v11, fl, rfl, X5, hB5, ns, ⟨hns, hnd, htx⟩, g5⟩
      walk_at "ss"
      refine c_cut (M := fun σ' G => ∃ v2 v3 v4 v5 v6 v7 v9 v10 v11 fl, σ' = [some (.ref b), some (.int (n : Int)), v2, v3, v4, v5, v6, v7, some (.ref fl), v9, v10, v11] ∧ ExB b H G ∧ BoxAt G b ∧ ∃ ns : List Str, ns.length = n ∧ ns.Nodup ∧ (∀ s ∈ ns, goodN s) ∧ G fl = some (.lst (ns.map V.str))) ?_ ?_
      · walk_at "ss"
        refine ⟨b, 4, rfl, hB5, by decide, by decide, fun d6 H6 h60 h61 x6 hB6 => ?_⟩
        have g6 := nb_strs hB5 g5 x6
        have h0n : 0 < ns.length := by omega
        have h0m := List.getElem_mem h0n
        walk_at "ss"
        refine if_cs (fun _ => ?_) (fun _ => ?_)
        · walk_at "ss"
          refine ⟨⟨_, SqL.of g6⟩, lcLv (fun x => match x with | .str s => some (.str ((s ++ ".") ++ ns[0])) | _ => none) (SqL.of g6) (by rw [List.length_map]; omega) (fun x hx G8 e8 R hR => ?_) ?_⟩
          · obtain ⟨s1, hs1, rfl⟩ := List.mem_map.mp hx
            have l1 := pn_len (htx s1 hs1)
            have l0 := pn_len (htx _ h0m)
            have ld : ("." : Str).length = 1 := by decide +kernel
            walk_at "ss"
            refine ⟨Evl.sz_of (by omega), ?_⟩
            walk_at "ss"
            refine c_ixL (SqL.of (e8 _ _ g6)) (v := .str ns[0]) (atI_nat (by rw [List.getElem?_map, List.getElem?_eq_getElem h0n] <;> rfl)) ?_
            refine ⟨_, _, rfl, rfl, Evl.sz_of (by rw [add_len]; omega), ?_⟩
            exact hR _ (Ex.refl _)
          intro p8 G8 hp8 e8 g8
          walk_at "ss"
          refine ⟨_, _, _, _, _, _, _, _, _, p8, rfl, X5.trans (x6.trans (ExB.of e8)), hB6.up e8, ns.map fun s => (s ++ ".") ++ ns[0], by rw [List.length_map]; exact hns, map_nodup hnd (fun a _ b _ e => point_inj e), fun s hs => ?_, ?_⟩
          · obtain ⟨s1, hs1, rfl⟩ := List.mem_map.mp hs
            exact goodN_two (htx s1 hs1) (htx _ h0m)
          · rw [g8, List.filterMap_map, List.map_map]
            congr 2
            exact fm_some (F := fun s => V.str ((s ++ ".") ++ ns[0])) ns
        · walk_at "ss"
          exact ⟨_, _, _, _, _, _, _, _, _, fl, rfl, X5.trans x6, hB6, ns, hns, hnd, fun s hs => goodN_one (htx s hs), g6⟩
      · rintro σ' G7 ⟨v2, v3, v4, v5, v6, v7, v9, v10, v11, fl, rfl, X7, hB7, ns, hns, hnd, htx, g7⟩
        walk_at "ss"
        refine ⟨Str, V.str, b, fl, ns, rfl, hB7, g7, by omega, fun ms p G8 hperm hp x8 b8 g8 => ?_⟩
        exact k ms p G8 (hperm.length_eq.trans hns) (hperm.nodup_iff.mpr hnd) (fun s hs => htx s (hperm.mem_iff.mp hs)) (freshB X7 hB7 hp) (X7.trans x8) b8 g8

/-! ### values and terms that are drawn -/
open TL (tl)
def sp_value_l : Sp := fun vs H Q _ => ∃ (b : Addr), vs = [.ref b] ∧ BoxAt H b ∧ ∀ v H2, isVal v = true → ExB b H H2 → BoxAt H2 b → Q v H2
theorem val6 {d1 d2 d : Int} (h10 : 0 ≤ d1) (h11 : d1 < 10) (h20 : 0 ≤ d2) (h21 : d2 < 1000000000) (h0 : 0 ≤ d) (h1 : d < 6) : ∃ v, atI [.bl true, .bl false, .int d1, .int 1000000000, .int (0 - d2), .int 0] d = some v ∧ isVal v = true := by
  have iv : ∀ i : Int, -1000000000 ≤ i → i ≤ 1000000000 → isVal (.int i) = true := fun i a b => by
    show (decide (-1000000000 ≤ i) && decide (i ≤ 1000000000)) = true
    rw [decide_eq_true a, decide_eq_true b]
    rfl
  have : d = 0 ∨ d = 1 ∨ d = 2 ∨ d = 3 ∨ d = 4 ∨ d = 5 := by omega
  rcases this with rfl | rfl | rfl | rfl | rfl | rfl
  · exact ⟨_, rfl, rfl⟩
  · exact ⟨_, rfl, rfl⟩
  · exact ⟨_, rfl, iv _ (by omega) (by omega)⟩
  · exact ⟨_, rfl, iv _ (by omega) (by omega)⟩
  · exact ⟨_, rfl, iv _ (by omega) (by omega)⟩
  · exact ⟨_, rfl, iv _ (by omega) (by omega)⟩
theorem fresh_nb {b p : Addr} {H : Hp} (hB : BoxAt H b) (h : H p = none) : p ≠ b := by
  obtain ⟨o, ho⟩ := hB.some
  exact (ne_of_none ho h).symm
theorem ok_value_l (T : Txt K mg Z) : FnOk P w K mg base CX0 2 Z.f_value_l Z.fd_value_l ["_law_box_here"] sp_value_l := by
  have G_take_l := ok_take_l (P := P) (w := w) (base := base) T
  refine T.F_value_l.ok sc_value_l (fun vs H Q E h => ?_) (fun cdv AA outer s H vs Q E hr h => ?_)
  · obtain ⟨b, rfl, _⟩ := h
    rfl
  · obtain ⟨b, rfl, hB, k⟩ := h
    refine ⟨_, (pss_one (ps_ret (pe_ix ix_list (pe_lst (pa_cons pe_bl (pa_cons pe_bl (pa_cons (pe_call G_take_l (hr.mono (by omega)) rfl T.g_take_l T.F_take_l.kp T.b_take_l .nil pass0 (pa_cons (pv 0) (pa_cons pe_int pa_nil))) (pa_cons (pe_op op_pow pe_int pe_int) (pa_cons (pe_op op_sub pe_int (pe_call G_take_l (hr.mono (by omega)) rfl T.g_take_l T.F_take_l.kp T.b_take_l .nil pass0 (pa_cons (pv 0) (pa_cons (pe_op op_pow pe_int pe_int) pa_nil)))) (pa_cons pe_int pa_nil))))))) (pe_call G_take_l (hr.mono (by omega)) rfl T.g_take_l T.F_take_l.kp T.b_take_l .nil pass0 (pa_cons (pv 0) (pa_cons pe_int pa_nil))) (fun _ _ => rfl)))), ?_⟩
    walk_at "ss"
    refine ⟨b, 10, rfl, hB, by decide, by decide, fun d1 H1 h10 h11 x1 b1 => ?_⟩
    walk_at "ss"
    refine c_I ⟨by decide, by decide, by decide⟩ ?_
    walk_at "ss"
    refine c_I ⟨by decide, by decide, by decide⟩ ?_
    walk_at "ss"
    refine ⟨b, _, rfl, b1, by decide, by decide, fun d2 H2 h20 h21 x2 b2 => ?_⟩
    walk_at "ss"
    refine newL fun vl H3 hvl e3 g3 => ?_
    walk_at "ss"
    refine ⟨b, 6, rfl, b2.up e3, by decide, by decide, fun d H4 h0 h1 x4 b4 => ?_⟩
    obtain ⟨v, hv, hval⟩ := val6 (d2 := d2) h10 h11 h20 h21 h0 h1
    refine c_ixL (SqL.of (x4 _ _ (fresh_nb b2 hvl) g3)) hv ?_
    exact k v H4 hval (x1.trans (x2.trans ((ExB.of e3).trans x4))) b4
/-! terms -/
/-- a term over two names, one of which stands in it -/
def TmOf (o p : Str) (d : Nat) (t : Tm) : Prop := t.good ∧ t.dep ≤ d ∧ t.flat ≠ [] ∧ ∀ s ∈ t.flat, s = o ∨ s = p
def sp_term_l : Sp := fun vs H Q _ => ∃ (b : Addr) (o p : Str), vs = [.ref b, .str o, .str p] ∧ BoxAt H b ∧ goodN o ∧ goodN p ∧ ∀ t u H2, TmOf o p 5 t → ToldAt H2 t u → ExB b H H2 → BoxAt H2 b → Q u H2
theorem op8 {d : Int} (h0 : 0 ≤ d) (h1 : d < 8) : ∃ op : Str, atI [V.str "+", .str "-", .str "*", .str "<", .str "=", .str "&", .str "|", .str "/"] d = some (.str op) ∧ op ∈ opsW := by
  have : d = 0 ∨ d = 1 ∨ d = 2 ∨ d = 3 ∨ d = 4 ∨ d = 5 ∨ d = 6 ∨ d = 7 := by omega
  rcases this with rfl | rfl | rfl | rfl | rfl | rfl | rfl | rfl
  all_goals exact ⟨_, rfl, by decide +kernel⟩
theorem tm_nt {o p : Str} {d : Nat} {t : Tm} (h : TmOf o p d t) : TmOf o p (d + 1) (.nt t) := ⟨h.1, by have := h.2.1; simp only [Tm.dep]; omega, h.2.2.1, h.2.2.2⟩
theorem TmOf.mono {o p : Str} {d e : Nat} {t : Tm} (h : TmOf o p d t) (hd : d ≤ e) : TmOf o p e t := ⟨h.1, Nat.le_trans h.2.1 hd, h.2.2⟩
theorem pk3 {o p : Str} {v : V} (ho : goodN o) (hp : goodN p) (hv : isVal v = true) {way : Int} (h : way = 6 ∨ way = 7 ∨ way = 8) {G : Hp} {n1 n2 nv : Addr} (g1 : G n1 = some (.tup [.str "name", .str o])) (g2 : G n2 = some (.tup [.str "name", .str p])) (g3 : G nv = some (.tup [.str "value", v])) :
    ∃ x y z, atI [V.ref n1, .ref n2, .ref nv] (way - 6) = some x ∧ atI [V.ref n1, .ref n2, .ref nv] (way - 7) = some y ∧ atI [V.ref n1, .ref n2, .ref nv] (way - 8) = some z ∧ ∃ t1 t2 t3, ToldAt G t1 x ∧ ToldAt G t2 y ∧ ToldAt G t3 z ∧ TmOf o p 2 (.pk t1 t2 t3) := by
  have T1 : ToldAt G (.nm o) (.ref n1) := ⟨n1, rfl, g1⟩
  have T2 : ToldAt G (.nm p) (.ref n2) := ⟨n2, rfl, g2⟩
  have T3 : ToldAt G (.vl v) (.ref nv) := ⟨nv, rfl, g3⟩
  rcases h with rfl | rfl | rfl
  · exact ⟨_, _, _, rfl, rfl, rfl, _, _, _, T1, T3, T2, ⟨ho, hv, hp⟩, by simp [Tm.dep], by simp [Tm.flat], fun s hs => by simpa [Tm.flat] using hs⟩
  · exact ⟨_, _, _, rfl, rfl, rfl, _, _, _, T2, T1, T3, ⟨hp, ho, hv⟩, by simp [Tm.dep], by simp [Tm.flat], fun s hs => by have h : s = p ∨ s = o := (by simpa [Tm.flat] using hs); exact h.symm⟩
  · exact ⟨_, _, _, rfl, rfl, rfl, _, _, _, T3, T2, T1, ⟨hv, hp, ho⟩, by simp [Tm.dep], by simp [Tm.flat], fun s hs => by have h : s = p ∨ s = o := (by simpa [Tm.flat] using hs); exact h.symm⟩
theorem ok_term_l (T : Txt K mg Z) : FnOk P w K mg base CX0 3 Z.f_term_l Z.fd_term_l ["_law_box_here", "_law_one", "_law_other"] sp_term_l := by
  have G_take_l := ok_take_l (P := P) (w := w) (base := base) T
  have G_value_l := ok_value_l (P := P) (w := w) (base := base) T
  refine T.F_term_l.ok sc_term_l (fun vs H Q E h => ?_) (fun cdv AA outer s H vs Q E hr h => ?_)
  · obtain ⟨b, o, p, rfl, _⟩ := h
    rfl
  · obtain ⟨b, o, p, rfl, hB, ho, hp, k⟩ := h
    refine ⟨_, (pss_cons (ps_set (i := 3) sc_term_l.nd rfl (Or.inl rfl) (pe_lst (pa_cons (pe_tup (pa_cons pe_str (pa_cons (pv 1) pa_nil))) (pa_cons (pe_tup (pa_cons pe_str (pa_cons (pv 2) pa_nil))) pa_nil))))
      (pss_cons (ps_set (i := 4) sc_term_l.nd rfl (Or.inl rfl) (pe_call G_take_l (hr.mono (by omega)) rfl T.g_take_l T.F_take_l.kp T.b_take_l .nil pass0 (pa_cons (pv 0) (pa_cons pe_int pa_nil))))
      (pss_cons (ps_if (pt_cmpR op_eq (pv 4) pe_int (nomark _)) (pss_one (ps_ret (pe_tup (pa_cons pe_str (pa_cons (pe_tup (pa_cons pe_str (pa_cons (pe_ix ix_list (pv 3) pe_int (fun _ _ => rfl)) (pa_cons (pe_tup (pa_cons pe_str (pa_cons (pe_call G_value_l (hr.mono (by omega)) rfl T.g_value_l T.F_value_l.kp T.b_value_l .nil pass0 (pa_cons (pv 0) pa_nil)) pa_nil))) (pa_cons (pe_ix ix_list (pv 3) pe_int (fun _ _ => rfl)) pa_nil))))) pa_nil))))) pss_nil)
      (pss_cons (ps_if (pt_cmpR op_eq (pv 4) pe_int (nomark _)) (pss_one (ps_ret (pe_tup (pa_cons pe_str (pa_cons (pe_ix ix_list (pv 3) pe_int (fun _ _ => rfl)) (pa_cons (pe_ix ix_list (pv 3) pe_int (fun _ _ => rfl)) (pa_cons (pe_tup (pa_cons pe_str (pa_cons pe_str (pa_cons (pe_ix ix_list (pv 3) pe_int (fun _ _ => rfl)) (pa_cons (pe_tup (pa_cons pe_str (pa_cons pe_int pa_nil))) pa_nil))))) pa_nil))))))) pss_nil)
      (pss_cons (ps_if (pt_cmpR op_gt (pv 4) pe_int (nomark _)) (pss_cons (ps_set (i := 5) sc_term_l.nd rfl (Or.inl rfl) (pe_lst (pa_cons (pe_ix ix_list (pv 3) pe_int (fun _ _ => rfl)) (pa_cons (pe_ix ix_list (pv 3) pe_int (fun _ _ => rfl)) (pa_cons (pe_tup (pa_cons pe_str (pa_cons (pe_call G_value_l (hr.mono (by omega)) rfl T.g_value_l T.F_value_l.kp T.b_value_l .nil pass0 (pa_cons (pv 0) pa_nil)) pa_nil))) pa_nil)))))
      (pss_cons (ps_set (i := 6) sc_term_l.nd rfl (Or.inl rfl) (pe_tup (pa_cons pe_str (pa_cons (pe_ix ix_list (pv 5) (pe_op op_sub (pv 4) pe_int) (fun _ _ => rfl)) (pa_cons (pe_ix ix_list (pv 5) (pe_op op_sub (pv 4) pe_int) (fun _ _ => rfl)) (pa_cons (pe_ix ix_list (pv 5) (pe_op op_sub (pv 4) pe_int) (fun _ _ => rfl)) pa_nil))))))
      (pss_cons (ps_for PassesOwn.never rfl (pi_range1 (by rfl) T.n_range (pa_cons (pe_call G_take_l (hr.mono (by omega)) rfl T.g_take_l T.F_take_l.kp T.b_take_l .nil pass0 (pa_cons (pv 0) (pa_cons pe_int pa_nil))) pa_nil)) (pg_name (i := 7) sc_term_l.nd rfl (Or.inl rfl)) (pss_one (ps_set (i := 6) sc_term_l.nd rfl (Or.inl rfl) (pe_tup (pa_cons pe_str (pa_cons (pv 6) pa_nil))))))
      (pss_one (ps_ret (pv 6)))))) pss_nil)
      (pss_cons (ps_set (i := 8) sc_term_l.nd rfl (Or.inl rfl) (pe_ix ix_list (pe_lst (pa_cons pe_str (pa_cons pe_str (pa_cons pe_str (pa_cons pe_str (pa_cons pe_str (pa_cons pe_str (pa_cons pe_str (pa_cons pe_str pa_nil))))))))) (pe_call G_take_l (hr.mono (by omega)) rfl T.g_take_l T.F_take_l.kp T.b_take_l .nil pass0 (pa_cons (pv 0) (pa_cons pe_int pa_nil))) (fun _ _ => rfl)))
      (pss_cons (ps_if (pt_cmpR op_eq (pv 4) pe_int (nomark _)) (pss_one (ps_ret (pe_tup (pa_cons pe_str (pa_cons (pv 8) (pa_cons (pe_tup (pa_cons pe_str (pa_cons (pe_call G_value_l (hr.mono (by omega)) rfl T.g_value_l T.F_value_l.kp T.b_value_l .nil pass0 (pa_cons (pv 0) pa_nil)) pa_nil))) (pa_cons (pe_tup (pa_cons pe_str (pa_cons (pv 8) (pa_cons (pe_ix ix_list (pv 3) pe_int (fun _ _ => rfl)) (pa_cons (pe_ix ix_list (pv 3) pe_int (fun _ _ => rfl)) pa_nil))))) pa_nil))))))) pss_nil)
      (pss_one (ps_ret (pe_tup (pa_cons pe_str (pa_cons (pv 8) (pa_cons (pe_ix ix_list (pv 3) pe_int (fun _ _ => rfl)) (pa_cons (pe_ix ix_list (pv 3) pe_int (fun _ _ => rfl)) pa_nil)))))))))))))), ?_⟩
    walk_at "ss"
    refine newT fun n1 H1 hn1 e1 g1 => ?_
    walk_at "ss"
    refine newT fun n2 H2 hn2 e2 g2 => ?_
    walk_at "ss"
    refine newL fun bl H3 hbl e3 g3 => ?_
    have e13 := e1.trans (e2.trans e3)
    have B3 := hB.up e13
    walk_at "ss"
    refine ⟨b, 9, rfl, B3, by decide, by decide, fun way H4 w0 w1 x4 b4 => ?_⟩
    have nbl : bl ≠ b := fresh_nb (hB.up (e1.trans e2)) hbl
    have g3' := x4 _ _ nbl g3
    have tk : ∀ {q : Addr} {xs : List V}, H3 q = some (.tup xs) → H4 q = some (.tup xs) := fun hq => x4 _ _ (box_ne B3 hq (fun _ _ _ z => by cases z)) hq
    have g1' := tk ((e2.trans e3) _ _ g1)
    have g2' := tk (e3 _ _ g2)
    have X4 : ExB b H H4 := (ExB.of e13).trans x4
    have T1 : ToldAt H4 (.nm o) (.ref n1) := ⟨n1, rfl, g1'⟩
    have T2 : ToldAt H4 (.nm p) (.ref n2) := ⟨n2, rfl, g2'⟩
    walk_at "ss"
    refine if_cs (fun c0 => ?_) (fun c0 => ?_)
    · walk_at "ss"
      refine c_ixL (SqL.of g3') rfl ?_
      walk_at "ss"
      refine ⟨b, rfl, b4, fun v H5 hv x5 b5 => ?_⟩
      walk_at "ss"
      refine newT fun nv H6 hnv e6 g6 => ?_
      walk_at "ss"
      refine c_ixL (SqL.of (e6 _ _ (x5 _ _ nbl g3'))) rfl ?_
      walk_at "ss"
      refine newT fun pk H7 hpk e7 g7 => ?_
      walk_at "ss"
      refine newT fun nt H8 hnt e8 g8 => ?_
      have up : ∀ {t : Tm} {u : V}, ToldAt H4 t u → ToldAt H8 t u := fun h => ((h.upB x5 b4).up (e6.trans (e7.trans e8)))
      refine k (.nt (.pk (.nm p) (.vl v) (.nm o))) _ H8 ⟨⟨hp, hv, ho⟩, by simp [Tm.dep], by simp [Tm.flat], fun s hs => by have h : s = p ∨ s = o := (by simpa [Tm.flat] using hs); exact h.symm⟩ ⟨nt, _, rfl, g8, pk, _, _, _, rfl, e8 _ _ g7, up T2, ⟨nv, rfl, (e7.trans e8) _ _ g6⟩, up T1⟩ (X4.trans (x5.trans (ExB.of (e6.trans (e7.trans e8))))) (b5.up (e6.trans (e7.trans e8)))
    walk_at "ss"
    refine if_cs (fun c1 => ?_) (fun c1 => ?_)
    · walk_at "ss"
      refine c_ixL (SqL.of g3') rfl ?_
      walk_at "ss"
      refine c_ixL (SqL.of g3') rfl ?_
      walk_at "ss"
      refine c_ixL (SqL.of g3') rfl ?_
      walk_at "ss"
      refine newT fun nv H6 hnv e6 g6 => ?_
      walk_at "ss"
      refine newT fun tw H7 htw e7 g7 => ?_
      walk_at "ss"
      refine newT fun pk H8 hpk e8 g8 => ?_
      have e48 := e6.trans (e7.trans e8)
      refine k (.pk (.nm o) (.nm p) (.two "mod" (.nm o) (.vl (.int 2)))) _ H8 ⟨⟨ho, hp, by decide +kernel, ho, rfl⟩, by simp [Tm.dep], by simp [Tm.flat], fun s hs => by have h : s = o ∨ s = p ∨ s = o := (by simpa [Tm.flat] using hs); rcases h with h | h | h <;> simp [h]⟩ ⟨pk, _, _, _, rfl, g8, T1.up e48, T2.up e48, tw, _, _, rfl, e8 _ _ g7, T1.up e48, ⟨nv, rfl, (e7.trans e8) _ _ g6⟩⟩ (X4.trans (ExB.of e48)) (b4.up e48)
    walk_at "ss"
    refine if_cs (fun c2 => ?_) (fun c2 => ?_)
    · have hw : way = 6 ∨ way = 7 ∨ way = 8 := by have := of_decide_eq_true c2; omega
      walk_at "ss"
      refine c_ixL (SqL.of g3') rfl ?_
      walk_at "ss"
      refine c_ixL (SqL.of g3') rfl ?_
      walk_at "ss"
      refine ⟨b, rfl, b4, fun v H5 hv x5 b5 => ?_⟩
      walk_at "ss"
      refine newT fun nv H6 hnv e6 g6 => ?_
      walk_at "ss"
      refine newL fun pl H7 hpl e7 g7 => ?_
      have e57 := e6.trans e7
      have tk5 : ∀ {q : Addr} {xs : List V}, H4 q = some (.tup xs) → H7 q = some (.tup xs) := fun hq => e57 _ _ (x5 _ _ (box_ne b4 hq (fun _ _ _ z => by cases z)) hq)
      obtain ⟨x, y, z, hx, hy, hz, t1, t2, t3, hT1, hT2, hT3, hT⟩ := pk3 ho hp hv hw (tk5 g1') (tk5 g2') (e7 _ _ g6)
      walk_at "ss"
      refine c_ixL (SqL.of g7) hx ?_
      walk_at "ss"
      refine c_ixL (SqL.of g7) hy ?_
      walk_at "ss"
      refine c_ixL (SqL.of g7) hz ?_
      walk_at "ss"
      refine newT fun pk H8 hpk e8 g8 => ?_
      walk_at "ss"
      have b8 := b5.up (e57.trans e8)
      refine ⟨b, 4, rfl, b8, by decide, by decide, fun m H9 m0 m1 x9 b9 => ?_⟩
      obtain ⟨mn, rfl⟩ := Int.eq_ofNat_of_zero_le m0
      have TP : ToldAt H9 (.pk t1 t2 t3) (.ref pk) := (show ToldAt H8 (.pk t1 t2 t3) (.ref pk) from ⟨pk, _, _, _, rfl, g8, hT1.up e8, hT2.up e8, hT3.up e8⟩).upB x9 b8
      walk_at "ss"
      refine ⟨by omega, by omega, ?_⟩
      have X9 : ExB b H H9 := X4.trans (x5.trans ((ExB.of (e57.trans e8)).trans x9))
      refine forR (fun i σ' G => (∃ u v7, σ' = [some (.ref b), some (.str o), some (.str p), some (.ref bl), some (.int way), some (.ref pl), some u, v7, none] ∧ ∃ t, TmOf o p (2 + i) t ∧ ToldAt G t u) ∧ Ex H9 G) ⟨⟨_, _, rfl, _, hT, TP⟩, Ex.refl _⟩ ?_ ?_
      · rintro i σ' G hi ⟨⟨u, v7, rfl, t, ht, hu⟩, eG⟩
        walk_at "ss"
        refine newT fun nt G2 hnt f2 m2 => ?_
        walk_at "ss"
        exact ⟨⟨_, _, rfl, .nt t, tm_nt ht, nt, _, rfl, m2, hu.up f2⟩, eG.trans f2⟩
      · rintro σ' G ⟨⟨u, v7, rfl, t, ht, hu⟩, eG⟩
        walk_at "ss"
        have hmn : Int.toNat (mn : Int) = mn := rfl
        rw [hmn] at ht
        exact k t u G (ht.mono (by omega)) hu (X9.trans (ExB.of eG)) (b9.up eG)
    walk_at "ss"
    refine newL fun ol H5 hol e5 g5 => ?_
    walk_at "ss"
    refine ⟨b, 8, rfl, b4.up e5, by decide, by decide, fun d H6 h0 h1 x6 b6 => ?_⟩
    obtain ⟨op, hop, hops⟩ := op8 h0 h1
    refine c_ixL (SqL.of (x6 _ _ (fresh_nb b4 hol) g5)) hop ?_
    have g36 := x6 _ _ nbl (e5 _ _ g3')
    have up6 : ∀ {t : Tm} {u : V}, ToldAt H4 t u → ToldAt H6 t u := fun h => (h.up e5).upB x6 (b4.up e5)
    have X6 : ExB b H H6 := X4.trans ((ExB.of e5).trans x6)
    walk_at "ss"
    refine if_cs (fun c3 => ?_) (fun c3 => ?_)
    · walk_at "ss"
      refine ⟨b, rfl, b6, fun v H7 hv x7 b7 => ?_⟩
      walk_at "ss"
      refine newT fun nv H8 hnv e8 g8 => ?_
      walk_at "ss"
      refine c_ixL (SqL.of (e8 _ _ (x7 _ _ nbl g36))) rfl ?_
      walk_at "ss"
      refine c_ixL (SqL.of (e8 _ _ (x7 _ _ nbl g36))) rfl ?_
      walk_at "ss"
      refine newT fun t2 H9 ht2 e9 g9 => ?_
      walk_at "ss"
      refine newT fun t1 H10 ht1 e10 g10 => ?_
      have e710 := e8.trans (e9.trans e10)
      have up10 : ∀ {t : Tm} {u : V}, ToldAt H4 t u → ToldAt H10 t u := fun h => ((up6 h).upB x7 b6).up e710
      refine k (.two op (.vl v) (.two op (.nm p) (.nm o))) _ H10 ⟨⟨hops, hv, hops, hp, ho⟩, by simp [Tm.dep], by simp [Tm.flat], fun s hs => by have h : s = p ∨ s = o := (by simpa [Tm.flat] using hs); exact h.symm⟩ ⟨t1, _, _, rfl, g10, ⟨nv, rfl, (e9.trans e10) _ _ g8⟩, t2, _, _, rfl, e10 _ _ g9, up10 T2, up10 T1⟩ (X6.trans (x7.trans (ExB.of e710))) (b7.up e710)
    · walk_at "ss"
      refine c_ixL (SqL.of g36) rfl ?_
      walk_at "ss"
      refine c_ixL (SqL.of g36) rfl ?_
      walk_at "ss"
      refine newT fun t1 H7 ht1 e7 g7 => ?_
      exact k (.two op (.nm o) (.nm p)) _ H7 ⟨⟨hops, ho, hp⟩, by simp [Tm.dep], by simp [Tm.flat], fun s hs => by simpa [Tm.flat] using hs⟩ ⟨t1, _, _, rfl, g7, (up6 T1).up e7, (up6 T2).up e7⟩ (X6.trans (ExB.of e7)) (b6.up e7)

/-! ### the state of the drawing: names left, clocks of those that are drawn -/
open TL (tl)
/-- the dict of clocks: its names in their order -/
def CksAt (H : Hp) (cd : Addr) (U : List Str) (ck : Str → List Str) : Prop := ∃ kv, H cd = some (.dK kv) ∧ kv.map (·.1) = U.map (Sum.inr : Str → Key) ∧ ∀ s ∈ U, ∃ p, valV kv (.inr s) = some (.ref p) ∧ H p = some (.tup ((ck s).map V.str))
/-- all but these is kept -/
def ExN (S : List Addr) (H G : Hp) : Prop := ∀ a o, a ∉ S → H a = some o → G a = some o
theorem ExN.refl (S : List Addr) (H : Hp) : ExN S H H := fun _ _ _ h => h
theorem ExN.trans {S : List Addr} {H H1 H2 : Hp} (e : ExN S H H1) (e2 : ExN S H1 H2) : ExN S H H2 := fun a o n h => e2 a o n (e a o n h)
theorem ExN.of {S : List Addr} {H H1 : Hp} (e : Ex H H1) : ExN S H H1 := fun a o _ h => e a o h
theorem ExN.box {S : List Addr} {b : Addr} {H H1 : Hp} (e : ExB b H H1) (hb : b ∈ S) : ExN S H H1 := fun a o n h => e a o (fun z => n (by rw [z]; exact hb)) h
theorem ExN.upd {S : List Addr} {b : Addr} {H : Hp} {o : HO} (hb : b ∈ S) : ExN S H (upd H b o) := fun a u n h => by rw [upd_ne (fun z => n (by rw [z]; exact hb))]; exact h
/-- what was made behind H may change -/
theorem ExN.less {S : List Addr} {c : Addr} {H G : Hp} (e : ExN (c :: S) H G) (hc : H c = none) : ExN S H G := fun a o n h => e a o (fun z => by
  rcases List.mem_cons.mp z with z | z
  · rw [z, hc] at h
    cases h
  · exact n z) h
theorem ExN.sub {S S2 : List Addr} {H G : Hp} (e : ExN S H G) (h : ∀ a ∈ S, a ∈ S2) : ExN S2 H G := fun a o n q => e a o (fun z => n (h a z)) q
structure DrAt (H : Hp) (b lf cd : Addr) (U L : List Str) (ck : Str → List Str) : Prop where
  box : BoxAt H b
  left : H lf = some (.lst (L.map V.str))
  cks : CksAt H cd U ck
  good : ∀ s ∈ U ++ L, goodN s
  nodup : (U ++ L).Nodup
  len : (U ++ L).length ≤ 40
  ckg : ∀ s ∈ U, (ck s).length ≤ U.length ∧ ∀ z ∈ ck s, z ∈ U
section
variable {H G : Hp} {b lf cd : Addr} {U L : List Str} {ck : Str → List Str}
theorem left_nb (hb : BoxAt H b) (hl : H lf = some (.lst (L.map V.str))) : lf ≠ b := box_ne hb hl (fun x y z e => by
  cases L with
  | nil => cases e
  | cons a l => cases e)
theorem DrAt.nlb (h : DrAt H b lf cd U L ck) : lf ≠ b := left_nb h.box h.left
theorem DrAt.ncb (h : DrAt H b lf cd U L ck) : cd ≠ b := let ⟨_, g, _⟩ := h.cks; box_ne h.box g (fun _ _ _ z => by cases z)
theorem DrAt.ncl (h : DrAt H b lf cd U L ck) : cd ≠ lf := let ⟨_, g, _⟩ := h.cks; ne_of g h.left (fun z => by cases z)
theorem CksAt.tu (h : CksAt H cd U ck) (e : TupK H G) (ec : G cd = H cd) : CksAt G cd U ck := by
  obtain ⟨kv, h1, h2, h3⟩ := h
  refine ⟨kv, by rw [ec]; exact h1, h2, fun s hs => ?_⟩
  obtain ⟨p, h4, h5⟩ := h3 s hs
  exact ⟨p, h4, e _ _ h5⟩
/-- tuples stand through the drawing -/
theorem DrAt.tup {S : List Addr} (h : DrAt H b lf cd U L ck) (e : ExN [b, lf, cd] H G) : TupK H G := fun a xs ha => by
  obtain ⟨kv, g, _⟩ := h.cks
  refine e a _ (fun z => ?_) ha
  rcases List.mem_cons.mp z with z | z
  · exact box_ne h.box ha (fun _ _ _ z => by cases z) z
  rcases List.mem_cons.mp z with z | z
  · exact ne_of ha h.left (fun z => by cases z) z
  · exact ne_of ha g (fun z => by cases z) (by simpa using z)
theorem DrAt.up (h : DrAt H b lf cd U L ck) (e : Ex H G) : DrAt G b lf cd U L ck := by
  obtain ⟨h1, h2, ⟨kv, h3, h3', h3''⟩, h4, h5, h6, h7⟩ := h
  refine ⟨h1.up e, e _ _ h2, ⟨kv, e _ _ h3, h3', fun s hs => ?_⟩, h4, h5, h6, h7⟩
  obtain ⟨p, q1, q2⟩ := h3'' s hs
  exact ⟨p, q1, e _ _ q2⟩
/-- a draw from the box -/
theorem DrAt.upB (h : DrAt H b lf cd U L ck) (e : ExB b H G) (hb : BoxAt G b) : DrAt G b lf cd U L ck := by
  have n1 := h.nlb
  have n2 := h.ncb
  obtain ⟨h1, h2, ⟨kv, h3, h3', h3''⟩, h4, h5, h6, h7⟩ := h
  refine ⟨hb, e _ _ n1 h2, ⟨kv, e _ _ n2 h3, h3', fun s hs => ?_⟩, h4, h5, h6, h7⟩
  obtain ⟨p, q1, q2⟩ := h3'' s hs
  exact ⟨p, q1, e _ _ (box_ne h1 q2 (fun _ _ _ z => by cases z)) q2⟩
theorem DrAt.get (h : DrAt H b lf cd U L ck) {s : Str} (hs : s ∈ U) : ∃ kv p, H cd = some (.dK kv) ∧ valV kv (.inr s) = some (.ref p) ∧ H p = some (.tup ((ck s).map V.str)) := by
  obtain ⟨kv, h1, h2, h3⟩ := h.cks
  obtain ⟨p, h4, h5⟩ := h3 s hs
  exact ⟨kv, p, h1, h4, h5⟩
theorem DrAt.okc (h : DrAt H b lf cd U L ck) {s : Str} (hs : s ∈ U) : ((ck s).map V.str).all okV = true := str_ok fun z hz => h.good z (List.mem_append_left _ ((h.ckg s hs).2 z hz))
theorem last_split {α : Type} {l : List α} (h : l ≠ []) : ∃ l' x, l = l' ++ [x] := ⟨l.dropLast, l.getLast h, (List.dropLast_concat_getLast h).symm⟩
end
/-- the state with a name taken from what is left and not yet in the dict -/
structure DrMid (H : Hp) (b lf cd : Addr) (U L : List Str) (ck : Str → List Str) (n : Str) : Prop where
  box : BoxAt H b
  left : H lf = some (.lst (L.map V.str))
  cks : CksAt H cd U ck
  good : ∀ s ∈ U ++ (L ++ [n]), goodN s
  nodup : (U ++ (L ++ [n])).Nodup
  len : (U ++ (L ++ [n])).length ≤ 40
  ckg : ∀ s ∈ U, (ck s).length ≤ U.length ∧ ∀ z ∈ ck s, z ∈ U
section
variable {H G : Hp} {b lf cd : Addr} {U L : List Str} {ck : Str → List Str} {n : Str}
theorem DrAt.pop (h : DrAt H b lf cd U (L ++ [n]) ck) : DrMid (upd H lf (.lst (L.map V.str))) b lf cd U L ck n := by
  have n1 := h.nlb
  have n2 := h.ncl
  obtain ⟨h1, h2, ⟨kv, h3, h3', h3''⟩, h4, h5, h6, h7⟩ := h
  refine ⟨box_put h1 n1.symm, upd_same, ⟨kv, by rw [upd_ne n2]; exact h3, h3', fun s hs => ?_⟩, h4, h5, h6, h7⟩
  obtain ⟨p, q1, q2⟩ := h3'' s hs
  exact ⟨p, q1, by rw [upd_ne (ne_of q2 h2 (fun z => by cases z))]; exact q2⟩
theorem DrMid.nlb (h : DrMid H b lf cd U L ck n) : lf ≠ b := left_nb h.box h.left
theorem DrMid.ncb (h : DrMid H b lf cd U L ck n) : cd ≠ b := let ⟨_, g, _⟩ := h.cks; box_ne h.box g (fun _ _ _ z => by cases z)
theorem DrMid.ncl (h : DrMid H b lf cd U L ck n) : cd ≠ lf := let ⟨_, g, _⟩ := h.cks; ne_of g h.left (fun z => by cases z)
theorem DrMid.up (h : DrMid H b lf cd U L ck n) (e : Ex H G) : DrMid G b lf cd U L ck n := by
  obtain ⟨h1, h2, ⟨kv, h3, h3', h3''⟩, h4, h5, h6, h7⟩ := h
  refine ⟨h1.up e, e _ _ h2, ⟨kv, e _ _ h3, h3', fun s hs => ?_⟩, h4, h5, h6, h7⟩
  obtain ⟨p, q1, q2⟩ := h3'' s hs
  exact ⟨p, q1, e _ _ q2⟩
theorem DrMid.upB (h : DrMid H b lf cd U L ck n) (e : ExB b H G) (hb : BoxAt G b) : DrMid G b lf cd U L ck n := by
  have n1 := h.nlb
  have n2 := h.ncb
  obtain ⟨h1, h2, ⟨kv, h3, h3', h3''⟩, h4, h5, h6, h7⟩ := h
  refine ⟨hb, e _ _ n1 h2, ⟨kv, e _ _ n2 h3, h3', fun s hs => ?_⟩, h4, h5, h6, h7⟩
  obtain ⟨p, q1, q2⟩ := h3'' s hs
  exact ⟨p, q1, e _ _ (box_ne h1 q2 (fun _ _ _ z => by cases z)) q2⟩
theorem DrMid.get (h : DrMid H b lf cd U L ck n) {s : Str} (hs : s ∈ U) : ∃ kv p, H cd = some (.dK kv) ∧ valV kv (.inr s) = some (.ref p) ∧ H p = some (.tup ((ck s).map V.str)) := by
  obtain ⟨kv, h1, h2, h3⟩ := h.cks
  obtain ⟨p, h4, h5⟩ := h3 s hs
  exact ⟨kv, p, h1, h4, h5⟩
theorem DrMid.not (h : DrMid H b lf cd U L ck n) : n ∉ U := fun hn => (List.nodup_append.mp h.nodup).2.2 n hn n (by simp) rfl
def setC (ck : Str → List Str) (n : Str) (c : List Str) : Str → List Str := fun s => if s = n then c else ck s
/-- the name's clock is put in -/
theorem DrMid.put (h : DrMid H b lf cd U L ck n) {kv : List (Key × V)} {p : Addr} {c : List Str} (hk : H cd = some (.dK kv)) (hp : H p = some (.tup (c.map V.str))) (hc : c.length ≤ U.length + 1) (hcU : ∀ z ∈ c, z ∈ U) : DrAt (upd H cd (.dK (putK kv (.inr n) (.ref p)))) b lf cd (U ++ [n]) L (setC ck n c) := by
  have n1 := h.ncl
  have n2 := h.ncb
  have hn := h.not
  obtain ⟨h1, h2, ⟨kv', h3, h3', h3''⟩, h4, h5, h6, h7⟩ := h
  rw [hk] at h3
  cases h3
  have pm : (U ++ [n] ++ L).Perm (U ++ (L ++ [n])) := by
    rw [List.append_assoc]
    exact List.Perm.append_left U List.perm_append_comm
  refine ⟨box_put h1 n2.symm, by rw [upd_ne n1.symm]; exact h2, ⟨_, upd_same, ?_, fun s hs => ?_⟩, fun s hs => h4 s (pm.mem_iff.mp hs), pm.nodup_iff.mpr h5, by rw [pm.length_eq]; exact h6, fun s hs => ?_⟩
  · rw [putK_fresh (by
      rw [h3']
      intro hm
      obtain ⟨z, hz, he⟩ := List.mem_map.mp hm
      cases Sum.inr.inj he
      exact hn hz), List.map_append, h3', List.map_append]
    rfl
  · rw [valV_put]
    unfold setC
    by_cases e : s = n
    · subst e
      rw [if_pos rfl, if_pos rfl]
      exact ⟨p, rfl, by rw [upd_ne (ne_of hp hk (fun z => by cases z))]; exact hp⟩
    · rw [if_neg (fun z => e (Sum.inr.inj z)), if_neg e]
      have hsU : s ∈ U := by simpa [e] using hs
      obtain ⟨q, q1, q2⟩ := h3'' s hsU
      exact ⟨q, q1, by rw [upd_ne (ne_of q2 hk (fun z => by cases z))]; exact q2⟩
  · unfold setC
    rw [List.length_append, List.length_singleton]
    by_cases e : s = n
    · rw [if_pos e]
      exact ⟨hc, fun z hz => List.mem_append_left _ (hcU z hz)⟩
    · rw [if_neg e]
      have hsU : s ∈ U := by simpa [e] using hs
      exact ⟨Nat.le_succ_of_le (h7 s hsU).1, fun z hz => List.mem_append_left _ ((h7 s hsU).2 z hz)⟩
theorem setC_old {c : List Str} {s : Str} (h : s ≠ n) : setC ck n c s = ck s := if_neg h
theorem setC_new {c : List Str} : setC ck n c n = c := if_pos rfl
end
/-! rows that are drawn -/
def CkRow (ck : Str → List Str) : Rw → Prop
  | .pl n t => ∀ s ∈ t.flat, ck s = ck n
  | .vd 1 n _ x => ck x ≠ [] ∧ ck n = (ck x).dropLast
  | .vd _ n _ x => ck n = ck x
  | .wh n x y => ck x = ck y ∧ ck n = ck x ++ [y]
  | .sm ns => ∀ s ∈ ns, ∀ z ∈ ns, ck s = ck z
  | .cl _ _ _ => True
/-- a row over the names U, with the clocks ck -/
structure RwOk (U : List Str) (ck : Str → List Str) (r : Rw) : Prop where
  good : r.good
  nocall : r.nocall
  pl : r.kind = 0 → r.names ≠ []
  names : ∀ s ∈ r.names, s ∈ U
  tells : ∀ s ∈ r.tells, s ∈ U
  ck : CkRow ck r
  tell : r.tells ≠ []
section
variable {U U2 : List Str} {ck ck2 : Str → List Str} {r : Rw}
theorem CkRow.congr (h : CkRow ck r) (e : ∀ s, s ∈ r.tells ∨ s ∈ r.names → ck2 s = ck s) : CkRow ck2 r := by
  cases r with
  | pl n t => exact fun s hs => by rw [e s (.inr (flat_names hs)), e n (.inl (by simp [Rw.tells]))]; exact h s hs
  | vd k n v x =>
    have e1 := e n (.inl (by simp [Rw.tells]))
    have e2 := e x (.inr (by simp [Rw.names]))
    match k, h with
    | 0, h => exact (by show ck2 n = ck2 x; rw [e1, e2]; exact h)
    | 1, h => exact (by show ck2 x ≠ [] ∧ ck2 n = (ck2 x).dropLast; rw [e1, e2]; exact h)
    | k + 2, h => exact (by show ck2 n = ck2 x; rw [e1, e2]; exact h)
  | wh n x y =>
    have e1 := e n (.inl (by simp [Rw.tells]))
    have e2 := e x (.inr (once_sub (by simp)))
    have e3 := e y (.inr (once_sub (by simp)))
    show ck2 x = ck2 y ∧ ck2 n = ck2 x ++ [y]
    rw [e1, e2, e3]
    exact h
  | sm ns => exact fun s hs z hz => by rw [e s (.inr (once_sub hs)), e z (.inr (once_sub hz))]; exact h s hs z hz
  | cl os nd xs => exact h
theorem RwOk.mono (h : RwOk U ck r) (hU : ∀ s ∈ U, s ∈ U2) (hc : ∀ s ∈ U, ck2 s = ck s) : RwOk U2 ck2 r :=
  ⟨h.good, h.nocall, h.pl, fun s hs => hU s (h.names s hs), fun s hs => hU s (h.tells s hs), h.ck.congr fun s hs => hc s (hs.elim (h.tells s) (h.names s)), h.tell⟩
theorem rw_vd {k : Nat} {n x : Str} {v : V} (hk : k < 3) (hn : n ∈ U) (hx : x ∈ U) (gn : goodN n) (gx : goodN x) (hv : isVal v = true) (hc : CkRow ck (.vd k n v x)) : RwOk U ck (.vd k n v x) :=
  ⟨⟨hk, gn, hv, gx⟩, trivial, fun e => (by match k, e with | 0, e => cases e | 1, e => cases e | _ + 2, e => cases e), fun s hs => by have : s = x := (by simpa [Rw.names] using hs); rw [this]; exact hx, fun s hs => by have : s = n := (by simpa [Rw.tells] using hs); rw [this]; exact hn, hc, by simp [Rw.tells]⟩
theorem rw_wh {n x y : Str} (hn : n ∈ U) (hx : x ∈ U) (hy : y ∈ U) (gn : goodN n) (gx : goodN x) (gy : goodN y) (hc : ck x = ck y) (hc2 : ck n = ck x ++ [y]) : RwOk U ck (.wh n x y) :=
  ⟨⟨gn, gx, gy⟩, trivial, fun e => (by cases e), fun s hs => by
    have h := once_mem hs
    have h : s = x ∨ s = y := by simpa using h
    rcases h with h | h
    · rw [h]; exact hx
    · rw [h]; exact hy, fun s hs => by have : s = n := (by simpa [Rw.tells] using hs); rw [this]; exact hn, ⟨hc, hc2⟩, by simp [Rw.tells]⟩
theorem rw_pl {n o p : Str} {t : Tm} (ht : TmOf o p 5 t) (hn : n ∈ U) (ho : o ∈ U) (hp : p ∈ U) (gn : goodN n) (c1 : ck o = ck n) (c2 : ck p = ck n) : RwOk U ck (.pl n t) := by
  refine ⟨⟨gn, ht.1, ht.2.1⟩, trivial, fun _ z => ?_, fun s hs => ?_, fun s hs => ?_, fun s hs => ?_, by simp [Rw.tells]⟩
  · obtain ⟨s, hs⟩ := List.exists_mem_of_ne_nil _ ht.2.2.1
    have := flat_names hs
    rw [show (Rw.pl n t).names = t.names from rfl] at z
    rw [z] at this
    cases this
  · rcases ht.2.2.2 s (names_flat hs) with h | h
    · rw [h]; exact ho
    · rw [h]; exact hp
  · have : s = n := (by simpa [Rw.tells] using hs)
    rw [this]
    exact hn
  · rcases ht.2.2.2 s hs with h | h
    · rw [h]; exact c1
    · rw [h]; exact c2
end
/-- what a drawing of some rows gives: T are the names told anew, R the names whose rows are drawn -/
def GotR (H : Hp) (b lf cd : Addr) (S : List Addr) (U L R : List Str) (ck : Str → List Str) (Q : VK) : Prop :=
  ∀ (T L2 : List Str) (ck2 : Str → List Str) (rs : List Rw) (us : List V) (q : Addr) (H2 : Hp), R ++ T ≠ [] → (T ++ L2).Perm L → DrAt H2 b lf cd (U ++ T) L2 ck2 → (∀ s ∈ U, ck2 s = ck s) → (rs.flatMap Rw.tells).Perm (R ++ T) → (∀ r ∈ rs, RwOk (U ++ T) ck2 r) → H q = none → H2 q = some (.lst us) → Paired (RowAt H2) rs us → ExN S H H2 → Q (.ref q) H2
/-- a slice of a tuple that stands in the heap -/
theorem c_slH {H : Hp} {Q : VK} {a : Addr} {xs : List V} {lo hi : Option Int} (h : H a = some (.tup xs)) (k : ∀ p H2, Ex H H2 → H2 p = some (.tup (cutV xs lo hi)) → Q (.ref p) H2) : rSlA K (.ref a) lo hi H Q := by
  refine ⟨a, xs, rfl, SqT.of h, fun ⟨z1, z2⟩ => k a H (Ex.refl _) ?_, fun _ p hp => k p _ (Ex.new hp) upd_same⟩
  unfold cutV
  rw [z1, z2, List.drop_zero, Nat.sub_zero, List.take_length]
  exact h
/-- t + u of tuples that stand in the heap -/
theorem c_catH {H : Hp} {Q : VK} {a b : Addr} {xs ys : List V} (ha : H a = some (.tup xs)) (hb : H b = some (.tup ys)) (hn : xs.length + ys.length ≤ 50000) (k : ∀ p H2, Ex H H2 → H2 p = some (.tup (xs ++ ys)) → Q (.ref p) H2) : rCatA K (.ref a) (.ref b) H Q := by
  refine ⟨a, b, xs, ys, rfl, rfl, SqT.of ha, SqT.of hb, by rw [sizeLine_eq]; omega, fun z => k b H (Ex.refl _) (by rw [z]; exact hb), fun _ z => k a H (Ex.refl _) (by rw [z, List.append_nil]; exact ha), fun _ _ p hp => k p _ (Ex.new hp) upd_same⟩

/-! ### a row on a slower clock -/
open TL (tl)
theorem c_pop {H : Hp} {Q : VK} {l : Addr} {L : List Str} {n : Str} (hH : H l = some (.lst ((L ++ [n]).map V.str))) (k : Q (.str n) (upd H l (.lst (L.map V.str)))) : rPop (.ref l) [] H Q := by
  refine ⟨l, _, .str n, rfl, rfl, hH, ?_, ?_⟩
  · rw [List.length_map, List.length_append, List.length_singleton, Nat.add_sub_cancel, List.getElem?_map, List.getElem?_append_right (Nat.le_refl _), Nat.sub_self]
    rfl
  · rw [← List.map_dropLast, List.dropLast_concat]
    exact k
/-- what is new at the end was new at the start -/
theorem freshN {H G : Hp} {b lf cd q : Addr} {U L : List Str} {ck : Str → List Str} (X : ExN [b, lf, cd] H G) (hD : DrAt H b lf cd U L ck) (hq : G q = none) (hG : ∃ o1 o2 o3, G b = some o1 ∧ G lf = some o2 ∧ G cd = some o3) : H q = none := by
  cases ho : H q with
  | none => rfl
  | some o =>
    obtain ⟨o1, o2, o3, g1, g2, g3⟩ := hG
    have := X q o (fun z => by
      rcases List.mem_cons.mp z with z | z
      · rw [z, g1] at hq; cases hq
      rcases List.mem_cons.mp z with z | z
      · rw [z, g2] at hq; cases hq
      · have : q = cd := by simpa using z
        rw [this, g3] at hq; cases hq) ho
    rw [hq] at this
    cases this
theorem DrAt.three {H : Hp} {b lf cd : Addr} {U L : List Str} {ck : Str → List Str} (h : DrAt H b lf cd U L ck) : ∃ o1 o2 o3, H b = some o1 ∧ H lf = some o2 ∧ H cd = some o3 := by
  obtain ⟨o, ho⟩ := h.box.some
  obtain ⟨kv, hk, _⟩ := h.cks
  exact ⟨_, _, _, ho, h.left, hk⟩
theorem DrMid.kvl {H : Hp} {b lf cd : Addr} {U L : List Str} {ck : Str → List Str} {n : Str} (h : DrMid H b lf cd U L ck n) {kv : List (Key × V)} (g : H cd = some (.dK kv)) : kv.length ≤ 40 := by
  obtain ⟨kv', h1, h2, _⟩ := h.cks
  have h3 := h.len
  rw [g] at h1
  cases h1
  have := congrArg List.length h2
  rw [List.length_map, List.length_map] at this
  rw [List.length_append] at h3
  omega
def keyB (g : Str → Bool) : Key → Bool
  | .inr s => g s
  | .inl _ => false
theorem paired_keys : ∀ {ys : List V} {l : List (Key × V)}, Paired (fun y (p : Key × V) => y = kV p.1) ys l → ys = l.map fun p => kV p.1
  | _, _, .nil => rfl
  | _, _, .cons h t => by rw [List.map_cons, ← paired_keys t, h]
theorem filt_keys (g : Str → Bool) : ∀ {U : List Str} {kv : List (Key × V)}, kv.map (·.1) = U.map (Sum.inr : Str → Key) → (kv.filter fun p => keyB g p.1).map (fun p => kV p.1) = (U.filter g).map V.str
  | [], [], _ => rfl
  | [], _ :: _, h => by cases h
  | _ :: _, [], h => by cases h
  | u :: U, (k, v) :: kv, h => by
    rw [List.map_cons, List.map_cons] at h
    injection h with h1 h2
    have h1 : k = Sum.inr u := h1
    subst h1
    have ih := filt_keys g h2
    rw [List.filter_cons, List.filter_cons]
    show List.map _ (if g u = true then _ else _) = _
    cases hg : g u
    · simpa using ih
    · simp only [↓reduceIte, List.map_cons, ih]
      rfl
theorem eqL_nil (l : List Str) : eqL (l.map V.str) [] = l.isEmpty := by cases l <;> rfl
theorem cut_init (l : List Str) : cutV (l.map V.str) none (some (-1)) = l.dropLast.map V.str := by
  unfold cutV
  rw [HT.sIx_none, List.drop_zero, Nat.sub_zero, List.length_map]
  show List.take (if (-1 : Int) < 0 then ((-1 : Int) + (l.length : Int)).toNat else min (-1 : Int).toNat l.length) _ = _
  rw [if_pos (by decide), show ((-1 : Int) + (l.length : Int)).toNat = l.length - 1 from by omega, ← List.map_take, ← List.dropLast_eq_take]
def sp_slower_l : Sp := fun vs H Q _ => ∃ (b lf cd : Addr) (U L : List Str) (ck : Str → List Str) (base mate : Str), vs = [.ref b, .ref lf, .ref cd, .str base, .str mate] ∧ DrAt H b lf cd U L ck ∧ base ∈ U ∧ mate ∈ U ∧ ck mate = ck base ∧ L ≠ [] ∧ GotR H b lf cd [b, lf, cd] U L [] ck Q
theorem ok_slower_l (T : Txt K mg Z) : FnOk P w K mg base CX0 3 Z.f_slower_l Z.fd_slower_l ["_law_box_here", "_law_left", "_law_clocks", "_law_base", "_law_mate"] sp_slower_l := by
  have G_take_l := ok_take_l (P := P) (w := w) (base := base) T
  have G_value_l := ok_value_l (P := P) (w := w) (base := base) T
  refine T.F_slower_l.ok sc_slower_l (fun vs H Q E h => ?_) (fun cdv AA outer s H vs Q E hr h => ?_)
  · obtain ⟨b, lf, cd, U, L, ck, base, mate, rfl, _⟩ := h
    rfl
  · obtain ⟨b, lf, cd, U, L0, ck, base, mate, rfl, hD, hbU, hmU, hcm, hL, k⟩ := h
    obtain ⟨L, n, rfl⟩ := last_split hL
    have hlen := hD.len
    refine ⟨_, (pss_cons (ps_lock (ps_setLc (i := 5) (own := [("_law_name", 6)]) (g := (gName 6)) (tt := (tTest (tOp (rNeD K) (tDGet (tVar 2) (tVar 6)) (tTup tNil)))) (te := (tVar 6)) rfl sc_slower_l.nd rfl rfl (sw_true rfl rfl rfl (by decide +kernel)) (pi_keys (pv 2)) (blkOk_by (own := [("_law_name", 6)]) (N := N_slower_l) (sc := defScope s_slower_l) (by decide +kernel)) (fun _ _ _ _ _ => (pg_name (i := 6) sc_slower_l.nd rfl (Or.inl rfl))) (fun _ _ _ _ _ => (pts_one (pt_cmpR (op_neD hr.units) (pe_dget (hu_of hr) (pv 2) (pv 6) (fun _ _ => rfl)) (pe_tup pa_nil) (nomark _)))) (fun _ _ _ _ _ => (pv 6))))
      (pss_cons (ps_set (i := 6) sc_slower_l.nd rfl (Or.inl rfl) (pe_bm0 PySem.F.plainAttrs_list PySem.F.slot_list_pop PySem.F.type_list_pop mt_pop (pv 1)))
      (pss_cons (ps_if (PW.pt (pw_and (pt_cmpR (op_neNil (hu68 hr)) (pv 5) (pe_lst pa_nil) (nomark _)) (pw_and1 (pt_cmpR op_eq (pe_call G_take_l (hr.mono (by omega)) rfl T.g_take_l T.F_take_l.kp T.b_take_l .nil pass0 (pa_cons (pv 0) (pa_cons pe_int pa_nil))) pe_int (nomark _))))) (pss_cons (ps_set (i := 7) sc_slower_l.nd rfl (Or.inl rfl) (pe_ix ix_list (pv 5) (pe_call G_take_l (hr.mono (by omega)) rfl T.g_take_l T.F_take_l.kp T.b_take_l .nil pass0 (pa_cons (pv 0) (pa_cons (pe_callB call_len_seq (by rfl) T.n_len (by decide +kernel) (pa_cons (pv 5) pa_nil)) pa_nil))) (fun _ _ => rfl)))
      (pss_cons (ps_dput (hu_of hr) (pv 2) (pv 6) (pe_slice sl_tupA (pe_dget (hu_of hr) (pv 2) (pv 7) (fun _ _ => rfl)) po_none (po_some (pe_un un_neg pe_int))) rfl)
      (pss_one (ps_ret (pe_lst (pa_cons (pe_tup (pa_cons pe_str (pa_cons (pv 6) (pa_cons (pe_call G_value_l (hr.mono (by omega)) rfl T.g_value_l T.F_value_l.kp T.b_value_l .nil pass0 (pa_cons (pv 0) pa_nil)) (pa_cons (pv 7) pa_nil))))) pa_nil)))))) pss_nil)
      (pss_cons (ps_dput (hu_of hr) (pv 2) (pv 6) (pe_op op_catA (pe_dget (hu_of hr) (pv 2) (pv 3) (fun _ _ => rfl)) (pe_tup (pa_cons (pv 4) pa_nil))) rfl)
      (pss_one (ps_ret (pe_lst (pa_cons (pe_tup (pa_cons pe_str (pa_cons (pv 6) (pa_cons (pv 3) (pa_cons (pv 4) pa_nil))))) pa_nil)))))))), ?_⟩
    obtain ⟨kv, gcd, hkeys, hkv⟩ := id hD.cks
    have hkl : kv.length = U.length := by have := congrArg List.length hkeys; rwa [List.length_map, List.length_map] at this
    have hUl : U.length ≤ 40 := by rw [List.length_append] at hlen; omega
    walk_at "ss"
    refine c_lockE gcd trivial fun od => ?_
    refine c_lcK ?_
    walk_at "ss"
    refine ⟨cd, od, rfl, .inl ⟨kv, upd_same, ?_⟩⟩
    refine lcK (fun p => keyB (fun s => !(ck s).isEmpty) p.1) (fun p y G => y = kV p.1) (fun p y G G2 hn h => h) upd_same (by omega) (fun i p hp F2 f2 R N hY hN => ?_) (fun ys pl G1 hpair hpl e1 g1 => ?_)
    · have hk1 : (kv.map (·.1))[i]? = some p.1 := by rw [List.getElem?_map, hp]; rfl
      rw [hkeys, List.getElem?_map] at hk1
      obtain ⟨s, hs, hse⟩ := Option.map_eq_some_iff.mp hk1
      have hsU := List.mem_of_getElem? hs
      obtain ⟨q, q1, q2⟩ := hkv s hsU
      rw [← hse] at hY hN ⊢
      rw [show kV (Sum.inr s : Key) = V.str s from rfl]
      walk_at "ss"
      have nq : q ≠ cd := ne_of q2 gcd (fun z => by cases z)
      have gq : F2 q = some (.tup ((ck s).map V.str)) := f2 _ _ (by rw [upd_ne nq]; exact q2)
      refine ⟨cd, .ref q, rfl, .inl ⟨kv, .inr s, .inr ⟨od, f2 _ _ upd_same⟩, rfl, q1.symm⟩, ?_⟩
      walk_at "ss"
      refine newT fun em F3 hem f3 m3 => ?_
      refine c_neT (SqT.of (f3 _ _ gq)) (SqT.of m3) (hD.okc hsU) rfl ?_
      rw [eqL_nil]
      walk_at "ss"
      refine if_cs (fun hc => ?_) (fun hc => ?_)
      · walk_at "ss"
        exact hY hc _ _ f3 rfl
      · exact hN hc _ f3
    refine ⟨e1 _ _ upd_same, ?_⟩
    rw [paired_keys hpair, filt_keys _ hkeys] at g1
    have hplc : pl ≠ cd := by
      intro z
      subst z
      rw [upd_same] at hpl
      cases hpl
    have hpl0 : H pl = none := by rw [upd_ne hplc] at hpl; exact hpl
    have E1 : Ex H (upd G1 cd (.dK kv)) := ex_unlock gcd e1
    have gl1 : upd G1 cd (.dK kv) pl = some (.lst ((U.filter fun s => !(ck s).isEmpty).map V.str)) := by rw [upd_ne hplc]; exact g1
    generalize upd G1 cd (.dK kv) = H1 at E1 gl1
    have hD1 := hD.up E1
    walk_at "ss"
    refine ⟨.inl ⟨rfl, _, SqL.of hD1.left⟩, ?_⟩
    walk_at "ss"
    refine c_pop hD1.left ?_
    have hM2 := hD1.pop
    have nlb := hD1.nlb
    have npl : pl ≠ lf := fun z => by rw [z, hD.left] at hpl0; cases hpl0
    have x2 : ExN [b, lf, cd] H1 (upd H1 lf (.lst (L.map V.str))) := ExN.upd (by simp)
    have gl2 : upd H1 lf (.lst (L.map V.str)) pl = some (.lst ((U.filter fun s => !(ck s).isEmpty).map V.str)) := by rw [upd_ne npl]; exact gl1
    generalize upd H1 lf (.lst (L.map V.str)) = H2 at hM2 x2 gl2
    have X2 : ExN [b, lf, cd] H H2 := (ExN.of E1).trans x2
    have gn := hM2.good n (by simp)
    have hperm : ([n] ++ L).Perm (L ++ [n]) := List.perm_append_comm
    walk_at "ss"
    refine newL fun el H3 hel e3 g3 => ?_
    have hM3 := hM2.up e3
    have gl3 := e3 _ _ gl2
    refine ⟨pl, el, _, rfl, rfl, SqL.of gl3, SqL.of g3, ?_⟩
    have X3 : ExN [b, lf, cd] H H3 := X2.trans (ExN.of e3)
    have npb : pl ≠ b := fun z => by
      obtain ⟨o, ho⟩ := hD.box.some
      rw [z, ho] at hpl0
      cases hpl0
    walk_at "ss"
    refine if_cs (fun c1 => ?_) (fun c1 => ?_)
    · walk_at "ss"
      refine ⟨b, 2, rfl, hM3.box, by decide, by decide, fun d H4 h0 h1 x4 b4 => ?_⟩
      have hM4 := hM3.upB x4 b4
      have X4 : ExN [b, lf, cd] H H4 := X3.trans (ExN.box x4 (by simp))
      walk_at "ss"
      refine if_cs (fun c2 => ?_) (fun c2 => ?_)
      · have gl4 := x4 _ _ npb gl3
        walk_at "ss"
        refine ⟨pl, _, rfl, .inl (SqL.of gl4), ?_⟩
        walk_at "ss"
        have hne : (U.filter fun s => !(ck s).isEmpty) ≠ [] := fun z => by rw [z] at c1; cases c1
        have hfl : (U.filter fun s => !(ck s).isEmpty).length ≤ U.length := List.length_filter_le _ _
        have hf0 : 0 < (U.filter fun s => !(ck s).isEmpty).length := List.length_pos_iff.mpr hne
        refine ⟨b, _, rfl, hM4.box, by rw [List.length_map]; omega, by rw [List.length_map]; omega, fun d5 H5 h50 h51 x5 b5 => ?_⟩
        rw [List.length_map] at h51
        obtain ⟨sm, hat, hsm0⟩ := at_str h50 h51
        have hM5 := hM4.upB x5 b5
        have X5 : ExN [b, lf, cd] H H5 := X4.trans (ExN.box x5 (by simp))
        refine c_ixL (SqL.of (x5 _ _ npb gl4)) hat ?_
        obtain ⟨hsU, hsc⟩ := List.mem_filter.mp hsm0
        have hcne : ck sm ≠ [] := fun z => by rw [z] at hsc; cases hsc
        walk_at "ss"
        obtain ⟨kv4, q, g4, q1, q2⟩ := hM5.get hsU
        have hkl4 := hM5.kvl g4
        refine ⟨cd, _, rfl, by rw [← q1]; exact dgetK g4, ?_⟩
        walk_at "ss"
        refine c_slH q2 fun p H6 e6 g6 => ?_
        rw [cut_init] at g6
        walk_at "ss"
        have hcl := hM5.ckg sm hsU
        refine ⟨cd, _, rfl, .inl ⟨_, .inr n, e6 _ _ g4, rfl, Evl.sz_lt (by omega), rfl⟩, ?_⟩
        have hD7 := (hM5.up e6).put (e6 _ _ g4) g6 (by rw [List.length_dropLast]; omega) (fun z hz => hcl.2 z (List.dropLast_subset _ hz))
        have x7 : ExN [b, lf, cd] H6 (upd H6 cd (.dK (putK kv4 (.inr n) (.ref p)))) := ExN.upd (by simp)
        generalize upd H6 cd (.dK (putK kv4 (.inr n) (.ref p))) = H7 at hD7 x7
        have X7 : ExN [b, lf, cd] H H7 := (X5.trans (ExN.of e6)).trans x7
        walk_at "ss"
        refine ⟨b, rfl, hD7.box, fun v H8 hv x8 b8 => ?_⟩
        have hD8 := hD7.upB x8 b8
        have X8 : ExN [b, lf, cd] H H8 := X7.trans (ExN.box x8 (by simp))
        walk_at "ss"
        refine newT fun rw' H9 hrw e9 g9 => ?_
        walk_at "ss"
        refine newL fun q' H10 hq' e10 g10 => ?_
        have nU := hM4.not
        refine k [n] L _ [.vd 1 n v sm] [.ref rw'] q' H10 (by simp) hperm (hD8.up (e9.trans e10)) (fun s hs => setC_old (fun z => nU (by rw [← z]; exact hs))) (List.Perm.refl _) (fun r hr => ?_) ?_ g10 (.cons ⟨rw', rfl, e10 _ _ g9⟩ .nil) (X8.trans (ExN.of (e9.trans e10)))
        · have : r = .vd 1 n v sm := by simpa using hr
          subst this
          have nb : sm ≠ n := fun z => nU (by rw [← z]; exact hsU)
          exact rw_vd (by decide) (by simp) (List.mem_append_left _ hsU) gn (hM4.good sm (List.mem_append_left _ hsU)) hv ⟨by rw [setC_old nb]; exact hcne, by rw [setC_new, setC_old nb]⟩
        · exact freshN X8 hD (fresh_back e9 hq') hD8.three
      · skip
        obtain ⟨kv4, q, g4, q1, q2⟩ := hM4.get hbU
        have hkl4 : kv4.length ≤ 40 := by
          obtain ⟨kv', h1, h2, _⟩ := hM4.cks
          rw [g4] at h1
          cases h1
          have := congrArg List.length h2
          rw [List.length_map, List.length_map] at this
          omega
        walk_at "ss"
        refine ⟨cd, _, rfl, by rw [← q1]; exact dgetK g4, ?_⟩
        walk_at "ss"
        refine newT fun mt H5 hmt e5 g5 => ?_
        have hcl := (hM4.ckg base hbU)
        refine c_catH (e5 _ _ q2) g5 (by rw [List.length_map]; simp only [List.length_singleton]; omega) fun p H6 e6 g6 => ?_
        have e46 := e5.trans e6
        walk_at "ss"
        refine ⟨cd, _, rfl, .inl ⟨_, .inr n, e46 _ _ g4, rfl, Evl.sz_lt (by omega), rfl⟩, ?_⟩
        have hD7 := (hM4.up e46).put (c := ck base ++ [mate]) (p := p) (e46 _ _ g4) (by rw [g6, List.map_append]; rfl) (by rw [List.length_append, List.length_singleton]; omega) (fun z hz => by
          rcases List.mem_append.mp hz with h | h
          · exact hcl.2 z h
          · have : z = mate := by simpa using h
            rw [this]
            exact hmU)
        have x7 : ExN [b, lf, cd] H6 (upd H6 cd (.dK (putK kv4 (.inr n) (.ref p)))) := ExN.upd (by simp)
        generalize upd H6 cd (.dK (putK kv4 (.inr n) (.ref p))) = H7 at hD7 x7
        have X7 : ExN [b, lf, cd] H H7 := (X4.trans (ExN.of e46)).trans x7
        walk_at "ss"
        refine newT fun rw' H8 hrw e8 g8 => ?_
        walk_at "ss"
        refine newL fun q' H9 hq' e9 g9 => ?_
        have nU := hM4.not
        refine k [n] L _ [.wh n base mate] [.ref rw'] q' H9 (by simp) hperm (hD7.up (e8.trans e9)) (fun s hs => setC_old (fun z => nU (by rw [← z]; exact hs))) (List.Perm.refl _) (fun r hr => ?_) ?_ g9 (.cons ⟨rw', rfl, e9 _ _ g8⟩ .nil) (X7.trans (ExN.of (e8.trans e9)))
        · have : r = .wh n base mate := by simpa using hr
          subst this
          have nb : base ≠ n := fun z => nU (by rw [← z]; exact hbU)
          have nm : mate ≠ n := fun z => nU (by rw [← z]; exact hmU)
          exact rw_wh (by simp) (List.mem_append_left _ hbU) (List.mem_append_left _ hmU) gn (hM4.good base (List.mem_append_left _ hbU)) (hM4.good mate (List.mem_append_left _ hmU)) (by rw [setC_old nb, setC_old nm, hcm]) (by rw [setC_new, setC_old nb])
        · exact freshN X7 hD (fresh_back e8 hq') hD7.three
    · refine if_ff rfl ?_
      have hM4 := hM3
      have X4 := X3
      obtain ⟨kv4, q, g4, q1, q2⟩ := hM4.get hbU
      have hkl4 : kv4.length ≤ 40 := by
        obtain ⟨kv', h1, h2, _⟩ := hM4.cks
        rw [g4] at h1
        cases h1
        have := congrArg List.length h2
        rw [List.length_map, List.length_map] at this
        omega
      walk_at "ss"
      refine ⟨cd, _, rfl, by rw [← q1]; exact dgetK g4, ?_⟩
      walk_at "ss"
      refine newT fun mt H5 hmt e5 g5 => ?_
      have hcl := (hM4.ckg base hbU)
      refine c_catH (e5 _ _ q2) g5 (by rw [List.length_map]; simp only [List.length_singleton]; omega) fun p H6 e6 g6 => ?_
      have e46 := e5.trans e6
      walk_at "ss"
      refine ⟨cd, _, rfl, .inl ⟨_, .inr n, e46 _ _ g4, rfl, Evl.sz_lt (by omega), rfl⟩, ?_⟩
      have hD7 := (hM4.up e46).put (c := ck base ++ [mate]) (p := p) (e46 _ _ g4) (by rw [g6, List.map_append]; rfl) (by rw [List.length_append, List.length_singleton]; omega) (fun z hz => by
        rcases List.mem_append.mp hz with h | h
        · exact hcl.2 z h
        · have : z = mate := by simpa using h
          rw [this]
          exact hmU)
      have x7 : ExN [b, lf, cd] H6 (upd H6 cd (.dK (putK kv4 (.inr n) (.ref p)))) := ExN.upd (by simp)
      generalize upd H6 cd (.dK (putK kv4 (.inr n) (.ref p))) = H7 at hD7 x7
      have X7 : ExN [b, lf, cd] H H7 := (X4.trans (ExN.of e46)).trans x7
      walk_at "ss"
      refine newT fun rw' H8 hrw e8 g8 => ?_
      walk_at "ss"
      refine newL fun q' H9 hq' e9 g9 => ?_
      have nU := hM4.not
      refine k [n] L _ [.wh n base mate] [.ref rw'] q' H9 (by simp) hperm (hD7.up (e8.trans e9)) (fun s hs => setC_old (fun z => nU (by rw [← z]; exact hs))) (List.Perm.refl _) (fun r hr => ?_) ?_ g9 (.cons ⟨rw', rfl, e9 _ _ g8⟩ .nil) (X7.trans (ExN.of (e8.trans e9)))
      · have : r = .wh n base mate := by simpa using hr
        subst this
        have nb : base ≠ n := fun z => nU (by rw [← z]; exact hbU)
        have nm : mate ≠ n := fun z => nU (by rw [← z]; exact hmU)
        exact rw_wh (by simp) (List.mem_append_left _ hbU) (List.mem_append_left _ hmU) gn (hM4.good base (List.mem_append_left _ hbU)) (hM4.good mate (List.mem_append_left _ hmU)) (by rw [setC_old nb, setC_old nm, hcm]) (by rw [setC_new, setC_old nb])
      · exact freshN X7 hD (fresh_back e8 hq') hD7.three

/-! ### a ring of rows -/
open TL (tl)
theorem putK_keys {kv : List (Key × V)} {k : Key} {v : V} (h : k ∈ kv.map (·.1)) : (putK kv k v).map (·.1) = kv.map (·.1) := by
  unfold putK
  rw [if_pos, List.map_map]
  · refine List.map_congr_left fun p _ => ?_
    show (if p.1 = k then (p.1, v) else p).1 = p.1
    split <;> rfl
  · obtain ⟨p, hp, he⟩ := List.mem_map.mp h
    exact List.any_eq_true.mpr ⟨p, hp, by simpa using he⟩
theorem CksAt.put {H : Hp} {cd p : Addr} {U : List Str} {ck : Str → List Str} {kv : List (Key × V)} {n : Str} (h : CksAt H cd U ck) (hk : H cd = some (.dK kv)) (hp : H p = some (.tup ((ck n).map V.str))) : CksAt (upd H cd (.dK (putK kv (.inr n) (.ref p)))) cd (if n ∈ U then U else U ++ [n]) ck := by
  obtain ⟨kv', h1, h2, h3⟩ := h
  rw [hk] at h1
  cases h1
  have np : p ≠ cd := ne_of hp hk (fun z => by cases z)
  have hval : ∀ s, (s = n ∨ s ∈ U) → ∃ q, valV (putK kv (.inr n) (.ref p)) (.inr s) = some (.ref q) ∧ upd H cd (.dK (putK kv (.inr n) (.ref p))) q = some (.tup ((ck s).map V.str)) := fun s hs => by
    rw [valV_put]
    by_cases e : s = n
    · subst e
      rw [if_pos rfl]
      exact ⟨p, rfl, by rw [upd_ne np]; exact hp⟩
    · rw [if_neg (fun z => e (Sum.inr.inj z))]
      obtain ⟨q, q1, q2⟩ := h3 s (hs.resolve_left e)
      exact ⟨q, q1, by rw [upd_ne (ne_of q2 hk (fun z => by cases z))]; exact q2⟩
  by_cases hn : n ∈ U
  · rw [if_pos hn]
    exact ⟨_, upd_same, by rw [putK_keys (by rw [h2]; exact List.mem_map.mpr ⟨n, hn, rfl⟩), h2], fun s hs => hval s (.inr hs)⟩
  · rw [if_neg hn]
    refine ⟨_, upd_same, ?_, fun s hs => hval s ((List.mem_append.mp hs).symm.imp (by simp) id)⟩
    rw [putK_fresh (by
      rw [h2]
      intro hm
      obtain ⟨z, hz, he⟩ := List.mem_map.mp hm
      cases Sum.inr.inj he
      exact hn hz), List.map_append, h2, List.map_append]
    rfl
theorem CksAt.ex {H G : Hp} {cd : Addr} {U : List Str} {ck : Str → List Str} {S : List Addr} (h : CksAt H cd U ck) (e : ExN S H G) (hS : ∀ a ∈ S, ∃ xs, H a = some (.lst xs)) : CksAt G cd U ck := by
  obtain ⟨kv, h1, h2, h3⟩ := h
  have nn : ∀ {a : Addr} {o : HO}, H a = some o → (∀ xs, o ≠ .lst xs) → a ∉ S := fun ha no hm => by
    obtain ⟨xs, hx⟩ := hS _ hm
    rw [ha] at hx
    cases hx
    exact no _ rfl
  refine ⟨kv, e _ _ (nn h1 (fun _ z => by cases z)) h1, h2, fun s hs => ?_⟩
  obtain ⟨p, q1, q2⟩ := h3 s hs
  exact ⟨p, q1, e _ _ (nn q2 (fun _ z => by cases z)) q2⟩
theorem CksAt.congr {H : Hp} {cd : Addr} {U : List Str} {ck ck2 : Str → List Str} (h : CksAt H cd U ck) (e : ∀ s ∈ U, ck2 s = ck s) : CksAt H cd U ck2 := by
  obtain ⟨kv, h1, h2, h3⟩ := h
  exact ⟨kv, h1, h2, fun s hs => by rw [e s hs]; exact h3 s hs⟩
theorem freshS {S : List Addr} {H G : Hp} {q : Addr} (X : ExN S H G) (hG : ∀ a ∈ S, ∃ o, G a = some o) (hq : G q = none) : H q = none := by
  cases ho : H q with
  | none => rfl
  | some o =>
    have := X q o (fun z => by
      obtain ⟨o', h'⟩ := hG q z
      rw [hq] at h'
      cases h') ho
    rw [hq] at this
    cases this
theorem at_before {l : List Str} {i : Nat} (h : i < l.length) : ∃ z, atI (l.map V.str) ((i : Int) - 1) = some (.str z) ∧ z ∈ l := by
  cases i with
  | zero =>
    have h1 : l.length - 1 < l.length := by omega
    refine ⟨l[l.length - 1], ?_, List.getElem_mem _⟩
    show atI (l.map V.str) (-1) = _
    rw [at_last (by rw [List.length_map]; exact h), List.length_map, List.getElem?_map, List.getElem?_eq_getElem h1]
    rfl
  | succ j =>
    have hj : j < l.length := by omega
    refine ⟨l[j], ?_, List.getElem_mem _⟩
    rw [show (((j + 1 : Nat) : Int) - 1) = (j : Int) from by omega]
    exact atI_nat (by rw [List.getElem?_map, List.getElem?_eq_getElem hj]; rfl)
theorem pick_rows {G : Hp} {U : List Str} {ck : Str → List Str} : ∀ {S : List Str} {ys : List V}, ys.length = S.length → (∀ (i : Nat) y, ys[i]? = some y → ∃ s t, S[i]? = some s ∧ RwOk U ck (.pl s t) ∧ RowAt G (.pl s t) y) → ∃ rs, Paired (RowAt G) rs ys ∧ rs.flatMap Rw.tells = S ∧ ∀ r ∈ rs, RwOk U ck r
  | [], [], _, _ => ⟨[], .nil, rfl, fun r hr => by cases hr⟩
  | [], _ :: _, h, _ => by cases h
  | _ :: _, [], h, _ => by cases h
  | s :: S, y :: ys, h, hy => by
    obtain ⟨s', t, h1, h2, h3⟩ := hy 0 y rfl
    have : s = s' := by simpa using h1
    subst this
    obtain ⟨rs, q1, q2, q3⟩ := pick_rows (S := S) (ys := ys) (by simpa using h) (fun i y' hi => by
      obtain ⟨s2, t2, a1, a2, a3⟩ := hy (i + 1) y' (by simpa using hi)
      exact ⟨s2, t2, by simpa using a1, a2, a3⟩)
    refine ⟨.pl s t :: rs, .cons h3 q1, by rw [List.flatMap_cons, q2]; rfl, fun r hr => ?_⟩
    rcases List.mem_cons.mp hr with e | e
    · rw [e]; exact h2
    · exact q3 r e
def sp_round_l : Sp := fun vs H Q _ => ∃ (b lf cd rg : Addr) (U L R : List Str) (ck : Str → List Str) (base : Str), vs = [.ref b, .ref lf, .ref cd, .str base, .ref rg] ∧ DrAt H b lf cd U L ck ∧ H rg = some (.lst (R.map V.str)) ∧ rg ≠ lf ∧ R ≠ [] ∧ R.Nodup ∧ (∀ s ∈ R, s ∈ U ∧ ck s = ck base) ∧ base ∈ U ∧ GotR H b lf cd [rg, b, lf, cd] U L R ck Q
theorem ok_round_l (T : Txt K mg Z) : FnOk P w K mg base CX0 4 Z.f_round_l Z.fd_round_l ["_law_box_here", "_law_left", "_law_clocks", "_law_base", "_law_ring"] sp_round_l := by
  have G_take_l := ok_take_l (P := P) (w := w) (base := base) T
  have G_term_l := ok_term_l (P := P) (w := w) (base := base) T
  refine T.F_round_l.ok sc_round_l (fun vs H Q E h => ?_) (fun cdv AA outer s H vs Q E hr h => ?_)
  · obtain ⟨b, lf, cd, rg, U, L, R, ck, base, rfl, _⟩ := h
    rfl
  · obtain ⟨b, lf, cd, rg, U, L, R, ck, base, rfl, hD, hrg, nrl, hR0, hRn, hRU, hbU, k⟩ := h
    have hlen := hD.len
    refine ⟨_, (Evl.pss_cut (ps_for PassesOwn.never rfl (pi_range1 (by rfl) T.n_range (pa_cons (pe_callB (call_min2 rfl) (by rfl) T.n_min (by decide +kernel) (pa_cons (pe_callB call_len_seq (by rfl) T.n_len (by decide +kernel) (pa_cons (pv 1) pa_nil)) (pa_cons (pe_call G_take_l (hr.mono (by omega)) rfl T.g_take_l T.F_take_l.kp T.b_take_l .nil pass0 (pa_cons (pv 0) (pa_cons pe_int pa_nil))) pa_nil))) pa_nil)) (pg_name (i := 5) sc_round_l.nd rfl (Or.inl rfl)) (pss_one (ps_expr (pe_bm PySem.F.plainAttrs_list PySem.F.slot_list_append PySem.F.type_list_append mt_append (pv 4) (pa_cons (pe_bm0 PySem.F.plainAttrs_list PySem.F.slot_list_pop PySem.F.type_list_pop mt_pop (pv 1)) pa_nil)))))
      (Evl.pss_cut (ps_for PassesOwn.never rfl (pi_list (pv 4)) (pg_name (i := 6) sc_round_l.nd rfl (Or.inl rfl)) (pss_one (ps_dput (hu_of hr) (pv 2) (pv 6) (pe_dget (hu_of hr) (pv 2) (pv 3) (fun _ _ => rfl)) rfl)))
      (pss_one (ps_ret (pe_lc (own := [("_law_k", 5)]) (g := (gName 5)) (tt := tYes) (te := (tTup (tCons (tC (.str "plain")) (tCons (tOp (rIxL K) (tVar 4) (tVar 5)) (tCons (tCall sp_term_l [] E0 (tCons (tVar 0) (tCons (tVar 3) (tCons (tOp (rIxL K) (tVar 4) (tOp (rI0 fun i j => .int (i - j)) (tVar 5) (tC (.int 1)))) tNil)))) tNil))))) rfl sc_round_l.nd (pi_range1 (by rfl) T.n_range (pa_cons (pe_callB call_len_seq (by rfl) T.n_len (by decide +kernel) (pa_cons (pv 4) pa_nil)) pa_nil)) (blkOk_by (own := [("_law_k", 5)]) (N := N_round_l) (sc := defScope s_round_l) (by decide +kernel)) (fun _ _ _ _ _ => (pg_name (i := 5) sc_round_l.nd rfl (Or.inl rfl))) (fun _ _ _ _ _ => pts_nil) (fun _ _ _ _ _ => (pe_tup (pa_cons pe_str (pa_cons (pe_ix ix_list (pv 4) (pv 5) (fun _ _ => rfl)) (pa_cons (pe_call G_term_l (hr.mono (by omega)) rfl T.g_term_l T.F_term_l.kp T.b_term_l .nil pass0 (pa_cons (pv 0) (pa_cons (pv 3) (pa_cons (pe_ix ix_list (pv 4) (pe_op op_sub (pv 5) pe_int) (fun _ _ => rfl)) pa_nil)))) pa_nil)))))))))), ?_⟩
    walk_at "ss"
    refine c_cut (M := fun σ' G => (∃ v5 v6, σ' = [some (.ref b), some (.ref lf), some (.ref cd), some (.str base), some (.ref rg), v5, v6]) ∧ ExN [rg, b, lf] H G ∧ BoxAt G b ∧ ∃ L' T, L = L' ++ T.reverse ∧ G lf = some (.lst (L'.map V.str)) ∧ G rg = some (.lst ((R ++ T).map V.str))) ?_ ?_
    · walk_at "ss"
      refine ⟨lf, _, rfl, .inl (SqL.of hD.left), ?_⟩
      walk_at "ss"
      refine ⟨b, 6, rfl, hD.box, by decide, by decide, fun d H1 h0 h1 x1 b1 => ?_⟩
      have hD1 := hD.upB x1 b1
      have nrb : rg ≠ b := left_nb hD.box hrg
      have hrg1 := x1 _ _ nrb hrg
      walk_at "ss"
      obtain ⟨m, hm, hmL⟩ : ∃ m : Nat, (if d < (((L.map V.str).length : Nat) : Int) then d else (((L.map V.str).length : Nat) : Int)) = (m : Int) ∧ m ≤ L.length := by
        rw [List.length_map]
        by_cases c : d < (L.length : Int)
        · rw [if_pos c]
          exact ⟨d.toNat, by omega, by omega⟩
        · rw [if_neg c]
          exact ⟨L.length, rfl, Nat.le_refl _⟩
      refine ⟨_, _, rfl, ?_⟩
      rw [hm]
      have hL40 : L.length ≤ 40 := by rw [List.length_append] at hlen; omega
      walk_at "ss"
      refine ⟨by omega, by omega, ?_⟩
      refine forR (n := m) (fun i σ' G => (∃ v5 v6, σ' = [some (.ref b), some (.ref lf), some (.ref cd), some (.str base), some (.ref rg), v5, v6]) ∧ ExN [rg, b, lf] H G ∧ BoxAt G b ∧ ∃ L' T, T.length = i ∧ L = L' ++ T.reverse ∧ G lf = some (.lst (L'.map V.str)) ∧ G rg = some (.lst ((R ++ T).map V.str))) ⟨⟨_, _, rfl⟩, ExN.box x1 (by simp), b1, L, [], rfl, by simp, hD1.left, by rw [List.append_nil]; exact hrg1⟩ ?_ ?_
      · rintro i σ' G hi ⟨⟨v5, v6, rfl⟩, xG, bG, L', T, hTi, hLT, gl, gr⟩
        have hL' : L' ≠ [] := fun z => by
          have := congrArg List.length hLT
          rw [z, List.nil_append, List.length_reverse] at this
          omega
        obtain ⟨L2, n, rfl⟩ := last_split hL'
        have hRl : (R ++ T).length ≤ 1000 := by
          have h1 := List.Nodup.length_le_of_subset hRn (fun s hs => (hRU s hs).1)
          rw [List.length_append] at hlen ⊢
          omega
        walk_at "ss"
        refine ⟨.inl ⟨rfl, _, SqL.of gr⟩, ?_⟩
        walk_at "ss"
        refine ⟨.inl ⟨rfl, _, SqL.of gl⟩, ?_⟩
        walk_at "ss"
        refine c_pop gl ?_
        have gr' : upd G lf (.lst (L2.map V.str)) rg = some (.lst ((R ++ T).map V.str)) := by rw [upd_ne nrl]; exact gr
        refine ⟨rg, _, _, rfl, rfl, gr', Evl.sz_lt (by rw [List.length_map]; omega), ?_⟩
        walk_at "ss"
        refine ⟨⟨_, _, rfl⟩, (xG.trans (ExN.upd (by simp))).trans (ExN.upd (by simp)), box_put (box_put bG (left_nb bG gl).symm) nrb.symm, L2, T ++ [n], by rw [List.length_append, hTi]; rfl, ?_, ?_, ?_⟩
        · rw [hLT, List.reverse_append, List.append_assoc]
          rfl
        · rw [upd_ne nrl.symm, upd_same]
        · rw [upd_same, ← List.append_assoc, List.map_append (l₁ := R ++ T)]
          rfl
      · rintro σ' G ⟨⟨v5, v6, rfl⟩, xG, bG, L', T, hTi, hLT, gl, gr⟩
        walk_at "ss"
        exact ⟨⟨_, _, rfl⟩, xG, bG, L', T, hLT, gl, gr⟩
    · rintro σ' G1 ⟨⟨v5, v6, rfl⟩, x1, b1, L', T, hLT, gl1, gr1⟩
      have nrb : rg ≠ b := left_nb hD.box hrg
      have hUL := hD.nodup
      have hperm : (T ++ L').Perm L := by rw [hLT]; exact List.perm_append_comm.trans (List.Perm.append_left L' (List.reverse_perm T).symm)
      have pm : (U ++ T ++ L').Perm (U ++ L) := by rw [List.append_assoc]; exact List.Perm.append_left U hperm
      have hnd2 := pm.nodup_iff.mpr hUL
      have hlen2 : (U ++ T ++ L').length ≤ 40 := by rw [pm.length_eq]; exact hlen
      have hgood2 : ∀ s ∈ U ++ T ++ L', goodN s := fun s hs => hD.good s (pm.mem_iff.mp hs)
      have hTU : ∀ s ∈ T, s ∉ U := fun s hs hu => (List.nodup_append.mp (List.nodup_append.mp hnd2).1).2.2 s hu s hs rfl
      have c1 : CksAt G1 cd U ck := hD.cks.ex x1 (fun a ha => by
        rcases List.mem_cons.mp ha with z | z
        · rw [z]; exact ⟨_, hrg⟩
        rcases List.mem_cons.mp z with z | z
        · rw [z]
          obtain ⟨_, _, _, _, q⟩ := hD.box
          exact ⟨_, q⟩
        · have : a = lf := by simpa using z
          rw [this]; exact ⟨_, hD.left⟩)
      generalize hck : (fun s => if s ∈ T then ck base else ck s) = ck2
      have cU : ∀ s ∈ U, ck2 s = ck s := fun s hs => by rw [← hck]; exact if_neg fun z => hTU s z hs
      have cT : ∀ s ∈ T, ck2 s = ck base := fun s hs => by rw [← hck]; exact if_pos hs
      have cb : ck2 base = ck base := cU base hbU
      have cR : ∀ s ∈ R ++ T, ck2 s = ck2 base := fun s hs => by
        rw [cb]
        rcases List.mem_append.mp hs with h | h
        · rw [cU s (hRU s h).1, (hRU s h).2]
        · exact cT s h
      have ncl : cd ≠ lf := hD.ncl
      have ncb : cd ≠ b := hD.ncb
      obtain ⟨kv0, gcd0, _⟩ := hD.cks
      have ncr : cd ≠ rg := ne_of gcd0 hrg (fun z => by cases z)
      walk_at "ss"
      refine c_cut (M := fun σ' G => (∃ v5 v6, σ' = [some (.ref b), some (.ref lf), some (.ref cd), some (.str base), some (.ref rg), v5, v6]) ∧ ExB cd G1 G ∧ CksAt G cd (U ++ T) ck2) ?_ ?_
      · walk_at "ss"
        refine ⟨⟨_, SqL.of gr1⟩, forL (xs := (R ++ T).map V.str) (fun i σ' G => (∃ v5 v6, σ' = [some (.ref b), some (.ref lf), some (.ref cd), some (.str base), some (.ref rg), v5, v6]) ∧ ExB cd G1 G ∧ CksAt G cd (U ++ T.take (i - R.length)) ck2) ⟨⟨_, _, rfl⟩, ExB.refl _ _, by rw [Nat.zero_sub, List.take_zero, List.append_nil]; exact c1.congr cU⟩ (fun i σ' G _ q => SqL.of (q.2.1 _ _ ncr.symm gr1)) ?_ ?_⟩
        · rintro i x σ' G hx ⟨⟨v5, v6, rfl⟩, xG, cG⟩
          rw [List.getElem?_map] at hx
          obtain ⟨s, hs, rfl⟩ := Option.map_eq_some_iff.mp hx
          obtain ⟨kv, gk, hk2, hk3⟩ := id cG
          obtain ⟨p, p1, p2⟩ := hk3 base (List.mem_append_left _ hbU)
          have hkl : kv.length ≤ 40 := by
            have := congrArg List.length hk2
            rw [List.length_map, List.length_map, List.length_append, List.length_take] at this
            rw [List.length_append, List.length_append] at hlen2
            omega
          walk_at "ss"
          refine ⟨cd, _, rfl, by rw [← p1]; exact dgetK gk, ?_⟩
          walk_at "ss"
          refine ⟨cd, _, rfl, .inl ⟨_, .inr s, gk, rfl, Evl.sz_lt (by omega), rfl⟩, ?_⟩
          have hput := cG.put gk (n := s) (p := p) (by rw [cR s (List.mem_of_getElem? hs)]; exact p2)
          walk_at "ss"
          refine ⟨⟨_, _, rfl⟩, xG.trans ExB.upd, ?_⟩
          rcases Nat.lt_or_ge i R.length with hi | hi
          · rw [List.getElem?_append_left hi] at hs
            have hsU := (hRU s (List.mem_of_getElem? hs)).1
            rw [if_pos (List.mem_append_left _ hsU)] at hput
            rw [show i + 1 - R.length = i - R.length from by omega]
            exact hput
          · rw [List.getElem?_append_right hi] at hs
            have hsT := List.mem_of_getElem? hs
            have hni : s ∉ U ++ T.take (i - R.length) := fun z => by
              rcases List.mem_append.mp z with z | z
              · exact hTU s hsT z
              · exact nodup_at (List.nodup_append.mp (List.nodup_append.mp hnd2).1).2.1 hs z (Nat.le_refl _) rfl
            rw [if_neg hni] at hput
            rw [show i + 1 - R.length = (i - R.length) + 1 from by omega, List.take_add_one, hs, ← List.append_assoc]
            exact hput
        · rintro σ' G ⟨⟨v5, v6, rfl⟩, xG, cG⟩
          rw [List.length_map, List.length_append, Nat.add_sub_cancel_left, List.take_length] at cG
          walk_at "ss"
          exact ⟨⟨_, _, rfl⟩, xG, cG⟩
      · rintro σ' G2 ⟨⟨v5', v6', rfl⟩, x2, c2⟩
        have b2 : BoxAt G2 b := by
          obtain ⟨x, y, z, h0, hb⟩ := b1
          exact ⟨x, y, z, h0, x2 _ _ ncb.symm hb⟩
        have gl2 := x2 _ _ ncl.symm gl1
        have gr2 := x2 _ _ ncr.symm gr1
        have hD2 : DrAt G2 b lf cd (U ++ T) L' ck2 := ⟨b2, gl2, c2, hgood2, hnd2, hlen2, fun s hs => by
          rw [List.length_append]
          rcases List.mem_append.mp hs with h | h
          · rw [cU s h]
            exact ⟨Nat.le_add_right_of_le (hD.ckg s h).1, fun z hz => List.mem_append_left _ ((hD.ckg s h).2 z hz)⟩
          · rw [cT s h]
            exact ⟨Nat.le_add_right_of_le (hD.ckg base hbU).1, fun z hz => List.mem_append_left _ ((hD.ckg base hbU).2 z hz)⟩⟩
        walk_at "ss"
        have hRT : (R ++ T).length ≤ 1000 := by
          have h1 := List.Nodup.length_le_of_subset hRn (fun s hs => (hRU s hs).1)
          rw [List.length_append, List.length_append] at hlen2
          rw [List.length_append]
          omega
        have hRT0 : 0 < (R ++ T).length := by
          have := List.length_pos_iff.mpr hR0
          rw [List.length_append]
          omega
        have hRTU : ∀ s ∈ R ++ T, s ∈ U ++ T := fun s hs => (List.mem_append.mp hs).elim (fun h => List.mem_append_left _ (hRU s h).1) fun h => List.mem_append_right _ h
        have gU : ∀ s ∈ U ++ T, goodN s := fun s hs => hgood2 s (List.mem_append_left _ hs)
        have hbU2 : base ∈ U ++ T := List.mem_append_left _ hbU
        refine ⟨rg, _, rfl, .inl (SqL.of gr2), ?_⟩
        walk_at "ss"
        rw [List.length_map]
        refine ⟨by omega, by omega, ?_⟩
        have nrb2 : rg ≠ b := nrb
        refine lcRN (b := b) (n := (R ++ T).length) (fun i y G => ∃ s t, (R ++ T)[i]? = some s ∧ RwOk (U ++ T) ck2 (.pl s t) ∧ RowAt G (.pl s t) y) (fun i y G G' hn ⟨s, t, h1, h2, h3⟩ => ⟨s, t, h1, h2, h3.nl hn⟩) hRT b2 (fun i hi G3 b3 x3 R' N hY => ?_) (fun ys q G3 hyl hys hq x3 b3 g3 => ?_)
        · have gr3 := x3 _ _ nrb gr2
          have hsi := List.getElem?_eq_getElem hi
          generalize (R ++ T)[i] = s at hsi
          have hsm := List.mem_of_getElem? hsi
          obtain ⟨z, hz, hzm⟩ := at_before (l := R ++ T) hi
          walk_at "ss"
          refine c_ixL (SqL.of gr3) (atI_nat (by rw [List.getElem?_map, hsi]; rfl)) ?_
          walk_at "ss"
          refine c_ixL (SqL.of gr3) hz ?_
          walk_at "ss"
          refine ⟨b, base, z, rfl, b3, gU base hbU2, gU z (hRTU z hzm), fun t u G4 ht hu x4 b4 => ?_⟩
          walk_at "ss"
          refine newT fun rw' G5 hrw e5 g5 => ?_
          exact hY _ _ (x4.trans (ExB.of e5)) (b4.up e5) ⟨s, t, hsi, rw_pl ht (hRTU s hsm) hbU2 (hRTU z hzm) (gU s (hRTU s hsm)) (cR s hsm).symm (by rw [cR z hzm, cR s hsm]), rw', u, rfl, g5, hu.up e5⟩
        · obtain ⟨rs, hrs1, hrs2, hrs3⟩ := pick_rows hyl hys
          have X2 : ExN [rg, b, lf, cd] H G2 := (x1.sub (by simp)).trans (ExN.box x2 (by simp))
          refine k T L' ck2 rs ys q G3 (fun z => hR0 (List.append_eq_nil_iff.mp z).1) hperm (hD2.upB x3 b3) cU (by rw [hrs2]) hrs3 ?_ g3 hrs1 (X2.trans (ExN.box x3 (by simp)))
          refine freshS X2 (fun a ha => ?_) hq
          obtain ⟨o1, o2, o3, q1, q2, q3⟩ := hD2.three
          rcases List.mem_cons.mp ha with z | z
          · rw [z]; exact ⟨_, gr2⟩
          rcases List.mem_cons.mp z with z | z
          · rw [z]; exact ⟨_, q1⟩
          rcases List.mem_cons.mp z with z | z
          · rw [z]; exact ⟨_, q2⟩
          · have : a = cd := by simpa using z
            rw [this]; exact ⟨_, q3⟩

/-! ### rows that go back to one another -/
open TL (tl)
/-- the state with names P that are taken and not yet in the dict -/
structure DrQ (H : Hp) (b lf cd : Addr) (U P L : List Str) (ck : Str → List Str) : Prop where
  box : BoxAt H b
  left : H lf = some (.lst (L.map V.str))
  cks : CksAt H cd U ck
  good : ∀ s ∈ U ++ P ++ L, goodN s
  nodup : (U ++ P ++ L).Nodup
  len : (U ++ P ++ L).length ≤ 40
  ckg : ∀ s ∈ U, (ck s).length ≤ U.length ∧ ∀ z ∈ ck s, z ∈ U
section
variable {H G : Hp} {b lf cd : Addr} {U P L : List Str} {ck : Str → List Str} {n : Str}
theorem DrAt.q (h : DrAt H b lf cd U L ck) : DrQ H b lf cd U [] L ck := ⟨h.box, h.left, h.cks, by rw [List.append_nil]; exact h.good, by rw [List.append_nil]; exact h.nodup, by rw [List.append_nil]; exact h.len, h.ckg⟩
theorem DrQ.dr (h : DrQ H b lf cd U [] L ck) : DrAt H b lf cd U L ck := by
  obtain ⟨h1, h2, h3, h4, h5, h6, h7⟩ := h
  rw [List.append_nil] at h4 h5 h6
  exact ⟨h1, h2, h3, h4, h5, h6, h7⟩
theorem DrQ.nlb (h : DrQ H b lf cd U P L ck) : lf ≠ b := left_nb h.box h.left
theorem DrQ.ncb (h : DrQ H b lf cd U P L ck) : cd ≠ b := let ⟨_, g, _⟩ := h.cks; box_ne h.box g (fun _ _ _ z => by cases z)
theorem DrQ.ncl (h : DrQ H b lf cd U P L ck) : cd ≠ lf := let ⟨_, g, _⟩ := h.cks; ne_of g h.left (fun z => by cases z)
theorem DrQ.up (h : DrQ H b lf cd U P L ck) (e : Ex H G) : DrQ G b lf cd U P L ck := by
  obtain ⟨h1, h2, ⟨kv, h3, h3', h3''⟩, h4, h5, h6, h7⟩ := h
  refine ⟨h1.up e, e _ _ h2, ⟨kv, e _ _ h3, h3', fun s hs => ?_⟩, h4, h5, h6, h7⟩
  obtain ⟨p, q1, q2⟩ := h3'' s hs
  exact ⟨p, q1, e _ _ q2⟩
theorem DrQ.upB (h : DrQ H b lf cd U P L ck) (e : ExB b H G) (hb : BoxAt G b) : DrQ G b lf cd U P L ck := by
  have n1 := h.nlb
  have n2 := h.ncb
  obtain ⟨h1, h2, ⟨kv, h3, h3', h3''⟩, h4, h5, h6, h7⟩ := h
  refine ⟨hb, e _ _ n1 h2, ⟨kv, e _ _ n2 h3, h3', fun s hs => ?_⟩, h4, h5, h6, h7⟩
  obtain ⟨p, q1, q2⟩ := h3'' s hs
  exact ⟨p, q1, e _ _ (box_ne h1 q2 (fun _ _ _ z => by cases z)) q2⟩
theorem DrQ.get (h : DrQ H b lf cd U P L ck) {s : Str} (hs : s ∈ U) : ∃ kv p, H cd = some (.dK kv) ∧ kv.length ≤ 40 ∧ valV kv (.inr s) = some (.ref p) ∧ H p = some (.tup ((ck s).map V.str)) := by
  obtain ⟨kv, h1, h2, h3⟩ := h.cks
  obtain ⟨p, h4, h5⟩ := h3 s hs
  have h6 := congrArg List.length h2
  have h7 := h.len
  rw [List.length_map, List.length_map] at h6
  rw [List.length_append, List.length_append] at h7
  exact ⟨kv, p, h1, by omega, h4, h5⟩
theorem DrQ.pop (h : DrQ H b lf cd U P (L ++ [n]) ck) : DrQ (upd H lf (.lst (L.map V.str))) b lf cd U (P ++ [n]) L ck := by
  have n1 := h.nlb
  have n2 := h.ncl
  obtain ⟨h1, h2, ⟨kv, h3, h3', h3''⟩, h4, h5, h6, h7⟩ := h
  have pm : (U ++ (P ++ [n]) ++ L).Perm (U ++ P ++ (L ++ [n])) := by
    rw [← List.append_assoc, List.append_assoc (U ++ P)]
    exact List.Perm.append_left _ List.perm_append_comm
  refine ⟨box_put h1 n1.symm, upd_same, ⟨kv, by rw [upd_ne n2]; exact h3, h3', fun s hs => ?_⟩, fun s hs => h4 s (pm.mem_iff.mp hs), pm.nodup_iff.mpr h5, by rw [pm.length_eq]; exact h6, h7⟩
  obtain ⟨p, q1, q2⟩ := h3'' s hs
  exact ⟨p, q1, by rw [upd_ne (ne_of q2 h2 (fun z => by cases z))]; exact q2⟩
theorem DrQ.not (h : DrQ H b lf cd U (n :: P) L ck) : n ∉ U := fun hn => (List.nodup_append.mp (List.nodup_append.mp h.nodup).1).2.2 n hn n (by simp) rfl
theorem DrQ.put (h : DrQ H b lf cd U (n :: P) L ck) {kv : List (Key × V)} {p : Addr} {c : List Str} (hk : H cd = some (.dK kv)) (hp : H p = some (.tup (c.map V.str))) (hc : c.length ≤ U.length + 1) (hcU : ∀ z ∈ c, z ∈ U) : DrQ (upd H cd (.dK (putK kv (.inr n) (.ref p)))) b lf cd (U ++ [n]) P L (setC ck n c) := by
  have n1 := h.ncl
  have n2 := h.ncb
  have hn := h.not
  obtain ⟨h1, h2, h3, h4, h5, h6, h7⟩ := h
  have e : U ++ [n] ++ P ++ L = U ++ (n :: P) ++ L := by simp
  have hput := (h3.congr (ck2 := setC ck n c) fun s hs => setC_old fun z => hn (by rw [← z]; exact hs)).put (n := n) (p := p) hk (by rw [setC_new]; exact hp)
  rw [if_neg hn] at hput
  refine ⟨box_put h1 n2.symm, by rw [upd_ne n1.symm]; exact h2, hput, by rw [e]; exact h4, by rw [e]; exact h5, by rw [e]; exact h6, fun s hs => ?_⟩
  unfold setC
  rw [List.length_append, List.length_singleton]
  by_cases e : s = n
  · rw [if_pos e]
    exact ⟨hc, fun z hz => List.mem_append_left _ (hcU z hz)⟩
  · rw [if_neg e]
    have hsU : s ∈ U := by simpa [e] using hs
    exact ⟨Nat.le_succ_of_le (h7 s hsU).1, fun z hz => List.mem_append_left _ ((h7 s hsU).2 z hz)⟩
end
def sp_back_l : Sp := fun vs H Q _ => ∃ (b lf cd : Addr) (U L : List Str) (ck : Str → List Str) (base : Str) (lp : Int), vs = [.ref b, .ref lf, .ref cd, .str base, .int lp] ∧ DrAt H b lf cd U L ck ∧ base ∈ U ∧ 2 ≤ L.length ∧ GotR H b lf cd [b, lf, cd] U L [] ck Q
theorem ok_back_l (T : Txt K mg Z) : FnOk P w K mg base CX0 5 Z.f_back_l Z.fd_back_l ["_law_box_here", "_law_left", "_law_clocks", "_law_base", "_law_loops"] sp_back_l := by
  have G_take_l := ok_take_l (P := P) (w := w) (base := base) T
  have G_value_l := ok_value_l (P := P) (w := w) (base := base) T
  have G_term_l := ok_term_l (P := P) (w := w) (base := base) T
  have G_round_l := ok_round_l (P := P) (w := w) (base := base) T
  refine T.F_back_l.ok sc_back_l (fun vs H Q E h => ?_) (fun cdv AA outer s H vs Q E hr h => ?_)
  · obtain ⟨b, lf, cd, U, L, ck, base, lp, rfl, _⟩ := h
    rfl
  · obtain ⟨b, lf, cd, U, L0, ck, base, lp, rfl, hD, hbU, hL, k⟩ := h
    obtain ⟨L1, one, rfl⟩ := last_split (l := L0) (fun z => by rw [z] at hL; cases hL)
    obtain ⟨L, oth, rfl⟩ := last_split (l := L1) (fun z => by rw [z] at hL; simp at hL)
    have hlen := hD.len
    refine ⟨_, (pss_cons (ps_set (i := 5) sc_back_l.nd rfl (Or.inl rfl) (pe_bm0 PySem.F.plainAttrs_list PySem.F.slot_list_pop PySem.F.type_list_pop mt_pop (pv 1)))
      (pss_cons (ps_set (i := 6) sc_back_l.nd rfl (Or.inl rfl) (pe_bm0 PySem.F.plainAttrs_list PySem.F.slot_list_pop PySem.F.type_list_pop mt_pop (pv 1)))
      (pss_cons (ps_dput (hu_of hr) (pv 2) (pv 5) (pe_dget (hu_of hr) (pv 2) (pv 3) (fun _ _ => rfl)) rfl)
      (pss_cons (ps_dput (hu_of hr) (pv 2) (pv 6) (pe_dget (hu_of hr) (pv 2) (pv 3) (fun _ _ => rfl)) rfl)
      (pss_cons (ps_if (pt_cmpR op_eq (pv 4) pe_int (nomark _)) (pss_one (ps_ret (pe_lst (pa_cons (pe_tup (pa_cons pe_str (pa_cons (pv 5) (pa_cons (pe_call G_value_l (hr.mono (by omega)) rfl T.g_value_l T.F_value_l.kp T.b_value_l .nil pass0 (pa_cons (pv 0) pa_nil)) (pa_cons (pv 6) pa_nil))))) (pa_cons (pe_tup (pa_cons pe_str (pa_cons (pv 6) (pa_cons (pe_call G_term_l (hr.mono (by omega)) rfl T.g_term_l T.F_term_l.kp T.b_term_l .nil pass0 (pa_cons (pv 0) (pa_cons (pv 3) (pa_cons (pv 5) pa_nil)))) pa_nil)))) pa_nil))))) pss_nil)
      (pss_cons (ps_if (PW.pt (pw_and (pt_cmpR op_eq (pv 4) pe_int (nomark _)) (pw_and1 (pt_cmpR op_eq (pe_call G_take_l (hr.mono (by omega)) rfl T.g_take_l T.F_take_l.kp T.b_take_l .nil pass0 (pa_cons (pv 0) (pa_cons pe_int pa_nil))) pe_int (nomark _))))) (pss_one (ps_ret (pe_call G_round_l (hr.mono (by omega)) rfl T.g_round_l T.F_round_l.kp T.b_round_l .nil pass0 (pa_cons (pv 0) (pa_cons (pv 1) (pa_cons (pv 2) (pa_cons (pv 3) (pa_cons (pe_lst (pa_cons (pv 5) (pa_cons (pv 6) pa_nil))) pa_nil)))))))) pss_nil)
      (pss_cons (ps_if (PW.pt (pw_or (pt_cmpR op_eq (pv 4) pe_int (nomark _)) (pw_or1 (pt_cmpR (op_eqD hr.units) (pv 1) (pe_lst pa_nil) (nomark _))))) (pss_one (ps_ret (pe_lst (pa_cons (pe_tup (pa_cons pe_str (pa_cons (pv 5) (pa_cons (pe_call G_term_l (hr.mono (by omega)) rfl T.g_term_l T.F_term_l.kp T.b_term_l .nil pass0 (pa_cons (pv 0) (pa_cons (pv 3) (pa_cons (pv 6) pa_nil)))) pa_nil)))) (pa_cons (pe_tup (pa_cons pe_str (pa_cons (pv 6) (pa_cons (pe_call G_term_l (hr.mono (by omega)) rfl T.g_term_l T.F_term_l.kp T.b_term_l .nil pass0 (pa_cons (pv 0) (pa_cons (pv 5) (pa_cons (pv 3) pa_nil)))) pa_nil)))) pa_nil))))) pss_nil)
      (pss_cons (ps_set (i := 7) sc_back_l.nd rfl (Or.inl rfl) (pe_bm0 PySem.F.plainAttrs_list PySem.F.slot_list_pop PySem.F.type_list_pop mt_pop (pv 1)))
      (pss_cons (ps_dput (hu_of hr) (pv 2) (pv 7) (pe_op op_catA (pe_dget (hu_of hr) (pv 2) (pv 3) (fun _ _ => rfl)) (pe_tup (pa_cons (pv 6) pa_nil))) rfl)
      (pss_cons (ps_set (i := 8) sc_back_l.nd rfl (Or.inl rfl) (pe_lst (pa_cons (pe_tup (pa_cons pe_str (pa_cons (pv 7) (pa_cons (pv 3) (pa_cons (pv 6) pa_nil))))) (pa_cons (pe_tup (pa_cons pe_str (pa_cons (pv 5) (pa_cons (pe_call G_value_l (hr.mono (by omega)) rfl T.g_value_l T.F_value_l.kp T.b_value_l .nil pass0 (pa_cons (pv 0) pa_nil)) (pa_cons (pv 7) pa_nil))))) pa_nil))))
      (pss_one (ps_ret (pe_op op_cat (pv 8) (pe_lst (pa_cons (pe_tup (pa_cons pe_str (pa_cons (pv 6) (pa_cons (pe_call G_term_l (hr.mono (by omega)) rfl T.g_term_l T.F_term_l.kp T.b_term_l .nil pass0 (pa_cons (pv 0) (pa_cons (pv 5) (pa_cons (pv 3) pa_nil)))) pa_nil)))) pa_nil))))))))))))))), ?_⟩
    walk_at "ss"
    refine ⟨.inl ⟨rfl, _, SqL.of hD.left⟩, ?_⟩
    walk_at "ss"
    refine c_pop hD.left ?_
    have hQ1 := hD.q.pop
    have x1 : ExN [b, lf, cd] H (upd H lf (.lst ((L ++ [oth]).map V.str))) := ExN.upd (by simp)
    generalize upd H lf (.lst ((L ++ [oth]).map V.str)) = H1 at hQ1 x1
    walk_at "ss"
    refine ⟨.inl ⟨rfl, _, SqL.of hQ1.left⟩, ?_⟩
    walk_at "ss"
    refine c_pop hQ1.left ?_
    have hQ2 : DrQ _ b lf cd U (one :: [oth]) L ck := hQ1.pop
    have x2 : ExN [b, lf, cd] H (upd H1 lf (.lst (L.map V.str))) := x1.trans (ExN.upd (by simp))
    generalize upd H1 lf (.lst (L.map V.str)) = H2 at hQ2 x2
    walk_at "ss"
    obtain ⟨kv, q, g2, hkl, q1, q2⟩ := hQ2.get hbU
    refine ⟨cd, _, rfl, by rw [← q1]; exact dgetK g2, ?_⟩
    walk_at "ss"
    refine ⟨cd, _, rfl, .inl ⟨_, .inr one, g2, rfl, Evl.sz_lt (by omega), rfl⟩, ?_⟩
    have nU1 := hQ2.not
    have hQ3 := hQ2.put g2 q2 (Nat.le_succ_of_le (hQ2.ckg base hbU).1) (hQ2.ckg base hbU).2
    have x3 : ExN [b, lf, cd] H (upd H2 cd (.dK (putK kv (.inr one) (.ref q)))) := x2.trans (ExN.upd (by simp))
    generalize upd H2 cd (.dK (putK kv (.inr one) (.ref q))) = H3 at hQ3 x3
    have hbU1 : base ∈ U ++ [one] := List.mem_append_left _ hbU
    walk_at "ss"
    obtain ⟨kv3, p, g3, hkl3, p1, p2⟩ := hQ3.get hbU1
    refine ⟨cd, _, rfl, by rw [← p1]; exact dgetK g3, ?_⟩
    walk_at "ss"
    refine ⟨cd, _, rfl, .inl ⟨_, .inr oth, g3, rfl, Evl.sz_lt (by omega), rfl⟩, ?_⟩
    have nU2 := hQ3.not
    have hQ4 := hQ3.put g3 p2 (Nat.le_succ_of_le (hQ3.ckg base hbU1).1) (hQ3.ckg base hbU1).2
    have x4 : ExN [b, lf, cd] H (upd H3 cd (.dK (putK kv3 (.inr oth) (.ref p)))) := x3.trans (ExN.upd (by simp))
    generalize upd H3 cd (.dK (putK kv3 (.inr oth) (.ref p))) = H4 at hQ4 x4
    have hD4 := hQ4.dr
    generalize hck : setC (setC ck one (ck base)) oth (setC ck one (ck base) base) = ck2 at hD4
    have n1b : base ≠ one := fun z => nU1 (by rw [← z]; exact hbU)
    have n2b : base ≠ oth := fun z => nU2 (by rw [← z]; exact hbU1)
    have n12 : one ≠ oth := fun z => nU2 (by rw [← z]; simp)
    have cU : ∀ s ∈ U, ck2 s = ck s := fun s hs => by
      rw [← hck, setC_old (fun z => nU2 (by rw [← z]; exact List.mem_append_left _ hs)), setC_old (fun z => nU1 (by rw [← z]; exact hs))]
    have cb : ck2 base = ck base := cU base hbU
    have c1 : ck2 one = ck base := by rw [← hck, setC_old n12, setC_new]
    have c2 : ck2 oth = ck base := by rw [← hck, setC_new, setC_old n1b]
    clear hck hQ4 hQ3 hQ2 hQ1
    have eU : U ++ [one] ++ [oth] = U ++ [one, oth] := by simp
    rw [eU] at hD4
    have hperm : ([one, oth] ++ L).Perm (L ++ [oth] ++ [one]) := by
      rw [List.append_assoc]
      exact (List.Perm.append_right L (List.Perm.swap oth one [])).trans List.perm_append_comm
    have m1 : one ∈ U ++ [one, oth] := by simp
    have m2 : oth ∈ U ++ [one, oth] := by simp
    have mb : base ∈ U ++ [one, oth] := List.mem_append_left _ hbU
    have gd : ∀ s ∈ U ++ [one, oth], goodN s := fun s hs => hD4.good s (List.mem_append_left _ hs)
    walk_at "ss"
    refine if_cs (fun e0 => ?_) (fun e0 => ?_)
    · walk_at "ss"
      refine ⟨b, rfl, hD4.box, fun v H5 hv x5 b5 => ?_⟩
      have hD5 := hD4.upB x5 b5
      walk_at "ss"
      refine newT fun r1 H6 hr1 e6 g6 => ?_
      have hD6 := hD5.up e6
      walk_at "ss"
      refine ⟨b, base, one, rfl, hD6.box, gd base mb, gd one m1, fun t u H7 ht hu x7 b7 => ?_⟩
      have hD7 := hD6.upB x7 b7
      have g67 := x7 _ _ (box_ne hD6.box g6 (fun _ _ _ z => by cases z)) g6
      walk_at "ss"
      refine newT fun r2 H8 hr2 e8 g8 => ?_
      walk_at "ss"
      refine newL fun ql H9 hql e9 g9 => ?_
      have e79 := e8.trans e9
      have X : ExN [b, lf, cd] H H7 := x4.trans ((ExN.box x5 (by simp)).trans ((ExN.of e6).trans (ExN.box x7 (by simp))))
      refine k [one, oth] L ck2 [.vd 0 one v oth, .pl oth t] _ ql H9 (by simp) hperm (hD7.up e79) cU (List.Perm.refl _) (fun r hr => ?_) (freshN X hD (fresh_back e8 hql) hD7.three) g9 (.cons ⟨r1, rfl, e79 _ _ g67⟩ (.cons ⟨r2, u, rfl, e9 _ _ g8, hu.up e79⟩ .nil)) (X.trans (ExN.of e79))
      rcases List.mem_cons.mp hr with e | e
      · rw [e]
        exact rw_vd (by decide) m1 m2 (gd _ m1) (gd _ m2) hv (by show ck2 one = ck2 oth; rw [c1, c2])
      · have : r = .pl oth t := by simpa using e
        rw [this]
        exact rw_pl ht m2 mb m1 (gd _ m2) (by rw [cb, c2]) (by rw [c1, c2])
    walk_at "ss"
    refine if_cs (fun e1 => ?_) (fun e1 => ?_)
    · walk_at "ss"
      refine ⟨b, 2, rfl, hD4.box, by decide, by decide, fun d H5 h0 h1 x5 b5 => ?_⟩
      have hD5 := hD4.upB x5 b5
      have X5 : ExN [b, lf, cd] H H5 := x4.trans (ExN.box x5 (by simp))
      walk_at "ss"
      refine if_cs (fun e2 => ?_) (fun e2 => ?_)
      · walk_at "ss"
        refine newL fun rg H6 hrg e6 g6 => ?_
        have hD6 := hD5.up e6
        have nrl : rg ≠ lf := (ne_of_none hD5.left hrg).symm
        have hrg0 : H rg = none := freshN X5 hD hrg hD5.three
        walk_at "ss"
        refine ⟨b, lf, cd, rg, U ++ [one, oth], L, [one, oth], ck2, base, rfl, hD6, g6, nrl, by simp, by simp [n12], fun s hs => ?_, mb, ?_⟩
        · have : s = one ∨ s = oth := by simpa using hs
          rcases this with h | h
          · rw [h]; exact ⟨m1, by rw [c1, cb]⟩
          · rw [h]; exact ⟨m2, by rw [c2, cb]⟩
        · intro T L2 ck3 rs us q H7 _ hp7 hD7 hck3 hrs hok hq g7 hpr x7
          have X6 : ExN [rg, b, lf, cd] H H7 := ((X5.trans (ExN.of e6)).sub (by simp)).trans x7
          refine k ([one, oth] ++ T) L2 ck3 rs us q H7 (by simp) ?_ (by rw [← List.append_assoc]; exact hD7) (fun s hs => by rw [hck3 s (List.mem_append_left _ hs), cU s hs]) (by rw [List.nil_append]; exact hrs) (by rw [← List.append_assoc]; exact hok) (freshN X5 hD (fresh_back e6 hq) hD5.three) g7 hpr (X6.less hrg0)
          rw [List.append_assoc]
          exact (List.Perm.append_left _ hp7).trans hperm
      · walk_at "ss"
        refine if_tt e1 ?_
        walk_at "ss"
        refine ⟨b, base, oth, rfl, hD5.box, gd base mb, gd oth m2, fun t u H6 ht hu x6 b6 => ?_⟩
        have hD6 := hD5.upB x6 b6
        walk_at "ss"
        refine newT fun r1 H7 hr1 e7 g7 => ?_
        have hD7 := hD6.up e7
        walk_at "ss"
        refine ⟨b, one, base, rfl, hD7.box, gd one m1, gd base mb, fun t2 u2 H8 ht2 hu2 x8 b8 => ?_⟩
        have hD8 := hD7.upB x8 b8
        have hu8 : ToldAt H8 t u := (hu.up e7).upB x8 hD7.box
        have g78 := x8 _ _ (box_ne hD7.box g7 (fun _ _ _ z => by cases z)) g7
        walk_at "ss"
        refine newT fun r2 H9 hr2 e9 g9 => ?_
        walk_at "ss"
        refine newL fun ql H10 hql e10 g10 => ?_
        have e810 := e9.trans e10
        have X : ExN [b, lf, cd] H H8 := X5.trans ((ExN.box x6 (by simp)).trans ((ExN.of e7).trans (ExN.box x8 (by simp))))
        refine k [one, oth] L ck2 [.pl one t, .pl oth t2] _ ql H10 (by simp) hperm (hD8.up e810) cU (List.Perm.refl _) (fun r hr => ?_) (freshN X hD (fresh_back e9 hql) hD8.three) g10 (.cons ⟨r1, u, rfl, e810 _ _ g78, hu8.up e810⟩ (.cons ⟨r2, u2, rfl, e10 _ _ g9, hu2.up e810⟩ .nil)) (X.trans (ExN.of e810))
        rcases List.mem_cons.mp hr with e | e
        · rw [e]
          exact rw_pl ht m1 mb m2 (gd _ m1) (by rw [cb, c1]) (by rw [c2, c1])
        · have : r = .pl oth t2 := by simpa using e
          rw [this]
          exact rw_pl ht2 m2 m1 mb (gd _ m2) (by rw [c1, c2]) (by rw [cb, c2])
    · refine if_ff rfl ?_
      walk_at "ss"
      refine if_ff e1 ?_
      walk_at "ss"
      refine newL fun el H5 hel e5 g5 => ?_
      have hD5 := hD4.up e5
      have X5 : ExN [b, lf, cd] H H5 := x4.trans (ExN.of e5)
      refine c_eqLs (SqL.of hD5.left) (SqL.of g5) (str_ok fun s hs => hD5.good s (List.mem_append_right _ hs)) rfl ?_
      rw [eqL_nil]
      walk_at "ss"
      refine if_cs (fun e2 => ?_) (fun e2 => ?_)
      · skip
        walk_at "ss"
        refine ⟨b, base, oth, rfl, hD5.box, gd base mb, gd oth m2, fun t u H6 ht hu x6 b6 => ?_⟩
        have hD6 := hD5.upB x6 b6
        walk_at "ss"
        refine newT fun r1 H7 hr1 e7 g7 => ?_
        have hD7 := hD6.up e7
        walk_at "ss"
        refine ⟨b, one, base, rfl, hD7.box, gd one m1, gd base mb, fun t2 u2 H8 ht2 hu2 x8 b8 => ?_⟩
        have hD8 := hD7.upB x8 b8
        have hu8 : ToldAt H8 t u := (hu.up e7).upB x8 hD7.box
        have g78 := x8 _ _ (box_ne hD7.box g7 (fun _ _ _ z => by cases z)) g7
        walk_at "ss"
        refine newT fun r2 H9 hr2 e9 g9 => ?_
        walk_at "ss"
        refine newL fun ql H10 hql e10 g10 => ?_
        have e810 := e9.trans e10
        have X : ExN [b, lf, cd] H H8 := X5.trans ((ExN.box x6 (by simp)).trans ((ExN.of e7).trans (ExN.box x8 (by simp))))
        refine k [one, oth] L ck2 [.pl one t, .pl oth t2] _ ql H10 (by simp) hperm (hD8.up e810) cU (List.Perm.refl _) (fun r hr => ?_) (freshN X hD (fresh_back e9 hql) hD8.three) g10 (.cons ⟨r1, u, rfl, e810 _ _ g78, hu8.up e810⟩ (.cons ⟨r2, u2, rfl, e10 _ _ g9, hu2.up e810⟩ .nil)) (X.trans (ExN.of e810))
        rcases List.mem_cons.mp hr with e | e
        · rw [e]
          exact rw_pl ht m1 mb m2 (gd _ m1) (by rw [cb, c1]) (by rw [c2, c1])
        · have : r = .pl oth t2 := by simpa using e
          rw [this]
          exact rw_pl ht2 m2 m1 mb (gd _ m2) (by rw [c1, c2]) (by rw [cb, c2])
      · have hLne : L ≠ [] := fun z => by rw [z] at e2; cases e2
        obtain ⟨L2, low, rfl⟩ := last_split hLne
        walk_at "ss"
        refine ⟨.inl ⟨rfl, _, SqL.of hD5.left⟩, ?_⟩
        walk_at "ss"
        refine c_pop hD5.left ?_
        have hQ6 : DrQ _ b lf cd (U ++ [one, oth]) (low :: []) L2 ck2 := hD5.q.pop
        have x6 : ExN [b, lf, cd] H (upd H5 lf (.lst (L2.map V.str))) := X5.trans (ExN.upd (by simp))
        generalize upd H5 lf (.lst (L2.map V.str)) = H6 at hQ6 x6
        walk_at "ss"
        obtain ⟨kv6, p6, g6, hkl6, p61, p62⟩ := hQ6.get mb
        refine ⟨cd, _, rfl, by rw [← p61]; exact dgetK g6, ?_⟩
        walk_at "ss"
        refine newT fun mt H7 hmt e7 g7 => ?_
        have hcl := hQ6.ckg base mb
        have hl40 : (U ++ [one, oth]).length ≤ 40 := by have := hQ6.len; rw [List.length_append, List.length_append] at this; omega
        refine c_catH (e7 _ _ p62) g7 (by rw [List.length_map]; simp only [List.length_singleton]; omega) fun p H8 e8 g8 => ?_
        have e68 := e7.trans e8
        walk_at "ss"
        refine ⟨cd, _, rfl, .inl ⟨_, .inr low, e68 _ _ g6, rfl, Evl.sz_lt (by omega), rfl⟩, ?_⟩
        have nU3 := hQ6.not
        have hQ9 := (hQ6.up e68).put (c := ck2 base ++ [oth]) (p := p) (e68 _ _ g6) (by rw [g8, List.map_append]; rfl) (by rw [List.length_append, List.length_singleton]; omega) (fun z hz => by
          rcases List.mem_append.mp hz with h | h
          · exact hcl.2 z h
          · have : z = oth := by simpa using h
            rw [this]
            exact m2)
        have x9 : ExN [b, lf, cd] H (upd H8 cd (.dK (putK kv6 (.inr low) (.ref p)))) := (x6.trans (ExN.of e68)).trans (ExN.upd (by simp))
        generalize upd H8 cd (.dK (putK kv6 (.inr low) (.ref p))) = H9 at hQ9 x9
        have hD9 := hQ9.dr
        generalize hck3 : setC ck2 low (ck2 base ++ [oth]) = ck3 at hD9
        have cU3 : ∀ s ∈ U ++ [one, oth], ck3 s = ck2 s := fun s hs => by rw [← hck3, setC_old (fun z => nU3 (by rw [← z]; exact hs))]
        have cl3 : ck3 low = ck base ++ [oth] := by rw [← hck3, setC_new, cb]
        have cb3 : ck3 base = ck base := by rw [cU3 base mb, cb]
        have c13 : ck3 one = ck base := by rw [cU3 one m1, c1]
        have c23 : ck3 oth = ck base := by rw [cU3 oth m2, c2]
        have eU3 : U ++ [one, oth] ++ [low] = U ++ [one, oth, low] := by simp
        rw [eU3] at hD9
        have hm : ∀ s ∈ U ++ [one, oth], s ∈ U ++ [one, oth, low] := fun s hs => by
          rw [← eU3]
          exact List.mem_append_left _ hs
        have ml : low ∈ U ++ [one, oth, low] := by simp
        have gl : goodN low := hD9.good low (List.mem_append_left _ ml)
        have hperm3 : ([one, oth, low] ++ L2).Perm (L2 ++ [low] ++ [oth] ++ [one]) := by
          have h1 : ([one, oth, low] ++ L2).Perm ([one, oth] ++ (L2 ++ [low])) := List.Perm.append_left [one, oth] (List.perm_append_comm (l₁ := [low]) (l₂ := L2))
          exact h1.trans hperm
        walk_at "ss"
        refine newT fun r1 H10 hr1 e10 g10 => ?_
        have hD10 := hD9.up e10
        walk_at "ss"
        refine ⟨b, rfl, hD10.box, fun v H11 hv x11 b11 => ?_⟩
        have hD11 := hD10.upB x11 b11
        have g11 := x11 _ _ (box_ne hD10.box g10 (fun _ _ _ z => by cases z)) g10
        walk_at "ss"
        refine newT fun r2 H12 hr2 e12 g12 => ?_
        walk_at "ss"
        refine newL fun rl H13 hrl e13 g13 => ?_
        have e1113 := e12.trans e13
        have hD13 := hD11.up e1113
        walk_at "ss"
        refine ⟨b, one, base, rfl, hD13.box, gd one m1, gd base mb, fun t u H14 ht hu x14 b14 => ?_⟩
        have hD14 := hD13.upB x14 b14
        have tk : ∀ {a : Addr} {xs : List V}, H13 a = some (.tup xs) → H14 a = some (.tup xs) := fun h => x14 _ _ (box_ne hD13.box h (fun _ _ _ z => by cases z)) h
        have grl : H14 rl = some (.lst [.ref r1, .ref r2]) := x14 _ _ (fresh_nb (hD11.up e12).box hrl) g13
        walk_at "ss"
        refine newT fun r3 H15 hr3 e15 g15 => ?_
        walk_at "ss"
        refine newL fun sl H16 hsl e16 g16 => ?_
        have e1416 := e15.trans e16
        refine c_cat (e1416 _ _ grl) g16 (fun ql H17 hql e17 g17 => ?_) (by simp)
        have X : ExN [b, lf, cd] H H14 := x9.trans ((ExN.of e10).trans ((ExN.box x11 (by simp)).trans ((ExN.of e1113).trans (ExN.box x14 (by simp)))))
        have e1417 := e1416.trans e17
        refine k [one, oth, low] L2 ck3 [.wh low base oth, .vd 1 one v low, .pl oth t] _ ql H17 (by simp) hperm3 (hD14.up e1417) (fun s hs => by rw [cU3 s (List.mem_append_left _ hs), cU s hs]) ?_ (fun r hr => ?_) (freshN X hD (fresh_back e1416 hql) hD14.three) g17 (.cons ⟨r1, rfl, e1417 _ _ (tk (e1113 _ _ g11))⟩ (.cons ⟨r2, rfl, e1417 _ _ (tk (e13 _ _ g12))⟩ (.cons ⟨r3, u, rfl, (e16.trans e17) _ _ g15, hu.up e1417⟩ .nil))) (X.trans (ExN.of e1417))
        · show ([low, one, oth] : List Str).Perm [one, oth, low]
          exact List.perm_append_comm (l₁ := [low]) (l₂ := [one, oth])
        · have h3 : r = .wh low base oth ∨ r = .vd 1 one v low ∨ r = .pl oth t := by simpa using hr
          rcases h3 with e | e | e
          · rw [e]
            exact rw_wh ml (hm _ mb) (hm _ m2) gl (gd _ mb) (gd _ m2) (by rw [cb3, c23]) (by rw [cl3, cb3])
          · rw [e]
            exact rw_vd (by decide) (hm _ m1) ml (gd _ m1) gl hv ⟨by rw [cl3]; simp, by rw [c13, cl3, List.dropLast_concat]⟩
          · rw [e]
            exact rw_pl ht (hm _ m2) (hm _ m1) (hm _ mb) (gd _ m2) (by rw [c13, c23]) (by rw [cb3, c23])

/-! ### some rows more -/
open TL (tl)
theorem eqL_dec : ∀ (a b : List Str), eqL (a.map V.str) (b.map V.str) = decide (a = b)
  | [], [] => rfl
  | [], _ :: _ => rfl
  | _ :: _, [] => rfl
  | x :: a, y :: b => by
    show (eqV (.str x) (.str y) && eqL (a.map V.str) (b.map V.str)) = _
    rw [eqL_dec a b]
    have h : eqV (.str x) (.str y) = decide (x = y) := by
      by_cases e : x = y <;> simp [eqV, e]
    rw [h]
    by_cases e : x = y <;> by_cases e2 : a = b <;> simp [e, e2]
theorem filt_strs (g : Str → Bool) (F : V → Option V) (hF : ∀ s, F (.str s) = if g s then some (.str s) else none) (l : List Str) : (l.map V.str).filterMap F = (l.filter g).map V.str := by
  induction l with
  | nil => rfl
  | cons a l ih =>
    rw [List.map_cons, List.filterMap_cons, hF, List.filter_cons, ih]
    cases g a <;> rfl
def sp_some_l : Sp := fun vs H Q _ => ∃ (b lf cd : Addr) (U L : List Str) (ck : Str → List Str) (lp : Int), vs = [.ref b, .ref lf, .ref cd, .int lp] ∧ DrAt H b lf cd U L ck ∧ U ≠ [] ∧ L ≠ [] ∧ GotR H b lf cd [b, lf, cd] U L [] ck Q
theorem ok_some_l (T : Txt K mg Z) : FnOk P w K mg base CX0 6 Z.f_some_l Z.fd_some_l ["_law_box_here", "_law_left", "_law_clocks", "_law_loops"] sp_some_l := by
  have G_take_l := ok_take_l (P := P) (w := w) (base := base) T
  have G_value_l := ok_value_l (P := P) (w := w) (base := base) T
  have G_term_l := ok_term_l (P := P) (w := w) (base := base) T
  have G_slower_l := ok_slower_l (P := P) (w := w) (base := base) T
  have G_back_l := ok_back_l (P := P) (w := w) (base := base) T
  refine T.F_some_l.ok sc_some_l (fun vs H Q E h => ?_) (fun cdv AA outer s H vs Q E hr h => ?_)
  · obtain ⟨b, lf, cd, U, L, ck, lp, rfl, _⟩ := h
    rfl
  · obtain ⟨b, lf, cd, U, L, ck, lp, rfl, hD, hU, hL, k⟩ := h
    have hlen := hD.len
    obtain ⟨kv, gcd, hkeys, hkv⟩ := id hD.cks
    have hkl : kv.length = U.length := by have := congrArg List.length hkeys; rwa [List.length_map, List.length_map] at this
    have hUl : U.length ≤ 40 := by rw [List.length_append] at hlen; omega
    have hU0 : 0 < U.length := List.length_pos_iff.mpr hU
    refine ⟨_, (pss_cons (ps_set (i := 4) sc_some_l.nd rfl (Or.inl rfl) (pe_callTy (call_listD rfl) (by rfl) T.n_list (by decide +kernel) (pa_cons (pv 2) pa_nil)))
      (pss_cons (ps_set (i := 5) sc_some_l.nd rfl (Or.inr rfl) (pe_ix ix_list (pv 4) (pe_call G_take_l (hr.mono (by omega)) rfl T.g_take_l T.F_take_l.kp T.b_take_l .nil pass0 (pa_cons (pv 0) (pa_cons (pe_callB call_len_seq (by rfl) T.n_len (by decide +kernel) (pa_cons (pv 4) pa_nil)) pa_nil))) (fun _ _ => rfl)))
      (pss_cons (ps_setLc (i := 6) (own := [("_law_name", 7)]) (g := (gName 7)) (tt := (tTest (tOp (rEqD K) (tDGet (tVar 2) (tVar 7)) (tDGet (tVar 2) (tVar 5))))) (te := (tVar 7)) rfl sc_some_l.nd rfl rfl (sw_true rfl rfl rfl (by decide +kernel)) (pi_list (pv 4)) (blkOk_by (own := [("_law_name", 7)]) (N := N_some_l) (sc := defScope s_some_l) (by decide +kernel)) (fun _ _ _ _ _ => (pg_name (i := 7) sc_some_l.nd rfl (Or.inl rfl))) (fun _ _ _ _ _ => (pts_one (pt_cmpR (op_eqD hr.units) (pe_dget (hu_of hr) (pv 2) (pv 7) (fun _ _ => rfl)) (pe_dget (hu_of hr) (pv 2) (pv 5) (fun _ _ => rfl)) (nomark _)))) (fun _ _ _ _ _ => (pv 7)))
      (pss_cons (ps_set (i := 8) sc_some_l.nd rfl (Or.inl rfl) (pe_ix ix_list (pv 6) (pe_call G_take_l (hr.mono (by omega)) rfl T.g_take_l T.F_take_l.kp T.b_take_l .nil pass0 (pa_cons (pv 0) (pa_cons (pe_callB call_len_seq (by rfl) T.n_len (by decide +kernel) (pa_cons (pv 6) pa_nil)) pa_nil))) (fun _ _ => rfl)))
      (pss_cons (ps_set (i := 9) sc_some_l.nd rfl (Or.inl rfl) (pe_call G_take_l (hr.mono (by omega)) rfl T.g_take_l T.F_take_l.kp T.b_take_l .nil pass0 (pa_cons (pv 0) (pa_cons pe_int pa_nil))))
      (Evl.pss_cut (ps_if (PW.pt (pw_and (pt_cmpR op_lt (pv 9) pe_int (nomark _)) (pw_and1 (pt_cmpR op_gt (pe_callB call_len_seq (by rfl) T.n_len (by decide +kernel) (pa_cons (pv 1) pa_nil)) pe_int (nomark _))))) (pss_one (ps_ret (pe_call G_back_l (hr.mono (by omega)) rfl T.g_back_l T.F_back_l.kp T.b_back_l .nil pass0 (pa_cons (pv 0) (pa_cons (pv 1) (pa_cons (pv 2) (pa_cons (pv 5) (pa_cons (pe_op op_mul (pv 3) (pe_call G_take_l (hr.mono (by omega)) rfl T.g_take_l T.F_take_l.kp T.b_take_l .nil pass0 (pa_cons (pv 0) (pa_cons pe_int pa_nil)))) pa_nil)))))))) pss_nil)
      (Evl.pss_cut (ps_if (PW.pt (pw_and (pt_cmpR op_lt (pv 9) pe_int (nomark _)) (pw_and1 (pt_cmpR op_lt (pe_callB call_len_seq (by rfl) T.n_len (by decide +kernel) (pa_cons (pe_dget (hu_of hr) (pv 2) (pv 5) (fun _ _ => rfl)) pa_nil)) pe_int (nomark _))))) (pss_one (ps_ret (pe_call G_slower_l (hr.mono (by omega)) rfl T.g_slower_l T.F_slower_l.kp T.b_slower_l .nil pass0 (pa_cons (pv 0) (pa_cons (pv 1) (pa_cons (pv 2) (pa_cons (pv 5) (pa_cons (pv 8) pa_nil)))))))) pss_nil)
      (pss_cons (ps_set (i := 7) sc_some_l.nd rfl (Or.inl rfl) (pe_bm0 PySem.F.plainAttrs_list PySem.F.slot_list_pop PySem.F.type_list_pop mt_pop (pv 1)))
      (pss_cons (ps_dput (hu_of hr) (pv 2) (pv 7) (pe_dget (hu_of hr) (pv 2) (pv 5) (fun _ _ => rfl)) rfl)
      (pss_cons (ps_if (pt_cmpR op_eq (pv 9) pe_int (nomark _)) (pss_one (ps_ret (pe_lst (pa_cons (pe_tup (pa_cons pe_str (pa_cons (pv 7) (pa_cons (pe_call G_value_l (hr.mono (by omega)) rfl T.g_value_l T.F_value_l.kp T.b_value_l .nil pass0 (pa_cons (pv 0) pa_nil)) (pa_cons (pv 8) pa_nil))))) pa_nil)))) pss_nil)
      (pss_cons (ps_if (pt_cmpR op_eq (pv 9) pe_int (nomark _)) (pss_one (ps_ret (pe_lst (pa_cons (pe_tup (pa_cons pe_str (pa_cons (pv 7) (pa_cons (pe_call G_value_l (hr.mono (by omega)) rfl T.g_value_l T.F_value_l.kp T.b_value_l .nil pass0 (pa_cons (pv 0) pa_nil)) (pa_cons (pv 8) pa_nil))))) pa_nil)))) pss_nil)
      (Evl.pss_cut (ps_if (PW.pt (pw_and (pt_cmpR op_gt (pv 3) pe_int (nomark _)) (pw_and1 (pt_cmpR op_eq (pe_call G_take_l (hr.mono (by omega)) rfl T.g_take_l T.F_take_l.kp T.b_take_l .nil pass0 (pa_cons (pv 0) (pa_cons pe_int pa_nil))) pe_int (nomark _))))) (pss_one (ps_set (i := 8) sc_some_l.nd rfl (Or.inl rfl) (pv 7))) pss_nil)
      (pss_one (ps_ret (pe_lst (pa_cons (pe_tup (pa_cons pe_str (pa_cons (pv 7) (pa_cons (pe_call G_term_l (hr.mono (by omega)) rfl T.g_term_l T.F_term_l.kp T.b_term_l .nil pass0 (pa_cons (pv 0) (pa_cons (pv 5) (pa_cons (pv 8) pa_nil)))) pa_nil)))) pa_nil)))))))))))))))), ?_⟩
    walk_at "ss"
    refine ⟨cd, _, rfl, .inl gcd, fun nl hnl => ?_⟩
    rw [show (kv.map fun p => kV p.1) = U.map V.str from by have h := congrArg (List.map kV) hkeys; rw [List.map_map, List.map_map] at h; exact h]
    have e1 : Ex H (upd H nl (.lst (U.map V.str))) := Ex.new hnl
    have g1 : upd H nl (.lst (U.map V.str)) nl = some (.lst (U.map V.str)) := upd_same
    generalize upd H nl (.lst (U.map V.str)) = H1 at e1 g1
    have hD1 := hD.up e1
    have nnb : nl ≠ b := fresh_nb hD.box hnl
    walk_at "ss"
    refine ⟨nl, _, rfl, .inl (SqL.of g1), ?_⟩
    walk_at "ss"
    refine ⟨b, _, rfl, hD1.box, by rw [List.length_map]; omega, by rw [List.length_map]; omega, fun d2 H2 h20 h21 x2 b2 => ?_⟩
    rw [List.length_map] at h21
    obtain ⟨base, hat, hbU⟩ := at_str h20 h21
    have hD2 := hD1.upB x2 b2
    have g2 := x2 _ _ nnb g1
    refine c_ixL (SqL.of g2) hat ?_
    obtain ⟨kv2, pb, gk2, pb1, pb2⟩ := hD2.get hbU
    walk_at "ss"
    refine ⟨⟨_, SqL.of g2⟩, lcLv (fun y => match y with | .str s => if decide (ck s = ck base) then some (.str s) else none | _ => none) (SqL.of g2) (by rw [List.length_map]; omega) (fun y hy F2 f2 R hR => ?_) ?_⟩
    · obtain ⟨s, hs, rfl⟩ := List.mem_map.mp hy
      have hDF := hD2.up f2
      obtain ⟨kv3, p3, gk3, p31, p32⟩ := hDF.get hs
      walk_at "ss"
      refine ⟨cd, _, rfl, by rw [← p31]; exact dgetK gk3, ?_⟩
      walk_at "ss"
      refine ⟨cd, _, rfl, by rw [← pb1]; exact dgetK (f2 _ _ gk2), ?_⟩
      refine c_eqT (SqT.of p32) (SqT.of (f2 _ _ pb2)) (hDF.okc hs) (hDF.okc hbU) ?_
      rw [eqL_dec]
      have hR' := hR _ (Ex.refl _)
      refine ⟨_, rfl, if_cs (fun hc => ?_) (fun hc => ?_)⟩
      · walk_at "ss"
        rw [show (match V.str s with | .str s => if decide (ck s = ck base) then some (V.str s) else none | _ => none) = some (V.str s) from if_pos hc] at hR'
        exact hR'
      · rw [show (match V.str s with | .str s => if decide (ck s = ck base) then some (V.str s) else none | _ => none) = (none : Option V) from if_neg (by rw [hc]; decide)] at hR'
        exact hR'
    intro ml H3 hml e3 g3
    rw [filt_strs (fun s => decide (ck s = ck base)) _ (fun s => rfl)] at g3
    have hD3 := hD2.up e3
    have nmb : ml ≠ b := fresh_nb hD2.box hml
    have hfl : (U.filter fun s => decide (ck s = ck base)).length ≤ U.length := List.length_filter_le _ _
    have hf0 : 0 < (U.filter fun s => decide (ck s = ck base)).length := List.length_pos_of_mem (List.mem_filter.mpr ⟨hbU, by simp⟩)
    walk_at "ss"
    refine ⟨ml, _, rfl, .inl (SqL.of g3), ?_⟩
    walk_at "ss"
    refine ⟨b, _, rfl, hD3.box, by rw [List.length_map]; omega, by rw [List.length_map]; omega, fun d4 H4 h40 h41 x4 b4 => ?_⟩
    rw [List.length_map] at h41
    obtain ⟨mate, hat4, hmm⟩ := at_str h40 h41
    obtain ⟨hmU, hmc⟩ := List.mem_filter.mp hmm
    have hcm : ck mate = ck base := of_decide_eq_true hmc
    have hD4 := hD3.upB x4 b4
    refine c_ixL (SqL.of (x4 _ _ nmb g3)) hat4 ?_
    walk_at "ss"
    refine ⟨b, 8, rfl, hD4.box, by decide, by decide, fun way H5 w0 w1 x5 b5 => ?_⟩
    have hD5 := hD4.upB x5 b5
    have X5 : ExN [b, lf, cd] H H5 := (ExN.of e1).trans ((ExN.box x2 (by simp)).trans ((ExN.of e3).trans ((ExN.box x4 (by simp)).trans (ExN.box x5 (by simp)))))
    have fr : ∀ {q : Addr}, H5 q = none → H q = none := fun hq => freshN X5 hD hq hD5.three
    have kk : GotR H5 b lf cd [b, lf, cd] U L [] ck Q := fun T L2 ck2 rs us q H6 h0 h1 h2 h3 h4 h5 h6 h7 h8 h9 => k T L2 ck2 rs us q H6 h0 h1 h2 h3 h4 h5 (fr h6) h7 h8 (X5.trans h9)
    clear x5 b5 x4 b4 x2 b2 hD4 hD3 hD2 hD1 e1 e3 g1 g2 g3 gk2 pb1 pb2
    clear k fr X5
    walk_at "ss"
    refine c_cut (M := fun σ' G => (∃ v7, σ' = [some (.ref b), some (.ref lf), some (.ref cd), some (.int lp), some (.ref nl), some (.str base), some (.ref ml), v7, some (.str mate), some (.int way)]) ∧ G = H5) ?_ ?_
    · walk_at "ss"
      refine if_cs (fun c1 => ?_) (fun c1 => ?_)
      · walk_at "ss"
        refine ⟨lf, _, rfl, .inl (SqL.of hD5.left), ?_⟩
        walk_at "ss"
        refine if_cs (fun c2 => ?_) (fun c2 => ?_)
        · walk_at "ss"
          refine ⟨b, 3, rfl, hD5.box, by decide, by decide, fun d6 H6 h60 h61 x6 b6 => ?_⟩
          have hD6 := hD5.upB x6 b6
          have X6 : ExN [b, lf, cd] H5 H6 := ExN.box x6 (by simp)
          walk_at "ss"
          refine ⟨_, _, rfl, rfl, .inr ⟨by omega, by omega⟩, ?_⟩
          walk_at "ss"
          refine ⟨b, lf, cd, U, L, ck, base, _, rfl, hD6, hbU, by have := of_decide_eq_true c2; rw [List.length_map] at this; omega, ?_⟩
          exact fun T L2 ck2 rs us q H7 h0 h1 h2 h3 h4 h5 h6 h7 h8 h9 => kk T L2 ck2 rs us q H7 h0 h1 h2 h3 h4 h5 (freshN X6 hD5 h6 hD6.three) h7 h8 (X6.trans h9)
        · walk_at "ss"
          exact ⟨⟨_, rfl⟩, rfl⟩
      · refine if_ff rfl ?_
        walk_at "ss"
        exact ⟨⟨_, rfl⟩, rfl⟩
    rintro σ' G ⟨⟨v7, rfl⟩, rfl⟩
    walk_at "ss"
    refine c_cut (M := fun σ' G' => (∃ v7, σ' = [some (.ref b), some (.ref lf), some (.ref cd), some (.int lp), some (.ref nl), some (.str base), some (.ref ml), v7, some (.str mate), some (.int way)]) ∧ G' = G) ?_ ?_
    · walk_at "ss"
      refine if_cs (fun c1 => ?_) (fun c1 => ?_)
      · walk_at "ss"
        obtain ⟨kv6, p6, gk6, p61, p62⟩ := hD5.get hbU
        refine ⟨cd, _, rfl, by rw [← p61]; exact dgetK gk6, ?_⟩
        walk_at "ss"
        refine ⟨p6, _, rfl, .inr (SqT.of p62), ?_⟩
        walk_at "ss"
        refine if_cs (fun c2 => ?_) (fun c2 => ?_)
        · walk_at "ss"
          exact ⟨b, lf, cd, U, L, ck, base, mate, rfl, hD5, hbU, hmU, hcm, hL, kk⟩
        · walk_at "ss"
          exact ⟨⟨_, rfl⟩, rfl⟩
      · refine if_ff rfl ?_
        walk_at "ss"
        exact ⟨⟨_, rfl⟩, rfl⟩
    rintro σ' G' ⟨⟨v7', rfl⟩, rfl⟩
    obtain ⟨L2, n, rfl⟩ := last_split hL
    walk_at "ss"
    refine ⟨.inl ⟨rfl, _, SqL.of hD5.left⟩, ?_⟩
    walk_at "ss"
    refine c_pop hD5.left ?_
    have hQ6 : DrQ _ b lf cd U (n :: []) L2 ck := hD5.q.pop
    have x6 : ExN [b, lf, cd] G' (upd G' lf (.lst (L2.map V.str))) := ExN.upd (by simp)
    generalize upd G' lf (.lst (L2.map V.str)) = H6 at hQ6 x6
    walk_at "ss"
    obtain ⟨kv6, p6, g6, hkl6, p61, p62⟩ := hQ6.get hbU
    refine ⟨cd, _, rfl, by rw [← p61]; exact dgetK g6, ?_⟩
    walk_at "ss"
    refine ⟨cd, _, rfl, .inl ⟨_, .inr n, g6, rfl, Evl.sz_lt (by omega), rfl⟩, ?_⟩
    have nU := hQ6.not
    have hcl := hQ6.ckg base hbU
    have hQ7 := hQ6.put g6 p62 (Nat.le_succ_of_le hcl.1) hcl.2
    have X7 : ExN [b, lf, cd] G' (upd H6 cd (.dK (putK kv6 (.inr n) (.ref p6)))) := x6.trans (ExN.upd (by simp))
    generalize upd H6 cd (.dK (putK kv6 (.inr n) (.ref p6))) = H7 at hQ7 X7
    have hD7 := hQ7.dr
    generalize hck2 : setC ck n (ck base) = ck2 at hD7
    have cU : ∀ s ∈ U, ck2 s = ck s := fun s hs => by rw [← hck2, setC_old (fun z => nU (by rw [← z]; exact hs))]
    have cn : ck2 n = ck base := by rw [← hck2, setC_new]
    clear hQ7 hck2
    have hperm : ([n] ++ L2).Perm (L2 ++ [n]) := List.perm_append_comm
    have mn : n ∈ U ++ [n] := by simp
    have mU : ∀ s ∈ U, s ∈ U ++ [n] := fun s hs => List.mem_append_left _ hs
    have gd : ∀ s ∈ U ++ [n], goodN s := fun s hs => hD7.good s (List.mem_append_left _ hs)
    walk_at "ss"
    refine if_cs (fun c1 => ?_) (fun c1 => ?_)
    · walk_at "ss"
      refine ⟨b, rfl, hD7.box, fun v H8 hv x8 b8 => ?_⟩
      have hD8 := hD7.upB x8 b8
      have X8 := X7.trans (ExN.box x8 (by simp))
      walk_at "ss"
      refine newT fun r1 H9 hr1 e9 g9 => ?_
      walk_at "ss"
      refine newL fun q' H10 hq' e10 g10 => ?_
      have e810 := e9.trans e10
      refine kk [n] L2 ck2 [.vd 0 n v mate] _ q' H10 (by simp) hperm (hD8.up e810) cU (List.Perm.refl _) (fun r hr => ?_) (freshN X8 hD5 (fresh_back e9 hq') hD8.three) g10 (.cons ⟨r1, rfl, e10 _ _ g9⟩ .nil) (X8.trans (ExN.of e810))
      have : r = .vd 0 n v mate := by simpa using hr
      rw [this]
      exact rw_vd (by decide) mn (mU _ hmU) (gd _ mn) (gd _ (mU _ hmU)) hv (by show ck2 n = ck2 mate; rw [cn, cU mate hmU, hcm])
    walk_at "ss"
    refine if_cs (fun c2 => ?_) (fun c2 => ?_)
    · walk_at "ss"
      refine ⟨b, rfl, hD7.box, fun v H8 hv x8 b8 => ?_⟩
      have hD8 := hD7.upB x8 b8
      have X8 := X7.trans (ExN.box x8 (by simp))
      walk_at "ss"
      refine newT fun r1 H9 hr1 e9 g9 => ?_
      walk_at "ss"
      refine newL fun q' H10 hq' e10 g10 => ?_
      have e810 := e9.trans e10
      refine kk [n] L2 ck2 [.vd 2 n v mate] _ q' H10 (by simp) hperm (hD8.up e810) cU (List.Perm.refl _) (fun r hr => ?_) (freshN X8 hD5 (fresh_back e9 hq') hD8.three) g10 (.cons ⟨r1, rfl, e10 _ _ g9⟩ .nil) (X8.trans (ExN.of e810))
      have : r = .vd 2 n v mate := by simpa using hr
      rw [this]
      exact rw_vd (by decide) mn (mU _ hmU) (gd _ mn) (gd _ (mU _ hmU)) hv (by show ck2 n = ck2 mate; rw [cn, cU mate hmU, hcm])
    walk_at "ss"
    refine c_cut (M := fun σ' G2 => ∃ m, σ' = [some (.ref b), some (.ref lf), some (.ref cd), some (.int lp), some (.ref nl), some (.str base), some (.ref ml), some (.str n), some (.str m), some (.int way)] ∧ m ∈ U ++ [n] ∧ ck2 m = ck base ∧ DrAt G2 b lf cd (U ++ [n]) L2 ck2 ∧ ExN [b, lf, cd] G' G2) ?_ ?_
    · walk_at "ss"
      refine if_cs (fun c3 => ?_) (fun c3 => ?_)
      · walk_at "ss"
        refine ⟨b, 6, rfl, hD7.box, by decide, by decide, fun d8 H8 h80 h81 x8 b8 => ?_⟩
        have hD8 := hD7.upB x8 b8
        have X8 := X7.trans (ExN.box x8 (by simp))
        walk_at "ss"
        refine if_cs (fun c4 => ?_) (fun c4 => ?_)
        · walk_at "ss"
          exact ⟨mn, cn, hD8, X8⟩
        · walk_at "ss"
          exact ⟨mU _ hmU, by rw [cU mate hmU, hcm], hD8, X8⟩
      · refine if_ff rfl ?_
        walk_at "ss"
        exact ⟨mU _ hmU, by rw [cU mate hmU, hcm], hD7, X7⟩
    rintro σ' H8 ⟨m, rfl, hm, hmc2, hD8, X8⟩
    walk_at "ss"
    refine ⟨b, base, m, rfl, hD8.box, gd _ (mU _ hbU), gd _ hm, fun t u H9 ht hu x9 b9 => ?_⟩
    have hD9 := hD8.upB x9 b9
    have X9 := X8.trans (ExN.box x9 (by simp))
    walk_at "ss"
    refine newT fun r1 H10 hr1 e10 g10 => ?_
    walk_at "ss"
    refine newL fun q' H11 hq' e11 g11 => ?_
    have e911 := e10.trans e11
    refine kk [n] L2 ck2 [.pl n t] _ q' H11 (by simp) hperm (hD9.up e911) cU (List.Perm.refl _) (fun r hr => ?_) (freshN X9 hD5 (fresh_back e10 hq') hD9.three) g11 (.cons ⟨r1, u, rfl, e11 _ _ g10, hu.up e911⟩ .nil) (X9.trans (ExN.of e911))
    have : r = .pl n t := by simpa using hr
    rw [this]
    exact rw_pl ht mn (mU _ hbU) hm (gd _ mn) (by rw [cU base hbU, cn]) (by rw [hmc2, cn])

/-! ### what a row tells, by the law -/
open TL (tl)
def sp_told_by_l : Sp := fun vs H Q _ => ∃ (r : Rw) (u : V), vs = [u] ∧ RowAt H r u ∧ r.nocall ∧ RetL (r.tells.map V.str) H Q
theorem ok_told_by_l (T : Txt K mg Z) : FnOk P w K mg base CX0 1 Z.f_told_by_l Z.fd_told_by_l ["_law_row"] sp_told_by_l := by
  refine T.F_told_by_l.ok sc_told_by_l (fun vs H Q E h => ?_) (fun cdv AA outer s H vs Q E hr h => ?_)
  · obtain ⟨r, u, rfl, _⟩ := h
    rfl
  · obtain ⟨r, u, rfl, hR, hc, k⟩ := h
    refine ⟨_, (pss_cons (ps_if (pt_cmpR op_eq (pe_ix ix_tup (pv 0) pe_int (fun _ _ => rfl)) pe_str (nomark _)) (pss_one (ps_ret (pe_lst pa_nil))) pss_nil)
      (pss_one (ps_ret (pe_lst (pa_cons (pe_ix ix_tup (pv 0) pe_int (fun _ _ => rfl)) pa_nil))))), ?_⟩
    cases r with
    | pl n t =>
      obtain ⟨a, w0, rfl, ha, _⟩ := hR
      walk_at "ss"
      refine c_ixT (SqT.of ha) rfl ?_
      walk_at "ss"
      rw [str_ne (x := "plain") (y := "same") (by decide +kernel)]
      walk_at "ss"
      refine c_ixT (SqT.of ha) rfl ?_
      walk_at "ss"
      exact newL k
    | vd kk n v x =>
      obtain ⟨a, rfl, ha⟩ := hR
      walk_at "ss"
      refine c_ixT (SqT.of ha) rfl ?_
      walk_at "ss"
      rw [str_ne (x := vword kk) (y := "same") (vw_no (by decide +kernel) (by decide +kernel) (by decide +kernel))]
      walk_at "ss"
      refine c_ixT (SqT.of ha) rfl ?_
      walk_at "ss"
      exact newL k
    | wh n x y =>
      obtain ⟨a, rfl, ha⟩ := hR
      walk_at "ss"
      refine c_ixT (SqT.of ha) rfl ?_
      walk_at "ss"
      rw [str_ne (x := "when") (y := "same") (by decide +kernel)]
      walk_at "ss"
      refine c_ixT (SqT.of ha) rfl ?_
      walk_at "ss"
      exact newL k
    | sm ns =>
      obtain ⟨a, p, rfl, ha, hp⟩ := hR
      walk_at "ss"
      refine c_ixT (SqT.of ha) rfl ?_
      walk_at "ss"
      rw [str_eq rfl]
      walk_at "ss"
      exact newL k
    | cl os nd xs => exact absurd hc id

/-! ### a node that is drawn -/
open TL (tl)
/-- a row of a node that is drawn: it may be a same -/
structure RwS (U : List Str) (ck : Str → List Str) (r : Rw) : Prop where
  good : r.good
  nocall : r.nocall
  pl : r.kind = 0 → r.names ≠ []
  names : ∀ s ∈ r.names, s ∈ U
  ck : CkRow ck r
theorem RwOk.s {U : List Str} {ck : Str → List Str} {r : Rw} (h : RwOk U ck r) : RwS U ck r := ⟨h.good, h.nocall, h.pl, h.names, h.ck⟩
/-- a drawn node with its clocks -/
structure DrNd (n : Nd) (ck : Str → List Str) : Prop where
  good : n.good
  nocalls : n.nocalls
  nm : n.nm = "nq"
  rows : ∀ r ∈ n.rows, RwS n.names ck r
  ckg : ∀ s ∈ n.names, (ck s).length ≤ 40 ∧ ∀ z ∈ ck s, z ∈ n.names
  len : n.names.length ≤ 40
theorem c_slTake {H : Hp} {Q : VK} {a : Addr} {l : List Str} {i : Nat} (h : H a = some (.lst (l.map V.str))) (k : RetL ((l.take i).map V.str) H Q) : rSlL K (.ref a) none (some (i : Int)) H Q := by
  refine ⟨a, _, rfl, SqL.of h, fun p hp => ?_⟩
  rw [cut_take]
  exact k p _ hp (Ex.new hp) upd_same
theorem c_slDrop {H : Hp} {Q : VK} {a : Addr} {l : List Str} {i : Nat} (h : H a = some (.lst (l.map V.str))) (k : RetL ((l.drop i).map V.str) H Q) : rSlL K (.ref a) (some (i : Int)) none H Q := by
  refine ⟨a, _, rfl, SqL.of h, fun p hp => ?_⟩
  rw [cut_drop]
  exact k p _ hp (Ex.new hp) upd_same
theorem rows_len : ∀ {rs : List Rw}, (∀ r ∈ rs, r.tells ≠ []) → rs.length ≤ (rs.flatMap Rw.tells).length
  | [], _ => Nat.le_refl _
  | r :: rs, h => by
    have ih := rows_len (rs := rs) fun q hq => h q (List.mem_cons_of_mem _ hq)
    have := List.length_pos_iff.mpr (h r List.mem_cons_self)
    rw [List.flatMap_cons, List.length_append, List.length_cons]
    omega
theorem paired_app {α β : Type} {F : α → β → Prop} : ∀ {l : List α} {m : List β} {l2 : List α} {m2 : List β}, Paired F l m → Paired F l2 m2 → Paired F (l ++ l2) (m ++ m2)
  | _, _, _, _, .nil, h => h
  | _, _, _, _, .cons a t, h => .cons a (paired_app t h)
/-- the rows that are drawn so far -/
structure RsAt (G6 G : Hp) (b lf cd rl : Addr) (I T L : List Str) (ck : Str → List Str) (rs : List Rw) (us : List V) : Prop where
  dr : DrAt G b lf cd (I ++ T) L ck
  gr : G rl = some (.lst us)
  pr : Paired (RowAt G) rs us
  tells : (rs.flatMap Rw.tells).Perm T
  ok : ∀ r ∈ rs, RwOk (I ++ T) ck r
  ex : ExN [b, lf, cd] G6 G
  nq : rl ≠ lf
theorem RsAt.len {G6 G : Hp} {b lf cd rl : Addr} {I T L : List Str} {ck : Str → List Str} {rs : List Rw} {us : List V} (h : RsAt G6 G b lf cd rl I T L ck rs us) : us.length ≤ 40 ∧ rs.length ≤ 40 := by
  have h1 := rows_len fun r hr => (h.ok r hr).tell
  have h2 := h.tells.length_eq
  have h3 := h.dr.len
  have h4 := paired_len h.pr
  rw [List.length_append, List.length_append] at h3
  omega
/-- rows, sames among them -/
structure RsS (G7 G : Hp) (b lf cd rl : Addr) (U T : List Str) (ck : Str → List Str) (rs : List Rw) (us : List V) (m : Nat) : Prop where
  dr : DrAt G b lf cd U [] ck
  gr : G rl = some (.lst us)
  pr : Paired (RowAt G) rs us
  tells : (rs.flatMap Rw.tells).Perm T
  ok : ∀ r ∈ rs, RwS U ck r
  len : rs.length ≤ m
  ex : ExN [b, rl] G7 G
theorem rs_sm {U : List Str} {ck : Str → List Str} {x y : Str} (hx : x ∈ U) (hy : y ∈ U) (gx : goodN x) (gy : goodN y) (hc : ck y = ck x) : RwS U ck (.sm [x, y, x]) := by
  have h3 : ∀ s ∈ [x, y, x], s = x ∨ s = y := fun s hs => by
    have : s = x ∨ s = y ∨ s = x := by simpa using hs
    rcases this with h | h | h <;> simp [h]
  refine ⟨⟨by simp, by simp, fun s hs => ?_⟩, trivial, fun e => (by cases e), fun s hs => ?_, fun s hs z hz => ?_⟩
  · rcases h3 s hs with h | h <;> rw [h] <;> assumption
  · rcases h3 s (once_mem hs) with h | h <;> rw [h] <;> assumption
  · rcases h3 s hs with h | h <;> rcases h3 z hz with h' | h' <;> rw [h, h'] <;> first | rfl | exact hc | exact hc.symm
theorem DrAt.oth {H : Hp} {b lf cd a : Addr} {U L : List Str} {ck : Str → List Str} {xs : List V} {o : HO} (h : DrAt H b lf cd U L ck) (ha : H a = some (.lst xs)) (n1 : a ≠ b) (n2 : a ≠ lf) : DrAt (upd H a o) b lf cd U L ck := by
  obtain ⟨h1, h2, ⟨kv, h3, h3', h3''⟩, h4, h5, h6, h7⟩ := h
  refine ⟨box_put h1 n1.symm, by rw [upd_ne n2.symm]; exact h2, ⟨kv, by rw [upd_ne (ne_of h3 ha (fun z => by cases z))]; exact h3, h3', fun s hs => ?_⟩, h4, h5, h6, h7⟩
  obtain ⟨p, q1, q2⟩ := h3'' s hs
  exact ⟨p, q1, by rw [upd_ne (ne_of q2 ha (fun z => by cases z))]; exact q2⟩
theorem zip_snd : ∀ {α β : Type} {l : List α} {m : List β}, l.length = m.length → (l.zip m).map Prod.snd = m
  | _, _, [], [], _ => rfl
  | _, _, _ :: _, [], h => by cases h
  | _, _, [], _ :: _, h => by cases h
  | _, _, a :: l, b :: m, h => by rw [List.zip_cons_cons, List.map_cons, zip_snd (l := l) (m := m) (by simpa using h)]
theorem zip_fst : ∀ {α β : Type} {l : List α} {m : List β}, l.length = m.length → (l.zip m).map Prod.fst = l
  | _, _, [], [], _ => rfl
  | _, _, _ :: _, [], h => by cases h
  | _, _, [], _ :: _, h => by cases h
  | _, _, a :: l, b :: m, h => by rw [List.zip_cons_cons, List.map_cons, zip_fst (l := l) (m := m) (by simpa using h)]
theorem paired_zip {α β : Type} {F : α → β → Prop} : ∀ {l : List α} {m : List β}, Paired F l m → ∀ p ∈ l.zip m, F p.1 p.2
  | _, _, .nil, p, hp => by cases hp
  | _, _, .cons a t, p, hp => by
    rcases List.mem_cons.mp hp with e | e
    · rw [e]; exact a
    · exact paired_zip t p e
theorem paired_of {α β : Type} {F : α → β → Prop} : ∀ {l : List (α × β)}, (∀ p ∈ l, F p.1 p.2) → Paired F (l.map Prod.fst) (l.map Prod.snd)
  | [], _ => .nil
  | p :: l, h => .cons (h p List.mem_cons_self) (paired_of fun q hq => h q (List.mem_cons_of_mem _ hq))
theorem nq_ok : isName ("nq" : Str) = true ∧ ("nq" : Str).length ≤ 8 ∧ OkT "nq" := ⟨by decide +kernel, by decide +kernel, OkT.lit (by decide +kernel)⟩
theorem at_right {A F : List Str} {d : Int} (h0 : 0 ≤ d) (h1 : d < (F.length : Int)) : ∃ s, atI ((A ++ F).map V.str) ((A.length : Int) + d) = some (.str s) ∧ s ∈ F := by
  obtain ⟨j, rfl⟩ := Int.eq_ofNat_of_zero_le h0
  have hj : j < F.length := by omega
  refine ⟨F[j], ?_, List.getElem_mem hj⟩
  rw [show (A.length : Int) + ((j : Nat) : Int) = ((A.length + j : Nat) : Int) from rfl]
  refine atI_nat ?_
  rw [List.getElem?_map, List.getElem?_append_right (Nat.le_add_right _ _), Nat.add_sub_cancel_left, List.getElem?_eq_getElem hj]
  rfl
def sp_drawn_l : Sp := fun vs H Q _ => ∃ (b : Addr) (m : Nat) (lp : Int), vs = [.ref b, .int (m : Int), .int lp] ∧ BoxAt H b ∧ 2 ≤ m ∧ m ≤ 40 ∧ ∀ (n : Nd) (ck : Str → List Str) (u : V) (cd p : Addr) H2, DrNd n ck → NdT H2 n u → CksAt H2 cd n.names ck → H cd = none → H2 p = some (.tup [u, .ref cd]) → ExB b H H2 → BoxAt H2 b → Q (.ref p) H2
theorem ok_drawn_l (T : Txt K mg Z) : FnOk P w K mg base CX0 7 Z.f_drawn_l Z.fd_drawn_l ["_law_box_here", "_law_many_here", "_law_loops"] sp_drawn_l := by
  have G_take_l := ok_take_l (P := P) (w := w) (base := base) T
  have G_mixed_l := ok_mixed_l (P := P) (w := w) (base := base) T
  have G_names_l := ok_names_l (P := P) (w := w) (base := base) T
  have G_some_l := ok_some_l (P := P) (w := w) (base := base) T
  have G_told_by_l := ok_told_by_l (P := P) (w := w) (base := base) T
  refine T.F_drawn_l.ok sc_drawn_l (fun vs H Q E h => ?_) (fun cdv AA outer s H vs Q E hr h => ?_)
  · obtain ⟨b, m, lp, rfl, _⟩ := h
    rfl
  · obtain ⟨b, m, lp, rfl, hB, hm2, hm40, k⟩ := h
    refine ⟨_, (pss_cons (ps_set (i := 3) sc_drawn_l.nd rfl (Or.inl rfl) (pe_call G_names_l (hr.mono (by omega)) rfl T.g_names_l T.F_names_l.kp T.b_names_l .nil pass0 (pa_cons (pv 0) (pa_cons (pv 1) pa_nil))))
      (pss_cons (ps_set (i := 4) sc_drawn_l.nd rfl (Or.inl rfl) (pe_op op_add pe_int (pe_call G_take_l (hr.mono (by omega)) rfl T.g_take_l T.F_take_l.kp T.b_take_l .nil pass0 (pa_cons (pv 0) (pa_cons (pe_callB (call_min2 rfl) (by rfl) T.n_min (by decide +kernel) (pa_cons (pe_op op_sub (pv 1) pe_int) (pa_cons pe_int pa_nil))) pa_nil)))))
      (pss_cons (ps_set (i := 5) sc_drawn_l.nd rfl (Or.inr rfl) pe_dnewK)
      (Evl.pss_cut (ps_for PassesOwn.never rfl (pi_list (pe_slice sl_list (pv 3) po_none (po_some (pv 4)))) (pg_name (i := 6) sc_drawn_l.nd rfl (Or.inr rfl)) (pss_one (ps_dput (hu_of hr) (pv 5) (pv 6) (pe_tup pa_nil) rfl)))
      (pss_cons (ps_set (i := 7) sc_drawn_l.nd rfl (Or.inl rfl) (pe_slice sl_list (pv 3) (po_some (pv 4)) po_none))
      (pss_cons (ps_set (i := 8) sc_drawn_l.nd rfl (Or.inl rfl) (pe_lst pa_nil))
      (Evl.pss_cut (ps_while PassesOwn.never (pt_cmpR (op_neNil (hu68 hr)) (pv 7) (pe_lst pa_nil) (nomark _)) (pss_one (ps_set (i := 8) sc_drawn_l.nd rfl (Or.inl rfl) (pe_op op_cat (pv 8) (pe_call G_some_l (hr.mono (by omega)) rfl T.g_some_l T.F_some_l.kp T.b_some_l .nil pass0 (pa_cons (pv 0) (pa_cons (pv 7) (pa_cons (pv 5) (pa_cons (pv 2) pa_nil)))))))))
      (Evl.pss_cut (ps_for PassesOwn.never rfl (pi_range1 (by rfl) T.n_range (pa_cons (pe_call G_take_l (hr.mono (by omega)) rfl T.g_take_l T.F_take_l.kp T.b_take_l .nil pass0 (pa_cons (pv 0) (pa_cons pe_int pa_nil))) pa_nil)) (pg_name (i := 9) sc_drawn_l.nd rfl (Or.inl rfl)) (pss_cons (ps_set (i := 6) sc_drawn_l.nd rfl (Or.inr rfl) (pe_ix ix_list (pv 3) (pe_call G_take_l (hr.mono (by omega)) rfl T.g_take_l T.F_take_l.kp T.b_take_l .nil pass0 (pa_cons (pv 0) (pa_cons (pe_callB call_len_seq (by rfl) T.n_len (by decide +kernel) (pa_cons (pv 3) pa_nil)) pa_nil))) (fun _ _ => rfl)))
      (pss_cons (ps_setLc (i := 10) (own := [("_law_other", 11)]) (g := (gName 11)) (tt := (tTest (tOp (rEqD K) (tDGet (tVar 5) (tVar 11)) (tDGet (tVar 5) (tVar 6))))) (te := (tVar 11)) rfl sc_drawn_l.nd rfl rfl (sw_true rfl rfl rfl (by decide +kernel)) (pi_list (pv 3)) (blkOk_by (own := [("_law_other", 11)]) (N := N_drawn_l) (sc := defScope s_drawn_l) (by decide +kernel)) (fun _ _ _ _ _ => (pg_name (i := 11) sc_drawn_l.nd rfl (Or.inl rfl))) (fun _ _ _ _ _ => (pts_one (pt_cmpR (op_eqD hr.units) (pe_dget (hu_of hr) (pv 5) (pv 11) (fun _ _ => rfl)) (pe_dget (hu_of hr) (pv 5) (pv 6) (fun _ _ => rfl)) (nomark _)))) (fun _ _ _ _ _ => (pv 11)))
      (pss_cons (ps_set (i := 12) sc_drawn_l.nd rfl (Or.inl rfl) (pe_ix ix_list (pv 10) (pe_call G_take_l (hr.mono (by omega)) rfl T.g_take_l T.F_take_l.kp T.b_take_l .nil pass0 (pa_cons (pv 0) (pa_cons (pe_callB call_len_seq (by rfl) T.n_len (by decide +kernel) (pa_cons (pv 10) pa_nil)) pa_nil))) (fun _ _ => rfl)))
      (pss_one (ps_expr (pe_bm PySem.F.plainAttrs_list PySem.F.slot_list_append PySem.F.type_list_append mt_append (pv 8) (pa_cons (pe_tup (pa_cons pe_str (pa_cons (pe_tup (pa_cons (pv 6) (pa_cons (pv 12) (pa_cons (pv 6) pa_nil)))) pa_nil))) pa_nil))))))))
      (pss_cons (ps_set (i := 8) sc_drawn_l.nd rfl (Or.inl rfl) (pe_call G_mixed_l (hr.mono (by omega)) rfl T.g_mixed_l T.F_mixed_l.kp T.b_mixed_l .nil pass0 (pa_cons (pv 0) (pa_cons (pv 8) pa_nil))))
      (pss_cons (ps_set (i := 13) sc_drawn_l.nd rfl (Or.inl rfl) (pe_slice sl_list (pv 3) po_none (po_some (pv 4))))
      (Evl.pss_cut (ps_for PassesOwn.never rfl (pi_list (pv 8)) (pg_name (i := 14) sc_drawn_l.nd rfl (Or.inl rfl)) (pss_one (ps_set (i := 13) sc_drawn_l.nd rfl (Or.inl rfl) (pe_op op_cat (pv 13) (pe_call G_told_by_l (hr.mono (by omega)) rfl T.g_told_by_l T.F_told_by_l.kp T.b_told_by_l .nil pass0 (pa_cons (pv 14) pa_nil))))))
      (pss_cons (ps_set (i := 15) sc_drawn_l.nd rfl (Or.inl rfl) pe_dnewK)
      (Evl.pss_cut (ps_for PassesOwn.never rfl (pi_list (pv 13)) (pg_name (i := 6) sc_drawn_l.nd rfl (Or.inr rfl)) (pss_one (ps_dput (hu_of hr) (pv 15) (pv 6) (pe_dget (hu_of hr) (pv 5) (pv 6) (fun _ _ => rfl)) rfl)))
      (pss_cons (ps_set (i := 16) sc_drawn_l.nd rfl (Or.inl rfl) (pe_tup (pa_cons (pe_ix ix_list (pv 13) (pe_op op_add (pv 4) (pe_call G_take_l (hr.mono (by omega)) rfl T.g_take_l T.F_take_l.kp T.b_take_l .nil pass0 (pa_cons (pv 0) (pa_cons (pe_op op_sub (pe_callB call_len_seq (by rfl) T.n_len (by decide +kernel) (pa_cons (pv 13) pa_nil)) (pv 4)) pa_nil)))) (fun _ _ => rfl)) pa_nil)))
      (pss_one (ps_ret (pe_tup (pa_cons (pe_tup (pa_cons pe_str (pa_cons (pe_callTy call_tuple_of (by rfl) T.n_tuple (by decide +kernel) (pa_cons (pe_slice sl_list (pv 3) po_none (po_some (pv 4))) pa_nil)) (pa_cons (pv 16) (pa_cons (pe_callTy call_tuple_of (by rfl) T.n_tuple (by decide +kernel) (pa_cons (pv 8) pa_nil)) pa_nil))))) (pa_cons (pv 15) pa_nil))))))))))))))))))), ?_⟩
    walk_at "ss"
    refine ⟨b, m, rfl, hB, by omega, hm40, fun ns nl H1 hnl hnd hgn hnlf x1 b1 g1 => ?_⟩
    have nnb : nl ≠ b := fresh_nb hB hnlf
    walk_at "ss"
    obtain ⟨w, hw, hw1, hw2, hw3⟩ : ∃ w : Int, (if (3 : Int) < (m : Int) - 1 then 3 else (m : Int) - 1) = w ∧ 0 < w ∧ w ≤ 3 ∧ w ≤ (m : Int) - 1 := by
      by_cases c : (3 : Int) < (m : Int) - 1
      · exact ⟨3, if_pos c, by decide, by decide, by omega⟩
      · exact ⟨(m : Int) - 1, if_neg c, by omega, by omega, by omega⟩
    refine ⟨_, _, rfl, ?_⟩
    rw [hw]
    walk_at "ss"
    refine ⟨b, w, rfl, b1, hw1, by omega, fun d H2 d0 d1 x2 b2 => ?_⟩
    obtain ⟨ins, hins⟩ : ∃ ins : Nat, 1 + d = (ins : Int) := ⟨(1 + d).toNat, by omega⟩
    have hi1 : 1 ≤ ins := by omega
    have hi2 : ins < ns.length := by omega
    have g2 := x2 _ _ nnb g1
    walk_at "ss"
    rw [hins]
    intro cd hcd
    have hcd0 : H cd = none := by
      cases ho : H cd with
      | none => rfl
      | some o =>
        have nb : cd ≠ b := fresh_nb b2 hcd
        have := x2 _ _ nb (x1 _ _ nb ho)
        rw [hcd] at this
        cases this
    have e3 : Ex H2 (upd H2 cd (.dK [])) := Ex.new hcd
    have g3 : upd H2 cd (.dK []) cd = some (.dK []) := upd_same
    have ncn : cd ≠ nl := (ne_of_none g2 hcd).symm
    have ncb : cd ≠ b := fresh_nb b2 hcd
    generalize upd H2 cd (.dK []) = H3 at e3 g3
    have X3 : ExB b H H3 := x1.trans (x2.trans (ExB.of e3))
    have b3 := b2.up e3
    have gn3 := e3 _ _ g2
    walk_at "ss"
    refine c_cut (M := fun σ' G => (∃ v6 v7 v8 v9 v10 v11 v12 v13 v14 v15 v16, σ' = [some (.ref b), some (.int (m : Int)), some (.int lp), some (.ref nl), some (.int (ins : Int)), some (.ref cd), v6, v7, v8, v9, v10, v11, v12, v13, v14, v15, v16]) ∧ ExB cd H3 G ∧ CksAt G cd (ns.take ins) (fun _ => [])) ?_ ?_
    · walk_at "ss"
      refine c_slTake gn3 fun tl' G1 htl f1 m1 => ?_
      have ntc : tl' ≠ cd := (ne_of_none g3 htl).symm
      refine ⟨tl', rfl, ⟨_, SqL.of m1⟩, forL (xs := (ns.take ins).map V.str) (fun i σ' G => (∃ v6 v7 v8 v9 v10 v11 v12 v13 v14 v15 v16, σ' = [some (.ref b), some (.int (m : Int)), some (.int lp), some (.ref nl), some (.int (ins : Int)), some (.ref cd), v6, v7, v8, v9, v10, v11, v12, v13, v14, v15, v16]) ∧ ExB cd H3 G ∧ ExB cd G1 G ∧ CksAt G cd ((ns.take ins).take i) (fun _ => [])) ⟨⟨_, _, _, _, _, _, _, _, _, _, _, rfl⟩, ExB.of f1, ExB.refl _ _, [], f1 _ _ g3, rfl, fun s hs => by cases hs⟩ (fun i σ' G _ q => SqL.of (q.2.2.1 _ _ ntc m1)) ?_ ?_⟩
      · rintro i x σ' G hx ⟨⟨v6, v7, v8, v9, v10, v11, v12, v13, v14, v15, v16, rfl⟩, xG, xG1, cG⟩
        rw [List.getElem?_map] at hx
        obtain ⟨s, hs, rfl⟩ := Option.map_eq_some_iff.mp hx
        walk_at "ss"
        refine newT fun em G2 hem f2 m2 => ?_
        obtain ⟨kv, gk, hk2, hk3⟩ := id cG
        have hkl : kv.length ≤ 40 := by
          have := congrArg List.length hk2
          rw [List.length_map, List.length_map, List.length_take, List.length_take] at this
          omega
        walk_at "ss"
        refine ⟨cd, _, rfl, .inl ⟨_, .inr s, f2 _ _ gk, rfl, Evl.sz_lt (by omega), rfl⟩, ?_⟩
        have hput := (cG.tu (TupK.of f2) (by rw [gk]; exact f2 _ _ gk)).put (n := s) (p := em) (f2 _ _ gk) m2
        have hni : s ∉ (ns.take ins).take i := fun z => nodup_at (List.Nodup.sublist (List.take_sublist _ _) hnd) hs z (Nat.le_refl _) rfl
        rw [if_neg hni] at hput
        walk_at "ss"
        refine ⟨⟨_, _, _, _, _, _, _, _, _, _, _, rfl⟩, (xG.trans (ExB.of f2)).trans ExB.upd, (xG1.trans (ExB.of f2)).trans ExB.upd, ?_⟩
        rw [List.take_add_one, hs]
        exact hput
      · rintro σ' G ⟨⟨v6, v7, v8, v9, v10, v11, v12, v13, v14, v15, v16, rfl⟩, xG, xG1, cG⟩
        rw [List.length_map, List.take_length] at cG
        walk_at "ss"
        exact ⟨⟨_, _, _, _, _, _, _, _, _, _, _, rfl⟩, xG, cG⟩
    rintro σ' G4 ⟨⟨v6, v7, v8, v9, v10, v11, v12, v13, v14, v15, v16, rfl⟩, x4, c4⟩
    have b4 : BoxAt G4 b := by
      obtain ⟨x, y, z, h0, hb⟩ := b3
      exact ⟨x, y, z, h0, x4 _ _ ncb.symm hb⟩
    have gn4 := x4 _ _ ncn.symm gn3
    walk_at "ss"
    refine c_slDrop gn4 fun lf G5 hlf e5 g5 => ?_
    walk_at "ss"
    refine newL fun rl G6 hrl e6 g6 => ?_
    have e46 := e5.trans e6
    have hD6 : DrAt G6 b lf cd (ns.take ins) (ns.drop ins) (fun _ => []) := by
      refine ⟨b4.up e46, e6 _ _ g5, ?_, ?_, ?_, ?_, fun s hs => ⟨Nat.zero_le _, fun z hz => by cases hz⟩⟩
      · obtain ⟨kv, h1, h2, h3⟩ := c4
        exact ⟨kv, e46 _ _ h1, h2, fun s hs => let ⟨p, q1, q2⟩ := h3 s hs; ⟨p, q1, e46 _ _ q2⟩⟩
      · rw [List.take_append_drop]; exact hgn
      · rw [List.take_append_drop]; exact hnd
      · rw [List.take_append_drop]; omega
    walk_at "ss"
    have nrlf : rl ≠ lf := (ne_of_none g5 hrl).symm
    have hrl4 : G4 rl = none := fresh_back e5 hrl
    have hI : ns.take ins ≠ [] := fun z => by
      have := congrArg List.length z
      rw [List.length_take, List.length_nil] at this
      omega
    refine c_cut (M := fun σ' G => ∃ v6 v9 v10 v11 v12 v13 v14 v15 v16 rl' T ck rs us, σ' = [some (.ref b), some (.int (m : Int)), some (.int lp), some (.ref nl), some (.int (ins : Int)), some (.ref cd), v6, some (.ref lf), some (.ref rl'), v9, v10, v11, v12, v13, v14, v15, v16] ∧ T.Perm (ns.drop ins) ∧ RsAt G6 G b lf cd rl' (ns.take ins) T [] ck rs us ∧ G4 rl' = none) ?_ ?_
    · walk_at "ss"
      refine while_by (fun σ' G => ∃ v6 v9 v10 v11 v12 v13 v14 v15 v16 rl' T L ck rs us, σ' = [some (.ref b), some (.int (m : Int)), some (.int lp), some (.ref nl), some (.int (ins : Int)), some (.ref cd), v6, some (.ref lf), some (.ref rl'), v9, v10, v11, v12, v13, v14, v15, v16] ∧ (T ++ L).Perm (ns.drop ins) ∧ RsAt G6 G b lf cd rl' (ns.take ins) T L ck rs us ∧ G4 rl' = none)
        (fun σ' G => match G lf with | some (.lst xs) => xs.length | _ => 0)
        ⟨_, _, _, _, _, _, _, _, _, rl, [], ns.drop ins, _, [], [], rfl, List.Perm.refl _, ⟨by rw [List.append_nil]; exact hD6, g6, .nil, List.Perm.refl _, fun r hr => (by cases hr), ExN.refl _ _, nrlf⟩, hrl4⟩ ?_ ?_
      · rintro σ' G ⟨v6, v9, v10, v11, v12, v13, v14, v15, v16, rl', T, L, ck, rs, us, rfl, hperm, hR, hrl'⟩
        have hlens := hR.len
        walk_at "ss"
        refine newL fun el G7 hel e7 g7 => ?_
        have hD7 := hR.dr.up e7
        refine ⟨lf, el, _, rfl, rfl, SqL.of hD7.left, SqL.of g7, ?_⟩
        walk_at "ss"
        cases L with
        | nil =>
          refine if_ff (by rfl) ?_
          walk_at "ss"
          rw [List.append_nil] at hperm
          exact ⟨_, _, _, _, _, _, _, _, _, rl', T, ck, rs, us, rfl, hperm, ⟨hD7, e7 _ _ hR.gr, paired_up (fun r u h => h.up e7) hR.pr, hR.tells, hR.ok, hR.ex.trans (ExN.of e7), hR.nq⟩, hrl'⟩
        | cons a L1 =>
          refine if_tt (by rfl) ?_
          walk_at "ss"
          refine ⟨b, lf, cd, _, _, ck, lp, rfl, hD7, (fun z => hI (List.append_eq_nil_iff.mp z).1), by simp, ?_⟩
          intro T' L' ck' rs' us' q G8 hne8 hp8 hD8 hck8 hrs8 hok8 hq8 g8 hpr8 x8
          have nrb : rl' ≠ b := fresh_nb b4 hrl'
          have nrc : rl' ≠ cd := fun z => by
            obtain ⟨kv, h1, _⟩ := c4
            rw [z, h1] at hrl'
            cases hrl'
          have gr8 : G8 rl' = some (.lst us) := x8 _ _ (fun z => by
            rcases List.mem_cons.mp z with z | z
            · exact nrb z
            rcases List.mem_cons.mp z with z | z
            · exact hR.nq z
            · exact nrc (by simpa using z)) (e7 _ _ hR.gr)
          have htup := hD7.tup (S := []) x8
          have hlen8 : us'.length ≤ 40 := by
            have h1 := rows_len fun r hr => (hok8 r hr).tell
            have h2 := hrs8.length_eq
            have h3 := hD8.len
            have h4 := paired_len hpr8
            rw [List.nil_append] at h2
            rw [List.length_append, List.length_append] at h3
            omega
          refine c_cat gr8 g8 (fun q2 G9 hq2 e9 g9 => ?_) (by omega)
          walk_at "ss"
          have hpT : (T ++ T' ++ L').Perm (ns.drop ins) := by
            rw [List.append_assoc]
            exact (List.Perm.append_left T hp8).trans hperm
          have hD9 := hD8.up e9
          rw [List.append_assoc] at hD9
          have hq4 : G4 q2 = none := by
            have h8 : G7 q2 = none := freshN x8 hD7 hq2 hD8.three
            exact fresh_back e46 (freshN hR.ex hD6 (fresh_back e7 h8) hR.dr.three)
          refine ⟨⟨_, _, _, _, _, _, _, _, _, q2, T ++ T', L', ck', rs ++ rs', us ++ us', rfl, hpT, ⟨hD9, g9, ?_, ?_, ?_, hR.ex.trans ((ExN.of e7).trans (x8.trans (ExN.of e9))), ?_⟩, hq4⟩, ?_⟩
          · exact paired_app (paired_up (fun r u h => ((h.up e7).tu htup).up e9) hR.pr) (paired_up (fun r u h => h.up e9) hpr8)
          · rw [List.flatMap_append]
            exact hR.tells.append hrs8
          · intro r hr
            rcases List.mem_append.mp hr with h | h
            · exact (hR.ok r h).mono (fun s hs => by rw [← List.append_assoc]; exact List.mem_append_left _ hs) hck8
            · rw [← List.append_assoc]
              exact hok8 r h
          · exact (ne_of_none hD8.left hq2).symm
          · rw [hD9.left, hR.dr.left]
            show (L'.map V.str).length < ((a :: L1).map V.str).length
            have := hp8.length_eq
            rw [List.length_append] at this
            rw [List.length_map, List.length_map]
            have hT' : 0 < T'.length := List.length_pos_iff.mpr hne8
            omega
      · rintro σ' G Q Q' hq ⟨xa, h1, hz, h2⟩
        exact ⟨xa, h1, hz, fun p hp => let ⟨d, e, q1, q2, q3, q4, q5, kk, ek, q⟩ := h2 p hp; ⟨d, e, q1, q2, q3, q4, q5, kk, ek, hq _ _ q⟩⟩
    rintro σ' G7 ⟨v6', v9', v10', v11', v12', v13', v14', v15', v16', rl', T, ck, rs, us, rfl, hperm, hR, hrl'⟩
    have hlens := hR.len
    have nnl : nl ≠ lf := ne_of_none gn4 hlf
    have nnr : nl ≠ rl' := fun z => by rw [← z, gn4] at hrl'; cases hrl'
    have gn7 : G7 nl = some (.lst (ns.map V.str)) := hR.ex _ _ (fun z => by
      rcases List.mem_cons.mp z with z | z
      · exact nnb z
      rcases List.mem_cons.mp z with z | z
      · exact nnl z
      · exact ncn (by have : nl = cd := by simpa using z
                      exact this.symm)) (e46 _ _ gn4)
    have nrb : rl' ≠ b := fresh_nb b4 hrl'
    have nrc : rl' ≠ cd := fun z => by
      obtain ⟨kv, h1, _⟩ := c4
      rw [z, h1] at hrl'
      cases hrl'
    have hmem : ∀ s, s ∈ ns → s ∈ ns.take ins ++ T := fun s hs => by
      rw [← List.take_append_drop ins ns] at hs
      exact (List.mem_append.mp hs).elim (List.mem_append_left _) fun h => List.mem_append_right _ (hperm.mem_iff.mpr h)
    walk_at "ss"
    refine c_cut (M := fun σ' G => ∃ v6 v9 v10 v11 v12 v13 v14 v15 v16 rs us, σ' = [some (.ref b), some (.int (m : Int)), some (.int lp), some (.ref nl), some (.int (ins : Int)), some (.ref cd), v6, some (.ref lf), some (.ref rl'), v9, v10, v11, v12, v13, v14, v15, v16] ∧ RsS G7 G b lf cd rl' (ns.take ins ++ T) T ck rs us 43) ?_ ?_
    · walk_at "ss"
      refine ⟨b, 3, rfl, hR.dr.box, by decide, by decide, fun d8 G8 h80 h81 x8 b8 => ?_⟩
      obtain ⟨d8, rfl⟩ := Int.eq_ofNat_of_zero_le h80
      walk_at "ss"
      refine ⟨by omega, by omega, ?_⟩
      refine forR (n := d8) (fun i σ' G => ∃ v6 v9 v10 v11 v12 v13 v14 v15 v16 rs us, σ' = [some (.ref b), some (.int (m : Int)), some (.int lp), some (.ref nl), some (.int (ins : Int)), some (.ref cd), v6, some (.ref lf), some (.ref rl'), v9, v10, v11, v12, v13, v14, v15, v16] ∧ RsS G7 G b lf cd rl' (ns.take ins ++ T) T ck rs us (40 + i)) ⟨_, _, _, _, _, _, _, _, _, rs, us, rfl, ⟨hR.dr.upB x8 b8, x8 _ _ nrb hR.gr, paired_up (fun r u h => h.tu (fun a xs ha => x8 _ _ (box_ne hR.dr.box ha (fun _ _ _ z => by cases z)) ha)) hR.pr, hR.tells, fun r hr => (hR.ok r hr).s, hlens.2, ExN.box x8 (by simp)⟩⟩ ?_ ?_
      · rintro i σ' G hi ⟨v6, v9, v10, v11, v12, v13, v14, v15, v16, rs, us, rfl, hS⟩
        have gnG : G nl = some (.lst (ns.map V.str)) := hS.ex _ _ (fun z => by
          rcases List.mem_cons.mp z with z | z
          · exact nnb z
          · exact nnr (by simpa using z)) gn7
        walk_at "ss"
        refine ⟨nl, _, rfl, .inl (SqL.of gnG), ?_⟩
        walk_at "ss"
        refine ⟨b, _, rfl, hS.dr.box, by rw [List.length_map]; omega, by rw [List.length_map]; omega, fun d1 F1 h10 h11 x1' b1' => ?_⟩
        rw [List.length_map] at h11
        obtain ⟨nm, hat, hnm⟩ := at_str h10 h11
        have hD1 := hS.dr.upB x1' b1'
        have gn1 := x1' _ _ nnb gnG
        refine c_ixL (SqL.of gn1) hat ?_
        have hnU := hmem nm hnm
        obtain ⟨kv2, pb, gk2, pb1, pb2⟩ := hD1.get hnU
        walk_at "ss"
        refine ⟨⟨_, SqL.of gn1⟩, lcLv (fun y => match y with | .str s => if decide (ck s = ck nm) then some (.str s) else none | _ => none) (SqL.of gn1) (by rw [List.length_map]; omega) (fun y hy F2 f2 R hR => ?_) ?_⟩
        · obtain ⟨s, hs, rfl⟩ := List.mem_map.mp hy
          have hDF := hD1.up f2
          obtain ⟨kv3, p3, gk3, p31, p32⟩ := hDF.get (hmem s hs)
          walk_at "ss"
          refine ⟨cd, _, rfl, by rw [← p31]; exact dgetK gk3, ?_⟩
          walk_at "ss"
          refine ⟨cd, _, rfl, by rw [← pb1]; exact dgetK (f2 _ _ gk2), ?_⟩
          refine c_eqT (SqT.of p32) (SqT.of (f2 _ _ pb2)) (hDF.okc (hmem s hs)) (hDF.okc hnU) ?_
          rw [eqL_dec]
          have hR' := hR _ (Ex.refl _)
          refine ⟨_, rfl, if_cs (fun hc => ?_) (fun hc => ?_)⟩
          · walk_at "ss"
            rw [show (match V.str s with | .str s => if decide (ck s = ck nm) then some (V.str s) else none | _ => none) = some (V.str s) from if_pos hc] at hR'
            exact hR'
          · rw [show (match V.str s with | .str s => if decide (ck s = ck nm) then some (V.str s) else none | _ => none) = (none : Option V) from if_neg (by rw [hc]; decide)] at hR'
            exact hR'
        intro ml F3 hml e3' g3'
        rw [filt_strs (fun s => decide (ck s = ck nm)) _ (fun s => rfl)] at g3'
        have hD3 := hD1.up e3'
        have nmb : ml ≠ b := fresh_nb hD1.box hml
        have hfl : (ns.filter fun s => decide (ck s = ck nm)).length ≤ ns.length := List.length_filter_le _ _
        have hf0 : 0 < (ns.filter fun s => decide (ck s = ck nm)).length := List.length_pos_of_mem (List.mem_filter.mpr ⟨hnm, by simp⟩)
        walk_at "ss"
        refine ⟨ml, _, rfl, .inl (SqL.of g3'), ?_⟩
        walk_at "ss"
        refine ⟨b, _, rfl, hD3.box, by rw [List.length_map]; omega, by rw [List.length_map]; omega, fun d4 F4 h40 h41 x4' b4' => ?_⟩
        rw [List.length_map] at h41
        obtain ⟨on, hat4, hon⟩ := at_str h40 h41
        obtain ⟨honU, honc⟩ := List.mem_filter.mp hon
        have hcm : ck on = ck nm := of_decide_eq_true honc
        have hD4 := hD3.upB x4' b4'
        refine c_ixL (SqL.of (x4' _ _ nmb g3')) hat4 ?_
        have gr4 := x4' _ _ nrb (e3' _ _ (x1' _ _ nrb hS.gr))
        walk_at "ss"
        refine ⟨.inl ⟨rfl, _, SqL.of gr4⟩, ?_⟩
        walk_at "ss"
        refine newT fun q1 F5 hq1 e5' g5' => ?_
        walk_at "ss"
        refine newT fun q2 F6 hq2 e6' g6' => ?_
        walk_at "ss"
        have e46' := e5'.trans e6'
        have gr6 := e46' _ _ gr4
        have hD6' := hD4.up e46'
        have hul := paired_len hS.pr
        have hsl := hS.len
        refine ⟨rl', _, _, rfl, rfl, gr6, Evl.sz_lt (by omega), ?_⟩
        have gU : ∀ s ∈ ns.take ins ++ T, goodN s := fun s hs => hD6'.good s (List.mem_append_left _ hs)
        have tk : TupK G (upd F6 rl' (.lst (us ++ [.ref q2]))) := fun a xs ha => by
          have t1 := x1' _ _ (box_ne hS.dr.box ha (fun _ _ _ z => by cases z)) ha
          have t3 := e3' _ _ t1
          have t6 := e46' _ _ (x4' _ _ (box_ne hD3.box t3 (fun _ _ _ z => by cases z)) t3)
          rw [upd_ne (ne_of t6 gr6 (fun z => by cases z))]
          exact t6
        have nq1 : q1 ≠ rl' := ne_of (e6' _ _ g5') gr6 (fun z => by cases z)
        have nq2 : q2 ≠ rl' := ne_of g6' gr6 (fun z => by cases z)
        have hrow : RowAt (upd F6 rl' (.lst (us ++ [.ref q2]))) (.sm [nm, on, nm]) (.ref q2) := ⟨q2, q1, rfl, by rw [upd_ne nq2]; exact g6', by rw [upd_ne nq1]; exact e6' _ _ g5'⟩
        refine ⟨_, _, _, _, _, _, _, _, _, rs ++ [.sm [nm, on, nm]], us ++ [.ref q2], rfl, ⟨hD6'.oth gr6 nrb hR.nq, upd_same, paired_app (paired_up (fun r u h => h.tu tk) hS.pr) (.cons hrow .nil), ?_, ?_, ?_, ?_⟩⟩
        · rw [List.flatMap_append]
          show (rs.flatMap Rw.tells ++ []).Perm T
          rw [List.append_nil]
          exact hS.tells
        · intro r hr
          rcases List.mem_append.mp hr with h | h
          · exact hS.ok r h
          · have : r = .sm [nm, on, nm] := by simpa using h
            rw [this]
            exact rs_sm hnU (hmem on honU) (gU _ hnU) (gU _ (hmem on honU)) hcm
        · rw [List.length_append, List.length_singleton]
          omega
        · exact hS.ex.trans ((ExN.box x1' (by simp)).trans ((ExN.of e3').trans ((ExN.box x4' (by simp)).trans ((ExN.of e46').trans (ExN.upd (by simp))))))
      · rintro σ' G ⟨v6, v9, v10, v11, v12, v13, v14, v15, v16, rs, us, rfl, hS⟩
        walk_at "ss"
        exact ⟨_, _, _, _, _, _, _, _, _, rs, us, rfl, ⟨hS.dr, hS.gr, hS.pr, hS.tells, hS.ok, Nat.le_trans hS.len (by omega), hS.ex⟩⟩
    rintro σ' G8 ⟨v6, v9, v10, v11, v12, v13, v14, v15, v16, rs, us, rfl, hS⟩
    have hul := paired_len hS.pr
    have hsl := hS.len
    walk_at "ss"
    refine ⟨Rw × V, Prod.snd, b, rl', rs.zip us, rfl, hS.dr.box, by rw [zip_snd hul]; exact hS.gr, by rw [List.length_zip]; omega, fun ms q G9 hms hq x9 b9 g9 => ?_⟩
    have hD9 := hS.dr.upB x9 b9
    have htk9 : TupK G8 G9 := fun a xs ha => x9 _ _ (box_ne hS.dr.box ha (fun _ _ _ z => by cases z)) ha
    have hpm : ∀ p ∈ ms, p.1 ∈ rs ∧ RowAt G9 p.1 p.2 := fun p hp => by
      have h := hms.mem_iff.mp hp
      exact ⟨(List.of_mem_zip h).1, (paired_zip hS.pr p h).tu htk9⟩
    have hP9 : Paired (RowAt G9) (ms.map Prod.fst) (ms.map Prod.snd) := paired_of fun p hp => (hpm p hp).2
    have hrp : (ms.map Prod.fst).Perm rs := by
      have := hms.map Prod.fst
      rwa [zip_fst hul] at this
    generalize hrs' : ms.map Prod.fst = rs' at hP9 hrp
    generalize ms.map Prod.snd = us' at hP9 g9
    have htells : (rs'.flatMap Rw.tells).Perm T := (hrp.flatMap_right Rw.tells).trans hS.tells
    have hok : ∀ r ∈ rs', RwS (ns.take ins ++ T) ck r := fun r hr => hS.ok r (hrp.mem_iff.mp hr)
    have hl43 : rs'.length ≤ 43 := by rw [hrp.length_eq]; exact hsl
    clear hrs' hpm
    have gn9 : G9 nl = some (.lst (ns.map V.str)) := x9 _ _ nnb (hS.ex _ _ (fun z => by
      rcases List.mem_cons.mp z with z | z
      · exact nnb z
      · exact nnr (by simpa using z)) gn7)
    generalize hF : rs'.flatMap Rw.tells = F at htells
    have hpN : (ns.take ins ++ F).Perm (ns.take ins ++ T) := List.Perm.append_left _ htells
    have hUn : (ns.take ins ++ T).Nodup := by have := hD9.nodup; rwa [List.append_nil] at this
    have hUl : (ns.take ins ++ T).length ≤ 40 := by have := hD9.len; rwa [List.append_nil] at this
    have hNn : (ns.take ins ++ F).Nodup := hpN.nodup_iff.mpr hUn
    have hNl : (ns.take ins ++ F).length ≤ 40 := by rw [hpN.length_eq]; exact hUl
    have hNU : ∀ s, s ∈ ns.take ins ++ F ↔ s ∈ ns.take ins ++ T := fun s => hpN.mem_iff
    have hFl : F.length = ns.length - ins := by rw [htells.length_eq, hperm.length_eq, List.length_drop]
    walk_at "ss"
    refine c_slTake gn9 fun ol G10 hol e10 g10 => ?_
    walk_at "ss"
    refine c_cut (M := fun σ' G => ∃ v6 v9 v10 v11 v12 v14 v15 v16 ol, σ' = [some (.ref b), some (.int (m : Int)), some (.int lp), some (.ref nl), some (.int (ins : Int)), some (.ref cd), v6, some (.ref lf), some (.ref q), v9, v10, v11, v12, some (.ref ol), v14, v15, v16] ∧ Ex G9 G ∧ G ol = some (.lst ((ns.take ins ++ F).map V.str))) ?_ ?_
    · walk_at "ss"
      refine ⟨⟨_, SqL.of (e10 _ _ g9)⟩, forL (xs := us') (fun i σ' G => ∃ v6 v9 v10 v11 v12 v14 v15 v16 ol, σ' = [some (.ref b), some (.int (m : Int)), some (.int lp), some (.ref nl), some (.int (ins : Int)), some (.ref cd), v6, some (.ref lf), some (.ref q), v9, v10, v11, v12, some (.ref ol), v14, v15, v16] ∧ Ex G9 G ∧ G ol = some (.lst ((ns.take ins ++ (rs'.take i).flatMap Rw.tells).map V.str))) ⟨_, _, _, _, _, _, _, _, ol, rfl, e10, by rw [List.take_zero, List.flatMap_nil, List.append_nil]; exact g10⟩ (fun i σ' G _ ⟨_, _, _, _, _, _, _, _, _, _, h, _⟩ => SqL.of (h _ _ g9)) ?_ ?_⟩
      · rintro i x σ' G hx ⟨v6, v9, v10, v11, v12, v14, v15, v16, ol, rfl, eG, gG⟩
        obtain ⟨r, hr2, hRw⟩ := paired_ix hP9 hx
        have hrm := List.mem_of_getElem? hr2
        have hfl : ((rs'.take i).flatMap Rw.tells).length + r.tells.length ≤ F.length := by
          rw [← hF]
          conv => rhs; rw [split_at hr2]
          rw [List.flatMap_append, List.flatMap_cons, List.length_append, List.length_append]
          omega
        rw [List.length_append] at hNl
        walk_at "ss"
        refine ⟨r, _, rfl, hRw.up eG, (hok r hrm).nocall, fun tl' G2 htl f2 m2 => ?_⟩
        refine c_cat (f2 _ _ gG) m2 (fun o2 G3 ho2 f3 m3 => ?_) (by rw [List.length_map, List.length_map, List.length_append]; omega)
        walk_at "ss"
        refine ⟨_, _, _, _, _, _, _, _, o2, rfl, eG.trans (f2.trans f3), ?_⟩
        rw [m3, List.take_add_one, hr2, List.flatMap_append, ← List.append_assoc, List.map_append (l₁ := ns.take ins ++ (rs'.take i).flatMap Rw.tells)]
        show _ = some (HO.lst (_ ++ List.map V.str (List.flatMap Rw.tells [r])))
        rw [List.flatMap_singleton]
      · rintro σ' G ⟨v6, v9, v10, v11, v12, v14, v15, v16, ol, rfl, eG, gG⟩
        rw [← paired_len hP9, List.take_length, hF] at gG
        walk_at "ss"
        exact ⟨_, _, _, _, _, _, _, _, ol, rfl, eG, gG⟩
    rintro σ' G11 ⟨v6', v9', v10', v11', v12', v14', v15', v16', ol', rfl, e11, g11⟩
    have hD11 := hD9.up e11
    have X11 : ExB b H G11 := fun a o nb ha => by
      have h3 := X3 _ _ nb ha
      have ncd : a ≠ cd := fun z => by rw [z, hcd0] at ha; cases ha
      have h4 := x4 _ _ ncd h3
      have nlf : a ≠ lf := ne_of_none h4 hlf
      have nrl : a ≠ rl' := ne_of_none h4 hrl'
      have h7 := hR.ex _ _ (by simp [nb, nlf, ncd]) (e46 _ _ h4)
      have h8 := hS.ex _ _ (by simp [nb, nrl]) h7
      exact e11 _ _ (x9 _ _ nb h8)
    have nob : ol' ≠ b := left_nb hD11.box g11
    walk_at "ss"
    intro fd hfd
    have e12 : Ex G11 (upd G11 fd (.dK [])) := Ex.new hfd
    have g12 : upd G11 fd (.dK []) fd = some (.dK []) := upd_same
    have hfdH : H fd = none := freshB X11 hD11.box hfd
    have nof : ol' ≠ fd := ne_of_none g11 hfd
    generalize upd G11 fd (.dK []) = G12 at e12 g12
    have hD12 := hD11.up e12
    walk_at "ss"
    refine c_cut (M := fun σ' G => (∃ v6 v9 v10 v11 v12 v14 v16, σ' = [some (.ref b), some (.int (m : Int)), some (.int lp), some (.ref nl), some (.int (ins : Int)), some (.ref cd), v6, some (.ref lf), some (.ref q), v9, v10, v11, v12, some (.ref ol'), v14, some (.ref fd), v16]) ∧ ExB fd G12 G ∧ CksAt G fd (ns.take ins ++ F) ck) ?_ ?_
    · walk_at "ss"
      refine ⟨⟨_, SqL.of (e12 _ _ g11)⟩, forL (xs := (ns.take ins ++ F).map V.str) (fun i σ' G => (∃ v6 v9 v10 v11 v12 v14 v16, σ' = [some (.ref b), some (.int (m : Int)), some (.int lp), some (.ref nl), some (.int (ins : Int)), some (.ref cd), v6, some (.ref lf), some (.ref q), v9, v10, v11, v12, some (.ref ol'), v14, some (.ref fd), v16]) ∧ ExB fd G12 G ∧ CksAt G fd ((ns.take ins ++ F).take i) ck) ⟨⟨_, _, _, _, _, _, _, rfl⟩, ExB.refl _ _, [], g12, rfl, fun s hs => by cases hs⟩ (fun i σ' G _ q => SqL.of (q.2.1 _ _ nof (e12 _ _ g11))) ?_ ?_⟩
      · rintro i x σ' G hx ⟨⟨v6, v9, v10, v11, v12, v14, v16, rfl⟩, xG, cG⟩
        rw [List.getElem?_map] at hx
        obtain ⟨s, hs, rfl⟩ := Option.map_eq_some_iff.mp hx
        obtain ⟨kv2, p2, gk2, pv2, pt2⟩ := hD12.get ((hNU s).mp (List.mem_of_getElem? hs))
        have ncf : cd ≠ fd := ne_of_none (hD11.get ((hNU s).mp (List.mem_of_getElem? hs))).choose_spec.choose_spec.1 hfd
        obtain ⟨kv, gk, hk2, hk3⟩ := id cG
        have hkl : kv.length ≤ 40 := by
          have := congrArg List.length hk2
          rw [List.length_map, List.length_map, List.length_take] at this
          omega
        walk_at "ss"
        refine ⟨cd, _, rfl, by rw [← pv2]; exact dgetK (xG _ _ ncf gk2), ?_⟩
        walk_at "ss"
        refine ⟨fd, _, rfl, .inl ⟨_, .inr s, gk, rfl, Evl.sz_lt (by omega), rfl⟩, ?_⟩
        have hput := cG.put (n := s) (p := p2) gk (xG _ _ (ne_of pt2 g12 (fun z => by cases z)) pt2)
        have hni : s ∉ (ns.take ins ++ F).take i := fun z => nodup_at hNn hs z (Nat.le_refl _) rfl
        rw [if_neg hni] at hput
        walk_at "ss"
        refine ⟨⟨_, _, _, _, _, _, _, rfl⟩, xG.trans ExB.upd, ?_⟩
        rw [List.take_add_one, hs]
        exact hput
      · rintro σ' G ⟨⟨v6, v9, v10, v11, v12, v14, v16, rfl⟩, xG, cG⟩
        rw [List.length_map, List.take_length] at cG
        walk_at "ss"
        exact ⟨⟨_, _, _, _, _, _, _, rfl⟩, xG, cG⟩
    rintro σ' G13 ⟨⟨v6, v9, v10, v11, v12, v14, v16, rfl⟩, x13, c13⟩
    have b13 : BoxAt G13 b := by
      obtain ⟨x, y, z, h0, hb⟩ := hD12.box
      exact ⟨x, y, z, h0, x13 _ _ (ne_of hb g12 (fun z => by cases z)) hb⟩
    have X13 : ExB b H G13 := fun a o nb ha => x13 _ _ (ne_of_none ha hfdH) (e12 _ _ (X11 _ _ nb ha))
    have gol := x13 _ _ nof (e12 _ _ g11)
    have nnf : nl ≠ fd := ne_of_none (e11 _ _ gn9) hfd
    have nqf : q ≠ fd := ne_of_none (e11 _ _ g9) hfd
    have gn13 := x13 _ _ nnf (e12 _ _ (e11 _ _ gn9))
    have gq13 := x13 _ _ nqf (e12 _ _ (e11 _ _ g9))
    have t13 : TupK G9 G13 := fun a xs ha => x13 _ _ (ne_of_none (e11 _ _ ha) hfd) (e12 _ _ (e11 _ _ ha))
    walk_at "ss"
    refine ⟨ol', _, rfl, .inl (SqL.of gol), ?_⟩
    walk_at "ss"
    have hti : (ns.take ins).length = ins := by rw [List.length_take]; omega
    have hlN : ((ns.take ins ++ F).map V.str).length = ins + F.length := by rw [List.length_map, List.length_append, hti]
    refine ⟨b, _, rfl, b13, by rw [hlN]; omega, by rw [hlN]; omega, fun d G14 h0 h1 x14 b14 => ?_⟩
    rw [hlN] at h1
    have hFp : F.length + ins = ns.length := by omega
    obtain ⟨on, hat, honF⟩ := at_right (A := ns.take ins) (F := F) h0 (by omega)
    rw [hti] at hat
    walk_at "ss"
    refine c_ixL (SqL.of (x14 _ _ nob gol)) hat ?_
    walk_at "ss"
    refine newT fun ot G15 hot e15 g15 => ?_
    walk_at "ss"
    have gn15 := e15 _ _ (x14 _ _ nnb gn13)
    refine c_slTake gn15 fun sl G16 hsl e16 g16 => ?_
    walk_at "ss"
    refine ⟨_, _, rfl, .inl ⟨SqL.of g16, fun tp hp => ?_⟩⟩
    have e17 : Ex G16 (upd G16 tp (.tup ((ns.take ins).map V.str))) := Ex.new hp
    have g17 : upd G16 tp (.tup ((ns.take ins).map V.str)) tp = some (.tup ((ns.take ins).map V.str)) := upd_same
    generalize upd G16 tp (.tup ((ns.take ins).map V.str)) = G17 at e17 g17
    have nqb : q ≠ b := fresh_nb hS.dr.box hq
    have gq17 := e17 _ _ (e16 _ _ (e15 _ _ (x14 _ _ nqb gq13)))
    walk_at "ss"
    refine ⟨_, _, rfl, .inl ⟨SqL.of gq17, fun tr htr => ?_⟩⟩
    have e18 : Ex G17 (upd G17 tr (.tup us')) := Ex.new htr
    have g18 : upd G17 tr (.tup us') tr = some (.tup us') := upd_same
    generalize upd G17 tr (.tup us') = G18 at e18 g18
    walk_at "ss"
    refine newT fun u G19 hu e19 g19 => ?_
    walk_at "ss"
    refine newT fun z G20 hz e20 g20 => ?_
    walk_at "ss"
    have E14 : Ex G14 G20 := e15.trans (e16.trans (e17.trans (e18.trans (e19.trans e20))))
    have t14 : TupK G13 G14 := fun a xs ha => x14 _ _ (box_ne b13 ha (fun _ _ _ z => by cases z)) ha
    have t20 : TupK G9 G20 := TupK.trans t13 (TupK.trans t14 (TupK.of E14))
    obtain ⟨kvf, gkf, _⟩ := id c13
    have nfb : fd ≠ b := box_ne b13 gkf (fun _ _ _ z => by cases z)
    have cE : CksAt G20 fd (ns.take ins ++ F) ck := c13.tu (TupK.trans t14 (TupK.of E14)) (by rw [gkf]; exact E14 _ _ (x14 _ _ nfb gkf))
    subst hF
    refine k ⟨"nq", ns.take ins, [on], rs'⟩ ck (.ref u) fd z G20 ?_ ⟨u, tp, ot, tr, us', rfl, e20 _ _ g19, (e18.trans (e19.trans e20)) _ _ g17, (e16.trans (e17.trans (e18.trans (e19.trans e20)))) _ _ g15, (e19.trans e20) _ _ g18, paired_up (fun r u h => h.tu t20) hP9⟩ cE hfdH g20 (X13.trans (x14.trans (ExB.of E14))) (b14.ex E14)
    refine ⟨⟨nq_ok, by rw [hti]; omega, by rw [hti]; omega, fun s hs => hgn s (List.mem_of_mem_take hs), by simp, by simp, fun s hs => ?_, by simp, hNn, Nat.le_trans hNl (by decide), Nat.le_trans hl43 (by decide), fun r hr => ⟨(hok r hr).good, (hok r hr).pl, fun s hs => (hNU s).mpr ((hok r hr).names s hs)⟩⟩, fun r hr => (hok r hr).nocall, rfl, fun r hr => ⟨(hok r hr).good, (hok r hr).nocall, (hok r hr).pl, fun s hs => (hNU s).mpr ((hok r hr).names s hs), (hok r hr).ck⟩, fun s hs => ?_, hNl⟩
    · have es : s = on := by simpa using hs
      subst es
      exact ⟨hD9.good s (List.mem_append_left _ (List.mem_append_right _ (htells.mem_iff.mp honF))), honF⟩
    · have h := hD9.ckg s ((hNU s).mp hs)
      exact ⟨Nat.le_trans h.1 hUl, fun z hz => (hNU z).mpr (h.2 z hz)⟩

/-! ### how many names; dicts of lists; what the law reads -/
open TL (tl)
def sp_many_l : Sp := fun vs H Q _ => ∃ (b : Addr), vs = [.ref b] ∧ BoxAt H b ∧ ∀ (m : Nat) H2, 2 ≤ m → m ≤ 40 → ExB b H H2 → BoxAt H2 b → Q (.int (m : Int)) H2
theorem many4 {d1 d2 d3 d : Int} (h10 : 0 ≤ d1) (h11 : d1 < 5) (h20 : 0 ≤ d2) (h21 : d2 < 16) (h30 : 0 ≤ d3) (h31 : d3 < 16) (h0 : 0 ≤ d) (h1 : d < 4) : ∃ v : Int, atI ([.int d1, .int d2, .int d3, .int 38] : List V) d = some (.int v) ∧ 0 ≤ v ∧ v ≤ 38 := by
  have : d = 0 ∨ d = 1 ∨ d = 2 ∨ d = 3 := by omega
  rcases this with rfl | rfl | rfl | rfl
  · exact ⟨_, rfl, by omega, by omega⟩
  · exact ⟨_, rfl, by omega, by omega⟩
  · exact ⟨_, rfl, by omega, by omega⟩
  · exact ⟨_, rfl, by omega, by omega⟩
theorem ok_many_l (T : Txt K mg Z) : FnOk P w K mg base CX0 2 Z.f_many_l Z.fd_many_l ["_law_box_here"] sp_many_l := by
  have G_take_l := ok_take_l (P := P) (w := w) (base := base) T
  refine T.F_many_l.ok sc_many_l (fun vs H Q E h => ?_) (fun cdv AA outer s H vs Q E hr h => ?_)
  · obtain ⟨b, rfl, _⟩ := h
    rfl
  · obtain ⟨b, rfl, hB, k⟩ := h
    refine ⟨_, (pss_one (ps_ret (pe_op op_add pe_int (pe_ix ix_list (pe_lst (pa_cons (pe_call G_take_l (hr.mono (by omega)) rfl T.g_take_l T.F_take_l.kp T.b_take_l .nil pass0 (pa_cons (pv 0) (pa_cons pe_int pa_nil))) (pa_cons (pe_call G_take_l (hr.mono (by omega)) rfl T.g_take_l T.F_take_l.kp T.b_take_l .nil pass0 (pa_cons (pv 0) (pa_cons pe_int pa_nil))) (pa_cons (pe_call G_take_l (hr.mono (by omega)) rfl T.g_take_l T.F_take_l.kp T.b_take_l .nil pass0 (pa_cons (pv 0) (pa_cons pe_int pa_nil))) (pa_cons pe_int pa_nil))))) (pe_call G_take_l (hr.mono (by omega)) rfl T.g_take_l T.F_take_l.kp T.b_take_l .nil pass0 (pa_cons (pv 0) (pa_cons pe_int pa_nil))) (fun _ _ => rfl))))), ?_⟩
    walk_at "ss"
    refine ⟨b, 5, rfl, hB, by decide, by decide, fun d1 H1 h10 h11 x1 b1 => ?_⟩
    walk_at "ss"
    refine ⟨b, 16, rfl, b1, by decide, by decide, fun d2 H2 h20 h21 x2 b2 => ?_⟩
    walk_at "ss"
    refine ⟨b, 16, rfl, b2, by decide, by decide, fun d3 H3 h30 h31 x3 b3 => ?_⟩
    walk_at "ss"
    refine newL fun vl H4 hvl e4 g4 => ?_
    walk_at "ss"
    refine ⟨b, 4, rfl, b3.up e4, by decide, by decide, fun d H5 h0 h1 x5 b5 => ?_⟩
    obtain ⟨v, hv, hv0, hv1⟩ := many4 h10 h11 h20 h21 h30 h31 h0 h1
    refine c_ixL (SqL.of (x5 _ _ (fresh_nb b3 hvl) g4)) hv ?_
    walk_at "ss"
    obtain ⟨m, hm⟩ : ∃ m : Nat, 2 + v = (m : Int) := ⟨(2 + v).toNat, by omega⟩
    rw [hm]
    exact k m H5 (by omega) (by omega) (x1.trans (x2.trans (x3.trans ((ExB.of e4).trans x5)))) b5
/-- a dict from names to lists of names -/
def LsAt (H : Hp) (d : Addr) (U : List Str) (f : Str → List Str) : Prop := ∃ kv, H d = some (.dK kv) ∧ kv.map (·.1) = U.map (Sum.inr : Str → Key) ∧ ∀ s ∈ U, ∃ p, valV kv (.inr s) = some (.ref p) ∧ H p = some (.lst ((f s).map V.str))
section
variable {H G : Hp} {d p : Addr} {U : List Str} {f g : Str → List Str}
theorem LsAt.up (h : LsAt H d U f) (e : Ex H G) : LsAt G d U f := by
  obtain ⟨kv, h1, h2, h3⟩ := h
  refine ⟨kv, e _ _ h1, h2, fun s hs => ?_⟩
  obtain ⟨p, q1, q2⟩ := h3 s hs
  exact ⟨p, q1, e _ _ q2⟩
theorem LsAt.congr (h : LsAt H d U f) (e : ∀ s ∈ U, g s = f s) : LsAt H d U g := by
  obtain ⟨kv, h1, h2, h3⟩ := h
  exact ⟨kv, h1, h2, fun s hs => by rw [e s hs]; exact h3 s hs⟩
theorem LsAt.oth (h : LsAt H d U f) {a : Addr} {o : HO} (na : a ≠ d) (nl : ∀ xs, H a ≠ some (.lst xs)) : LsAt (upd H a o) d U f := by
  obtain ⟨kv, h1, h2, h3⟩ := h
  refine ⟨kv, by rw [upd_ne na.symm]; exact h1, h2, fun s hs => ?_⟩
  obtain ⟨p, q1, q2⟩ := h3 s hs
  exact ⟨p, q1, by rw [upd_ne (fun z => nl _ (by rw [← z]; exact q2))]; exact q2⟩
theorem LsAt.put {kv : List (Key × V)} {n : Str} (h : LsAt H d U f) (hk : H d = some (.dK kv)) (hp : H p = some (.lst ((g n).map V.str))) (hg : ∀ s ∈ U, s ≠ n → g s = f s) : LsAt (upd H d (.dK (putK kv (.inr n) (.ref p)))) d (if n ∈ U then U else U ++ [n]) g := by
  obtain ⟨kv', h1, h2, h3⟩ := h
  rw [hk] at h1
  cases h1
  have np : p ≠ d := ne_of hp hk (fun z => by cases z)
  have hval : ∀ s, (s = n ∨ s ∈ U) → ∃ q, valV (putK kv (.inr n) (.ref p)) (.inr s) = some (.ref q) ∧ upd H d (.dK (putK kv (.inr n) (.ref p))) q = some (.lst ((g s).map V.str)) := fun s hs => by
    rw [valV_put]
    by_cases e : s = n
    · subst e
      rw [if_pos rfl]
      exact ⟨p, rfl, by rw [upd_ne np]; exact hp⟩
    · rw [if_neg (fun z => e (Sum.inr.inj z))]
      obtain ⟨q, q1, q2⟩ := h3 s (hs.resolve_left e)
      exact ⟨q, q1, by rw [upd_ne (ne_of q2 hk (fun z => by cases z)), hg s (hs.resolve_left e) e]; exact q2⟩
  by_cases hn : n ∈ U
  · rw [if_pos hn]
    exact ⟨_, upd_same, by rw [putK_keys (by rw [h2]; exact List.mem_map.mpr ⟨n, hn, rfl⟩), h2], fun s hs => hval s (.inr hs)⟩
  · rw [if_neg hn]
    refine ⟨_, upd_same, ?_, fun s hs => hval s ((List.mem_append.mp hs).symm.imp (by simp) id)⟩
    rw [putK_fresh (by
      rw [h2]
      intro hm
      obtain ⟨z, hz, he⟩ := List.mem_map.mp hm
      cases Sum.inr.inj he
      exact hn hz), List.map_append, h2, List.map_append]
    rfl
theorem LsAt.len (h : LsAt H d U f) {kv : List (Key × V)} (hk : H d = some (.dK kv)) : kv.length = U.length := by
  obtain ⟨kv', h1, h2, h3⟩ := h
  rw [hk] at h1
  cases h1
  have := congrArg List.length h2
  rwa [List.length_map, List.length_map] at this
theorem DLs.oth {ls : List Addr} {a : Addr} {o : HO} (h : DLs H d U ls f) (na : a ≠ d) (nl : a ∉ ls) : DLs (upd H a o) d U ls f := by
  obtain ⟨h1, h2, h3⟩ := h
  refine ⟨h1, by rw [upd_ne na.symm]; exact h2, fun i s p hs hp => ?_⟩
  rw [upd_ne (fun z => nl (by rw [← z]; exact List.mem_of_getElem? hp))]
  exact h3 i s p hs hp
end
theorem exB_back {r : Addr} {H G : Hp} {u : HO} (hr : H r = some u) (x : ExB r H G) : Ex H (upd G r u) := fun a o ha => by
  by_cases h : a = r
  · subst h
    rw [upd_same, ← ha, hr]
  · rw [upd_ne h]
    exact x a o h ha
theorem c_slLast {H : Hp} {Q : VK} {a : Addr} {l : List Str} (h : H a = some (.lst (l.map V.str))) (k : RetL ((lastS l).map V.str) H Q) : rSlL K (.ref a) (some (-1)) none H Q := by
  refine ⟨a, _, rfl, SqL.of h, fun p hp => ?_⟩
  rw [cut_last]
  exact k p _ hp (Ex.new hp) upd_same
theorem CksAt.keys {H : Hp} {cd : Addr} {U : List Str} {ck : Str → List Str} (h : CksAt H cd U ck) : ∃ kv, H cd = some (.dK kv) ∧ kv.length = U.length ∧ kv.map (·.1) = U.map (Sum.inr : Str → Key) ∧ (∀ s ∈ U, ∃ p, valV kv (.inr s) = some (.ref p) ∧ H p = some (.tup ((ck s).map V.str))) ∧ ∀ (i : Nat) (key : Key) (v : V), kv[i]? = some (key, v) → ∃ s, U[i]? = some s ∧ key = .inr s := by
  obtain ⟨kv, h1, h2, h3⟩ := h
  refine ⟨kv, h1, by have := congrArg List.length h2; rwa [List.length_map, List.length_map] at this, h2, h3, fun i key v hk => ?_⟩
  have e := congrArg (fun l => l[i]?) h2
  simp only [List.getElem?_map, hk, Option.map_some] at e
  cases hu : U[i]? with
  | none => rw [hu] at e; cases e
  | some s => rw [hu] at e; exact ⟨s, rfl, by simpa using e⟩
theorem some_up {G G2 : Hp} {sd a : Addr} {kv : List (Key × V)} {N : List Str} {ck : Str → List Str} {rs : List Rw} {r : Rw} {s : Str} (h : LsAt G sd N (someBy ck rs)) (e : Ex G G2) (hk : G2 sd = some (.dK kv)) (hs : s ∈ N) (ht : r.tells = [s]) (ha : G2 a = some (.lst ((someBy ck rs s ++ r.now).map V.str))) : LsAt (upd G2 sd (.dK (putK kv (.inr s) (.ref a)))) sd N (someBy ck (rs ++ [r])) := by
  have h2 := (h.up e).put (n := s) (p := a) (g := someBy ck (rs ++ [r])) hk (by rw [some_snoc, ht, if_pos (by simp)]; exact ha) (fun z hz hn => by rw [some_snoc, ht, if_neg (by simp [hn]), List.append_nil])
  rwa [if_pos hs] at h2
theorem some_id {G : Hp} {sd : Addr} {N : List Str} {ck : Str → List Str} {rs : List Rw} {r : Rw} (h : LsAt G sd N (someBy ck rs)) (ht : r.now = []) : LsAt G sd N (someBy ck (rs ++ [r])) := h.congr fun s _ => by
  rw [some_snoc, ht]
  simp
theorem strs_okf (l : List Str) : (l.map V.str).all flatV = true := by
  rw [List.all_map, List.all_eq_true]
  exact fun _ _ => rfl

/-! ### what a node reads, by the law -/
open TL (tl)
theorem c_catW {H : Hp} {Q : VK} {l b : Addr} {xs zs : List V} (h : H l = some (.lst xs)) (h' : H b = some (.lst zs)) (k : RetL (xs ++ zs) H Q) (hz : xs.length + zs.length ≤ 16000000) : rCat (.ref l) (.ref b) H Q :=
  ⟨l, b, xs, zs, rfl, rfl, h, h', by rw [sizeLine_eq]; omega, fun p hp => k p _ hp (Ex.new hp) upd_same⟩
def sp_reads_l : Sp := fun vs H Q _ => ∃ n u cd ck, vs = [u, .ref cd] ∧ NdT H n u ∧ n.good ∧ n.nocalls ∧ CksAt H cd n.names ck ∧ (∀ s ∈ n.names, (ck s).length ≤ 1000) ∧ ∀ d ls H2, Ex H H2 → H d = none → (∀ a ∈ ls, H a = none) → ls.Nodup → d ∉ ls → DLs H2 d n.names ls (readsBy ck n) → Q (.ref d) H2
theorem ok_reads_l (T : Txt K mg Z)  : FnOk P w K mg base CX0 (8) Z.f_reads_l Z.fd_reads_l ["_law_told", "_law_clocks"] sp_reads_l := by
  refine T.F_reads_l.ok sc_reads_l (fun vs H Q E h => ?_) (fun cdv AA outer s H vs Q E hr h => ?_)
  · obtain ⟨n, u, cd, ck, rfl, _⟩ := h
    rfl
  · obtain ⟨n, u, cd, ck, rfl, hN, hg, hnc, hck, hcl, k⟩ := h
    have G_within_l := okn_tnl (P := P) (w := w) (base := base) T 6
    have hnd := hg.all
    have hn1 := hg.all1
    have hr1 := hg.row1
    obtain ⟨kv, gcd, hkl, hkeys, hkv, hkat⟩ := hck.keys
    obtain ⟨ta, tp, tq, tt, us, rfl, gta, gtp, gtq, gtt, hrw⟩ := hN
    refine ⟨_, (pss_cons (ps_set (i := 2) sc_reads_l.nd rfl (Or.inr rfl) pe_dnewK)
      (Evl.pss_cut (ps_lock (ps_for PassesOwn.never rfl (pi_keys (pv 1)) (pg_name (i := 3) sc_reads_l.nd rfl (Or.inr rfl)) (pss_one (ps_dput (hu_of hr) (pv 2) (pv 3) (pe_slice sl_list (pe_callTy call_list_of (by rfl) T.n_list (by decide +kernel) (pa_cons (pe_dget (hu_of hr) (pv 1) (pv 3) (fun _ _ => rfl)) pa_nil)) (po_some (pe_un un_neg pe_int)) po_none) rfl))))
      (Evl.pss_cut (ps_for PassesOwn.never rfl (pi_tup (pe_ix ix_tup (pv 0) pe_int (fun _ _ => rfl))) (pg_name (i := 4) sc_reads_l.nd rfl (Or.inl rfl)) (pss_cons (ps_if (pt_cmpR op_eq (pe_ix ix_tup (pv 4) pe_int (fun _ _ => rfl)) pe_str (nomark _)) (pss_one (ps_dput (hu_of hr) (pv 2) (pe_ix ix_tup (pv 4) pe_int (fun _ _ => rfl)) (pe_op op_cat (pe_dget (hu_of hr) (pv 2) (pe_ix ix_tup (pv 4) pe_int (fun _ _ => rfl)) (fun _ _ => rfl)) (pe_call G_within_l (hr.mono (by omega)) rfl T.g_within_l T.F_within_l.kp T.b_within_l .nil pass0 (pa_cons (pe_ix ix_tup (pv 4) pe_int (fun _ _ => rfl)) pa_nil))) rfl)) pss_nil)
      (pss_cons (ps_if (pt_cmpR op_eq (pe_ix ix_tup (pv 4) pe_int (fun _ _ => rfl)) pe_str (nomark _)) (pss_one (ps_dput (hu_of hr) (pv 2) (pe_ix ix_tup (pv 4) pe_int (fun _ _ => rfl)) (pe_op op_cat (pe_dget (hu_of hr) (pv 2) (pe_ix ix_tup (pv 4) pe_int (fun _ _ => rfl)) (fun _ _ => rfl)) (pe_lst (pa_cons (pe_ix ix_tup (pv 4) pe_int (fun _ _ => rfl)) (pa_cons (pe_ix ix_tup (pv 4) pe_int (fun _ _ => rfl)) pa_nil)))) rfl)) pss_nil)
      (pss_one (ps_if (pt_cmpR op_eq (pe_ix ix_tup (pv 4) pe_int (fun _ _ => rfl)) pe_str (nomark _)) (pss_one (ps_dput (hu_of hr) (pv 2) (pe_ix ix_tup (pv 4) pe_int (fun _ _ => rfl)) (pe_op op_cat (pe_dget (hu_of hr) (pv 2) (pe_ix ix_tup (pv 4) pe_int (fun _ _ => rfl)) (fun _ _ => rfl)) (pe_lst (pa_cons (pe_ix ix_tup (pv 4) pe_int (fun _ _ => rfl)) pa_nil))) rfl)) pss_nil)))))
      (pss_cons (ps_set (i := 5) sc_reads_l.nd rfl (Or.inl rfl) pe_dnewK)
      (Evl.pss_cut (ps_lock (ps_for PassesOwn.never rfl (pi_keys (pv 1)) (pg_name (i := 3) sc_reads_l.nd rfl (Or.inr rfl)) (pss_one (ps_dput (hu_of hr) (pv 5) (pv 3) (pe_lc (own := [("_law_other", 6)]) (g := (gName 6)) (tt := (tTest (tOp (rIn K false) (tVar 6) (tDGet (tVar 2) (tVar 3))))) (te := (tVar 6)) rfl sc_reads_l.nd (pi_keys (pv 1)) (blkOk_by (own := [("_law_other", 6)]) (N := N_reads_l) (sc := defScope s_reads_l) (by decide +kernel)) (fun _ _ _ _ _ => (pg_name (i := 6) sc_reads_l.nd rfl (Or.inl rfl))) (fun _ _ _ _ _ => (pts_one (pt_cmpR op_in_seq (pv 6) (pe_dget (hu_of hr) (pv 2) (pv 3) (fun _ _ => rfl)) (by rfl)))) (fun _ _ _ _ _ => (pv 6))) rfl))))
      (pss_one (ps_ret (pv 5)))))))), ?_⟩
    walk_at "ss"
    intro sd hsd
    have e1 : Ex H (upd H sd (.dK [])) := Ex.new hsd
    have g1 : upd H sd (.dK []) sd = some (.dK []) := upd_same
    generalize upd H sd (.dK []) = H1 at e1 g1
    have ncs : cd ≠ sd := ne_of_none gcd hsd
    walk_at "ss"
    refine c_cut (M := fun σ' G => (∃ v3 v4 v5 v6, σ' = [some (.ref ta), some (.ref cd), some (.ref sd), v3, v4, v5, v6]) ∧ Ex H G ∧ LsAt G sd n.names (someBy ck [])) ?_ ?_
    · walk_at "ss"
      refine c_lock (e1 _ _ gcd) trivial fun od => ?_
      walk_at "ss"
      refine ⟨cd, od, rfl, .inl ⟨_, upd_same, ?_⟩⟩
      refine forK (fun i σ' G => (∃ v3 v4 v5 v6, σ' = [some (.ref ta), some (.ref cd), some (.ref sd), v3, v4, v5, v6]) ∧ ExB cd H G ∧ G cd = some (.frz od (.dK kv)) ∧ LsAt G sd (n.names.take i) (someBy ck []))
        ⟨⟨_, _, _, _, rfl⟩, fun a o na ha => by rw [upd_ne na]; exact e1 _ _ ha, upd_same, [], by rw [upd_ne ncs.symm]; exact g1, rfl, fun s hs => by cases hs⟩ (fun i σ' G _ q => q.2.2.1) ?_ ?_
      · rintro i key v σ' G hk ⟨⟨v3, v4, v5, v6, rfl⟩, xG, gG, hL⟩
        obtain ⟨s, hs, rfl⟩ := hkat i key v hk
        have hsN := List.mem_of_getElem? hs
        have hil := (List.getElem?_eq_some_iff.mp hs).1
        obtain ⟨p, hp1, hp2⟩ := hkv s hsN
        rw [show kV (Sum.inr s : Key) = V.str s from rfl]
        walk_at "ss"
        refine ⟨cd, _, rfl, by rw [← hp1]; exact dgetZ gG, ?_⟩
        walk_at "ss"
        refine ⟨_, _, rfl, .inr (SqT.of (xG _ _ (ne_of hp2 gcd (fun z => by cases z)) hp2)), fun la hla => ?_⟩
        have f3 : Ex G (upd G la (.lst ((ck s).map V.str))) := Ex.new hla
        have g3 : upd G la (.lst ((ck s).map V.str)) la = some (.lst ((ck s).map V.str)) := upd_same
        generalize upd G la (.lst ((ck s).map V.str)) = G3 at f3 g3
        walk_at "ss"
        refine c_slLast g3 fun lb G4 hlb f4 g4 => ?_
        have f34 := f3.trans f4
        obtain ⟨kvs, gsd, _⟩ := id hL
        have hkl2 := hL.len gsd
        rw [List.length_take] at hkl2
        walk_at "ss"
        refine ⟨sd, _, rfl, .inl ⟨_, .inr s, f34 _ _ gsd, rfl, Evl.sz_lt (by omega), rfl⟩, ?_⟩
        have hput := (hL.up f34).put (n := s) (p := lb) (g := someBy ck []) (f34 _ _ gsd) (by rw [g4]; unfold someBy; simp) (fun z _ _ => rfl)
        rw [if_neg (fun z => nodup_at hnd hs z (Nat.le_refl _) rfl)] at hput
        walk_at "ss"
        refine ⟨⟨_, _, _, _, rfl⟩, exB_put (xG.trans (ExB.of f34)) hsd, by rw [upd_ne ncs]; exact f34 _ _ gG, ?_⟩
        rw [List.take_add_one, hs]
        exact hput
      · rintro σ' G ⟨⟨v3, v4, v5, v6, rfl⟩, xG, gG, hL⟩
        rw [hkl, List.take_length] at hL
        refine ⟨gG, ?_⟩
        walk_at "ss"
        refine ⟨⟨_, _, _, _, rfl⟩, exB_back gcd xG, hL.oth ncs (fun xs z => by rw [gG] at z; cases z)⟩
    rintro σ' G1 ⟨⟨v3, v4, v5, v6, rfl⟩, x1, hL1⟩
    walk_at "ss"
    refine c_cut (M := fun σ' G => (∃ v3 v4 v5 v6, σ' = [some (.ref ta), some (.ref cd), some (.ref sd), v3, v4, v5, v6]) ∧ Ex H G ∧ LsAt G sd n.names (someBy ck n.rows)) ?_ ?_
    · walk_at "ss"
      refine c_ixT (SqT.of (x1 _ _ gta)) rfl ?_
      refine ⟨tt, rfl, ⟨_, SqT.of (x1 _ _ gtt)⟩, forT (xs := us) (fun i σ' G => (∃ v3 v4 v5 v6, σ' = [some (.ref ta), some (.ref cd), some (.ref sd), v3, v4, v5, v6]) ∧ Ex H G ∧ LsAt G sd n.names (someBy ck (n.rows.take i))) ⟨⟨_, _, _, _, rfl⟩, x1, by rw [List.take_zero]; exact hL1⟩ (fun i σ' G _ q => SqT.of (q.2.1 _ _ gtt)) ?_ ?_⟩
      · rintro i x σ' G hx ⟨⟨v3, v4, v5, v6, rfl⟩, eG, hL⟩
        obtain ⟨r, hr2, hR0⟩ := paired_ix hrw hx
        have hrm := List.mem_of_getElem? hr2
        have hR := hR0.up eG
        have hrg := (hg.row r hrm).1
        have hrc := hnc r hrm
        have etk : n.rows.take (i + 1) = n.rows.take i ++ [r] := by rw [List.take_add_one, hr2]; rfl
        obtain ⟨kvs, gsd, _, hkvs⟩ := id hL
        have hkl2 := hL.len gsd
        have hsl : ∀ s, (someBy ck (n.rows.take i) s).length ≤ 1 + 300 * 729 := fun s => by
          have h1 := some_len (ck := ck) (s := s) (rs := n.rows.take i) fun q hq => (hg.row q (List.mem_of_mem_take hq)).1
          have h2 : (n.rows.take i).length ≤ 300 := by rw [List.length_take]; omega
          have h3 : (n.rows.take i).length * 729 ≤ 300 * 729 := Nat.mul_le_mul_right _ h2
          omega
        have htN : ∀ s ∈ r.tells, s ∈ n.names := fun s hs => List.mem_append_right _ (List.mem_flatMap.mpr ⟨r, hrm, hs⟩)
        have fin : ∀ G2, Ex G G2 → LsAt G2 sd n.names (someBy ck (n.rows.take i)) → r.now = [] → Ex H G2 ∧ LsAt G2 sd n.names (someBy ck (n.rows.take (i + 1))) := fun G2 f2 h2 hnow => ⟨eG.trans f2, by rw [etk]; exact some_id h2 hnow⟩
        cases r with
        | pl s t =>
          obtain ⟨a, w0, rfl, ha, ht⟩ := hR
          have hsN := htN s (by simp [Rw.tells])
          obtain ⟨q0, hq1, hq2⟩ := hkvs s hsN
          have hnl := now_len hrg
          have hs1 := hsl s
          walk_at "ss"
          refine c_ixT (SqT.of ha) rfl ?_
          walk_at "ss"
          rw [str_eq rfl]
          walk_at "ss"
          refine c_ixT (SqT.of ha) rfl ?_
          refine ⟨sd, _, rfl, by rw [← hq1]; exact dgetK gsd, ?_⟩
          walk_at "ss"
          refine c_ixT (SqT.of ha) rfl ?_
          refine ⟨t, w0, rfl, ht, hrg.2.1, by have := hrg.2.2; omega, by have := hrg.2.2; omega, fun lw F1 hlw f1 m1 => ?_⟩
          refine c_catW (f1 _ _ hq2) m1 (fun lc F2 hlc f2 m2 => ?_) (by rw [List.length_map, List.length_map]; have : t.flat.length ≤ 729 := hnl; omega)
          have f12 := f1.trans f2
          walk_at "ss"
          refine c_ixT (SqT.of (f12 _ _ ha)) rfl ?_
          refine ⟨sd, _, rfl, .inl ⟨_, .inr s, f12 _ _ gsd, rfl, Evl.sz_lt (by omega), rfl⟩, ?_⟩
          have ha5 : upd F2 sd (.dK (putK kvs (.inr s) (.ref lc))) a = some (.tup [.str "plain", .str s, w0]) := by rw [upd_ne (ne_of (f12 _ _ ha) (f12 _ _ gsd) (fun z => by cases z))]; exact f12 _ _ ha
          have hL5 := some_up (r := .pl s t) hL f12 (f12 _ _ gsd) hsN rfl (by rw [List.map_append]; exact m2)
          have E5 : Ex H (upd F2 sd (.dK (putK kvs (.inr s) (.ref lc)))) := Ex.mut (eG.trans f12) hsd
          generalize upd F2 sd (.dK (putK kvs (.inr s) (.ref lc))) = G5 at ha5 hL5 E5 ⊢
          walk_at "ss"
          refine c_ixT (SqT.of ha5) rfl ?_
          walk_at "ss"
          rw [str_ne (x := "plain") (y := "when") (by decide +kernel)]
          walk_at "ss"
          refine c_ixT (SqT.of ha5) rfl ?_
          walk_at "ss"
          rw [str_ne (x := "plain") (y := "hold") (by decide +kernel)]
          walk_at "ss"
          exact ⟨⟨_, _, _, _, rfl⟩, E5, by rw [etk]; exact hL5⟩
        | vd kk s v x =>
          obtain ⟨a, rfl, ha⟩ := hR
          have hsN := htN s (by simp [Rw.tells])
          obtain ⟨q0, hq1, hq2⟩ := hkvs s hsN
          have hs1 := hsl s
          walk_at "ss"
          refine c_ixT (SqT.of ha) rfl ?_
          walk_at "ss"
          rw [str_ne (x := vword kk) (y := "plain") vw_ne]
          walk_at "ss"
          refine c_ixT (SqT.of ha) rfl ?_
          walk_at "ss"
          rw [str_ne (x := vword kk) (y := "when") (vw_no (by decide +kernel) (by decide +kernel) (by decide +kernel))]
          walk_at "ss"
          refine c_ixT (SqT.of ha) rfl ?_
          walk_at "ss"
          rcases kk with _ | _ | kk
          · rw [str_ne (x := vword 0) (y := "hold") (by decide +kernel)]
            walk_at "ss"
            exact ⟨⟨_, _, _, _, rfl⟩, fin G (Ex.refl _) hL rfl⟩
          · rw [str_eq (x := vword (0 + 1)) (y := "hold") rfl]
            walk_at "ss"
            refine c_ixT (SqT.of ha) rfl ?_
            refine ⟨sd, _, rfl, by rw [← hq1]; exact dgetK gsd, ?_⟩
            walk_at "ss"
            refine c_ixT (SqT.of ha) rfl ?_
            walk_at "ss"
            refine newL fun lw F1 hlw f1 m1 => ?_
            refine c_catW (f1 _ _ hq2) m1 (fun lc F2 hlc f2 m2 => ?_) (by rw [List.length_map, List.length_singleton]; omega)
            have f12 := f1.trans f2
            walk_at "ss"
            refine c_ixT (SqT.of (f12 _ _ ha)) rfl ?_
            refine ⟨sd, _, rfl, .inl ⟨_, .inr s, f12 _ _ gsd, rfl, Evl.sz_lt (by omega), rfl⟩, ?_⟩
            have hL5 := some_up (r := .vd 1 s v x) hL f12 (f12 _ _ gsd) hsN rfl (by rw [List.map_append]; exact m2)
            have E5 : Ex H (upd F2 sd (.dK (putK kvs (.inr s) (.ref lc)))) := Ex.mut (eG.trans f12) hsd
            walk_at "ss"
            exact ⟨⟨_, _, _, _, rfl⟩, E5, by rw [etk]; exact hL5⟩
          · rw [str_ne (x := vword (kk + 1 + 1)) (y := "hold") (by show ("like" : Str) ≠ "hold"; decide +kernel)]
            walk_at "ss"
            exact ⟨⟨_, _, _, _, rfl⟩, fin G (Ex.refl _) hL rfl⟩
        | wh s x y =>
          obtain ⟨a, rfl, ha⟩ := hR
          have hsN := htN s (by simp [Rw.tells])
          obtain ⟨q0, hq1, hq2⟩ := hkvs s hsN
          have hs1 := hsl s
          walk_at "ss"
          refine c_ixT (SqT.of ha) rfl ?_
          walk_at "ss"
          rw [str_ne (x := "when") (y := "plain") (by decide +kernel)]
          walk_at "ss"
          refine c_ixT (SqT.of ha) rfl ?_
          walk_at "ss"
          rw [str_eq rfl]
          walk_at "ss"
          refine c_ixT (SqT.of ha) rfl ?_
          refine ⟨sd, _, rfl, by rw [← hq1]; exact dgetK gsd, ?_⟩
          walk_at "ss"
          refine c_ixT (SqT.of ha) rfl ?_
          walk_at "ss"
          refine c_ixT (SqT.of ha) rfl ?_
          walk_at "ss"
          refine newL fun lw F1 hlw f1 m1 => ?_
          refine c_catW (f1 _ _ hq2) m1 (fun lc F2 hlc f2 m2 => ?_) (by rw [List.length_map]; show _ + 2 ≤ _; omega)
          have f12 := f1.trans f2
          walk_at "ss"
          refine c_ixT (SqT.of (f12 _ _ ha)) rfl ?_
          refine ⟨sd, _, rfl, .inl ⟨_, .inr s, f12 _ _ gsd, rfl, Evl.sz_lt (by omega), rfl⟩, ?_⟩
          have ha5 : upd F2 sd (.dK (putK kvs (.inr s) (.ref lc))) a = some (.tup [.str "when", .str s, .str x, .str y]) := by rw [upd_ne (ne_of (f12 _ _ ha) (f12 _ _ gsd) (fun z => by cases z))]; exact f12 _ _ ha
          have hL5 := some_up (r := .wh s x y) hL f12 (f12 _ _ gsd) hsN rfl (by rw [List.map_append]; exact m2)
          have E5 : Ex H (upd F2 sd (.dK (putK kvs (.inr s) (.ref lc)))) := Ex.mut (eG.trans f12) hsd
          generalize upd F2 sd (.dK (putK kvs (.inr s) (.ref lc))) = G5 at ha5 hL5 E5 ⊢
          walk_at "ss"
          refine c_ixT (SqT.of ha5) rfl ?_
          walk_at "ss"
          rw [str_ne (x := "when") (y := "hold") (by decide +kernel)]
          walk_at "ss"
          exact ⟨⟨_, _, _, _, rfl⟩, E5, by rw [etk]; exact hL5⟩
        | sm ns =>
          obtain ⟨a, p, rfl, ha, hp⟩ := hR
          walk_at "ss"
          refine c_ixT (SqT.of ha) rfl ?_
          walk_at "ss"
          rw [str_ne (x := "same") (y := "plain") (by decide +kernel)]
          walk_at "ss"
          refine c_ixT (SqT.of ha) rfl ?_
          walk_at "ss"
          rw [str_ne (x := "same") (y := "when") (by decide +kernel)]
          walk_at "ss"
          refine c_ixT (SqT.of ha) rfl ?_
          walk_at "ss"
          rw [str_ne (x := "same") (y := "hold") (by decide +kernel)]
          walk_at "ss"
          exact ⟨⟨_, _, _, _, rfl⟩, fin G (Ex.refl _) hL rfl⟩
        | cl os nd xs => exact absurd hrc id
      · rintro σ' G ⟨⟨v3, v4, v5, v6, rfl⟩, eG, hL⟩
        rw [← paired_len hrw, List.take_length] at hL
        walk_at "ss"
        exact ⟨⟨_, _, _, _, rfl⟩, eG, hL⟩
    rintro σ' G2 ⟨⟨v3, v4, v5, v6, rfl⟩, x2, hL2⟩
    walk_at "ss"
    intro fd hfd
    have ncf : cd ≠ fd := ne_of_none (x2 _ _ gcd) hfd
    have e3 : Ex G2 (upd G2 fd (.dK [])) := Ex.new hfd
    have g3 : upd G2 fd (.dK []) fd = some (.dK []) := upd_same
    generalize upd G2 fd (.dK []) = G3 at e3 g3
    have gcd2 := x2 _ _ gcd
    have gcd3 := e3 _ _ gcd2
    obtain ⟨s0, hs0⟩ : ∃ s0, s0 ∈ n.names := by
      have h0 : 0 < n.names.length := by
        show 0 < (n.ins ++ n.told).length
        have := hg.in0
        rw [List.length_append]
        omega
      exact ⟨n.names[0], List.getElem_mem h0⟩
    obtain ⟨kvs, gsd, hkeys2, hkvs⟩ := id hL2
    obtain ⟨l0, _, gl0⟩ := hkvs s0 hs0
    walk_at "ss"
    refine c_cut ?_ (fun _ _ h => h)
    refine c_lock gcd3 trivial fun od => ?_
    obtain ⟨B, hBdef⟩ : ∃ B, B = upd G2 cd (.frz od (.dK kv)) := ⟨_, rfl⟩
    have eB : Ex B (upd G3 cd (.frz od (.dK kv))) := fun a o ha => by
      rw [hBdef] at ha
      by_cases e : a = cd
      · subst e
        rw [upd_same] at ha ⊢
        exact ha
      · rw [upd_ne e] at ha ⊢
        exact e3 _ _ ha
    have gBc : B cd = some (.frz od (.dK kv)) := by rw [hBdef]; exact upd_same
    have gBl : B l0 = some (.lst ((someBy ck n.rows s0).map V.str)) := by rw [hBdef, upd_ne (ne_of gl0 gcd2 (fun z => by cases z))]; exact gl0
    have hBf : B fd = none := by rw [hBdef, upd_ne ncf.symm]; exact hfd
    have hLB : LsAt B sd n.names (someBy ck n.rows) := by rw [hBdef]; exact hL2.oth ncs (fun xs z => by rw [gcd2] at z; cases z)
    obtain ⟨kvB, gsB, _, hkvB⟩ := id hLB
    have hBack : ∀ a, B a = none → H a = none := fun a ha => by
      rw [hBdef] at ha
      by_cases e : a = cd
      · subst e
        rw [upd_same] at ha
        cases ha
      · rw [upd_ne e] at ha
        exact fresh_back x2 ha
    walk_at "ss"
    refine ⟨cd, od, rfl, .inl ⟨_, upd_same, ?_⟩⟩
    refine forK (fun i σ' G => (∃ v3 v4 v6, σ' = [some (.ref ta), some (.ref cd), some (.ref sd), v3, v4, some (.ref fd), v6]) ∧ RJ B l0 fd n.names (readsBy ck n) i G)
      ⟨⟨_, _, _, rfl⟩, eB, hBf, [], ⟨rfl, by rw [upd_ne ncf.symm]; exact g3, fun i s a h => by simp at h⟩, List.nodup_nil, (fun a h => by cases h), (fun h => by cases h), fun h => by cases h⟩ (fun i σ' G _ q => q.2.1 _ _ gBc) ?_ ?_
    · rintro i key v σ' G hk ⟨⟨v3, v4, v6, rfl⟩, eG, _, ls, ⟨hll, gfd, hls⟩, hln, hlf, hfn, hlnl⟩
      obtain ⟨s, hs, rfl⟩ := hkat i key v hk
      have hil := (List.getElem?_eq_some_iff.mp hs).1
      obtain ⟨q0, hq1, hq2⟩ := hkvB s (List.mem_of_getElem? hs)
      rw [show kV (Sum.inr s : Key) = V.str s from rfl]
      walk_at "ss"
      refine ⟨cd, od, rfl, .inl ⟨_, eG _ _ gBc, ?_⟩⟩
      refine lcK (fun q => keyB (fun o => (someBy ck n.rows s).contains o) q.1) (fun q y _ => y = kV q.1) (fun _ _ _ _ _ h => h) (eG _ _ gBc) (by omega) (fun j q hq F2 f2 R N hY hNo => ?_) (fun ys pl G4 hpair hpl e4 g4 => ?_)
      · obtain ⟨key2, v2⟩ := q
        obtain ⟨o, ho, rfl⟩ := hkat j key2 v2 hq
        rw [show kV ((Sum.inr o : Key), v2).1 = V.str o from rfl]
        walk_at "ss"
        refine ⟨sd, _, rfl, by rw [← hq1]; exact dgetK (f2 _ _ (eG _ _ gsB)), ?_⟩
        refine c_in (.inl (SqL.of (f2 _ _ (eG _ _ hq2)))) rfl (strs_okf _) ?_
        rw [inV_str]
        refine ⟨_, rfl, if_cs (fun hc => ?_) (fun hc => ?_)⟩
        · walk_at "ss"
          exact hY hc _ _ (Ex.refl _) rfl
        · exact hNo hc _ (Ex.refl _)
      rw [paired_keys hpair, filt_keys _ hkeys] at g4
      have hplB : B pl = none := fresh_back eG hpl
      have hnot : valV (dlK (n.names.take i) ls) (.inr s) = none := valV_nokey (dlK_keys hll) (fun z => nodup_at hnd hs z (Nat.le_refl _) rfl)
      have hdl := dlK_len hll
      rw [List.length_take] at hdl
      walk_at "ss"
      refine ⟨fd, _, rfl, .inl ⟨_, .inr s, e4 _ _ gfd, rfl, Evl.sz_lt (by omega), rfl⟩, ?_⟩
      walk_at "ss"
      rw [putK_new _ hnot]
      exact ⟨⟨_, _, _, rfl⟩, rj_snoc hs hpl hplB (ne_of_none gfd hpl).symm eG hBf hll hls hln hlf hfn hlnl gBl e4 g4⟩
    · rintro σ' G ⟨⟨v3, v4, v6, rfl⟩, eG, _, ls, hDL, hln, hlf, hfn, hlnl⟩
      rw [hkl, List.take_length] at hDL
      refine ⟨eG _ _ gBc, ?_⟩
      walk_at "ss"
      exact k fd ls _ (x2.trans (ex_unlock gcd2 (by rw [← hBdef]; exact eG))) (fresh_back x2 hfd) (fun a ha => hBack a (hlf a ha)) hln hfn (hDL.oth ncf (fun z => by have := hlf _ z; rw [gBc] at this; cases this))

/-! ### rounds of reckoning, rings: plain -/
def rdy (U : List Str) (rd : Str → List Str) (F : List Str) : List Str := U.filter fun s => !F.contains s && (rd s).all fun o => F.contains o
def fnd (U : List Str) (rd : Str → List Str) : Nat → List Str
  | 0 => []
  | k + 1 => fnd U rd k ++ rdy U rd (fnd U rd k)
def lft (U F : List Str) : List Str := U.filter fun s => !F.contains s
theorem nodup_le : ∀ {l m : List Str}, l.Nodup → (∀ s ∈ l, s ∈ m) → l.length ≤ m.length
  | [], _, _, _ => Nat.zero_le _
  | a :: l, m, h, hs => by
    have ha := hs a List.mem_cons_self
    have hn := List.nodup_cons.mp h
    have ih := nodup_le (l := l) (m := m.erase a) hn.2 fun s hs' => by
      have hne : s ≠ a := fun e => hn.1 (e ▸ hs')
      exact (List.mem_erase_of_ne hne).mpr (hs s (List.mem_cons_of_mem _ hs'))
    rw [List.length_erase_of_mem ha] at ih
    have := List.length_pos_of_mem ha
    rw [List.length_cons]
    omega
section
variable {U : List Str} {rd : Str → List Str} {F : List Str} {k : Nat}
theorem con_iff {l : List Str} {s : Str} : l.contains s = true ↔ s ∈ l := List.contains_iff_mem
theorem con_not {l : List Str} {s : Str} : (!l.contains s) = true ↔ s ∉ l := by
  rw [Bool.not_eq_true', ← Bool.not_eq_true, con_iff]
theorem mem_lft {s : Str} : s ∈ lft U F ↔ s ∈ U ∧ s ∉ F := by
  unfold lft
  rw [List.mem_filter, con_not]
theorem mem_rdy {s : Str} : s ∈ rdy U rd F ↔ s ∈ U ∧ s ∉ F ∧ ∀ o ∈ rd s, o ∈ F := by
  unfold rdy
  rw [List.mem_filter, Bool.and_eq_true, con_not, List.all_eq_true]
  constructor
  · rintro ⟨h1, h2, h3⟩
    exact ⟨h1, h2, fun o ho => con_iff.mp (h3 o ho)⟩
  · rintro ⟨h1, h2, h3⟩
    exact ⟨h1, h2, fun o ho => con_iff.mpr (h3 o ho)⟩
theorem lft_rdy : (lft U F).filter (fun s => (rd s).all fun o => F.contains o) = rdy U rd F := by
  unfold lft rdy
  rw [List.filter_filter]
  congr 1
  funext s
  exact Bool.and_comm _ _
theorem fnd_sub : ∀ {k : Nat} {s : Str}, s ∈ fnd U rd k → s ∈ U
  | 0, s, h => by cases h
  | k + 1, s, h => by
    rcases List.mem_append.mp h with h | h
    · exact fnd_sub h
    · exact (mem_rdy.mp h).1
theorem fnd_nodup (hU : U.Nodup) : ∀ k, (fnd U rd k).Nodup
  | 0 => List.nodup_nil
  | k + 1 => by
    show (fnd U rd k ++ rdy U rd (fnd U rd k)).Nodup
    rw [List.nodup_append]
    exact ⟨fnd_nodup hU k, List.Nodup.sublist List.filter_sublist hU, fun a ha b hb e => (mem_rdy.mp hb).2.1 (e ▸ ha)⟩
theorem fnd_len (hU : U.Nodup) : (fnd U rd k).length ≤ U.length := nodup_le (fnd_nodup hU k) fun _ h => fnd_sub h
theorem fnd_all (hU : U.Nodup) (h : lft U (fnd U rd k) = []) : (fnd U rd k).length = U.length := by
  refine Nat.le_antisymm (fnd_len hU) (nodup_le hU fun s hs => ?_)
  refine Classical.byContradiction fun hn => ?_
  have : s ∈ lft U (fnd U rd k) := mem_lft.mpr ⟨hs, hn⟩
  rw [h] at this
  cases this
theorem fnd_lack (hU : U.Nodup) (h : lft U (fnd U rd k) ≠ []) : (fnd U rd k).length < U.length := by
  obtain ⟨s, hs⟩ := List.exists_mem_of_ne_nil _ h
  obtain ⟨h1, h2⟩ := mem_lft.mp hs
  have := nodup_le (l := s :: fnd U rd k) (m := U) (List.nodup_cons.mpr ⟨h2, fnd_nodup hU k⟩) fun z hz => by
    rcases List.mem_cons.mp hz with e | e
    · rw [e]; exact h1
    · exact fnd_sub e
  rw [List.length_cons] at this
  omega
theorem lft_next : (lft U (fnd U rd k)).filter (fun s => !(fnd U rd (k + 1)).contains s) = lft U (fnd U rd (k + 1)) := by
  unfold lft
  rw [List.filter_filter]
  congr 1
  funext s
  cases h : (fnd U rd k).contains s with
  | false => simp
  | true =>
    have : (fnd U rd (k + 1)).contains s = true := con_iff.mpr (List.mem_append_left _ (con_iff.mp h))
    rw [this]
    rfl
theorem lft_less (h : rdy U rd (fnd U rd k) ≠ []) : (lft U (fnd U rd (k + 1))).length < (lft U (fnd U rd k)).length := by
  rw [← lft_next]
  obtain ⟨s, hs⟩ := List.exists_mem_of_ne_nil _ h
  have h1 := mem_rdy.mp hs
  refine List.length_filter_lt_length_iff_exists.mpr ⟨s, mem_lft.mpr ⟨h1.1, h1.2.1⟩, ?_⟩
  rw [Bool.not_eq_true, Bool.not_eq_false', con_iff]
  exact List.mem_append_right _ hs
theorem rdy_nil (h : lft U F = []) : rdy U rd F = [] := by
  rw [← lft_rdy, h, List.filter_nil]
theorem fnd_order : ∀ {k i : Nat} {s : Str}, (fnd U rd k)[i]? = some s → ∀ o ∈ rd s, o ∈ (fnd U rd k).take i
  | 0, i, s, h => by simp [fnd] at h
  | k + 1, i, s, h => by
    intro o ho
    show o ∈ (fnd U rd k ++ rdy U rd (fnd U rd k)).take i
    have h : (fnd U rd k ++ rdy U rd (fnd U rd k))[i]? = some s := h
    rw [List.take_append]
    rcases Nat.lt_or_ge i (fnd U rd k).length with hi | hi
    · rw [List.getElem?_append_left hi] at h
      exact List.mem_append_left _ (fnd_order h o ho)
    · rw [List.getElem?_append_right hi] at h
      have := (mem_rdy.mp (List.mem_of_getElem? h)).2.2 o ho
      rw [List.take_of_length_le hi]
      exact List.mem_append_left _ this
/-- where nothing is ready, each name that is left reads one that is left -/
theorem lft_reads (hrd : ∀ s ∈ U, ∀ o ∈ rd s, o ∈ U) (h : rdy U rd F = []) {s : Str} (hs : s ∈ lft U F) : ∃ o ∈ rd s, o ∈ lft U F := by
  obtain ⟨h1, h2⟩ := mem_lft.mp hs
  refine Classical.byContradiction fun hn => ?_
  have : s ∈ rdy U rd F := mem_rdy.mpr ⟨h1, h2, fun o ho => Classical.byContradiction fun hF => hn ⟨o, ho, mem_lft.mpr ⟨hrd s h1 o ho, hF⟩⟩⟩
  rw [h] at this
  cases this
end
/-- a ring of names among L -/
structure RingOk (L : List Str) (rd : Str → List Str) (R : List Str) : Prop where
  ne : R ≠ []
  nodup : R.Nodup
  sub : ∀ s ∈ R, s ∈ L
  next : ∀ (i : Nat) a b, R[i]? = some a → R[i + 1]? = some b → b ∈ rd a
  last : ∀ a b, R[0]? = some a → R[R.length - 1]? = some b → a ∈ rd b
structure WalkOk (L : List Str) (rd : Str → List Str) (W : List Str) : Prop where
  ne : 0 < W.length
  sub : ∀ s ∈ W, s ∈ L
  nodup : (W.take (W.length - 1)).Nodup
  next : ∀ (i : Nat) a b, W[i]? = some a → W[i + 1]? = some b → b ∈ rd a
section
variable {L : List Str} {rd : Str → List Str} {W : List Str}
theorem WalkOk.len (h : WalkOk L rd W) : W.length ≤ L.length + 1 := by
  have := nodup_le h.nodup fun s hs => h.sub s (List.mem_of_mem_take hs)
  rw [List.length_take] at this
  omega
theorem WalkOk.one {s : Str} (h : s ∈ L) : WalkOk L rd [s] := ⟨by simp, fun z hz => by rw [List.mem_singleton] at hz; rw [hz]; exact h, by simp, fun i a b _ h2 => by simp at h2⟩
theorem WalkOk.more {s o : Str} (h : WalkOk L rd W) (hs : W[W.length - 1]? = some s) (hn : s ∉ W.take (W.length - 1)) (ho : o ∈ rd s) (hL : o ∈ L) : WalkOk L rd (W ++ [o]) := by
  have e : W = W.take (W.length - 1) ++ [s] := by
    have h1 := List.take_append_drop (W.length - 1) W
    have h2 : W.drop (W.length - 1) = [s] := by
      obtain ⟨hl, he⟩ := List.getElem?_eq_some_iff.mp hs
      rw [List.drop_eq_getElem_cons hl, he, List.drop_of_length_le (by omega)]
    rw [h2] at h1
    exact h1.symm
  refine ⟨by simp, fun z hz => ?_, ?_, fun i a b ha hb => ?_⟩
  · rcases List.mem_append.mp hz with hz | hz
    · exact h.sub z hz
    · rw [List.mem_singleton] at hz
      rw [hz]; exact hL
  · rw [List.length_append, List.length_singleton, Nat.add_sub_cancel, List.take_left' rfl]
    rw [e, List.nodup_append]
    refine ⟨h.nodup, by simp, fun a ha b hb e2 => hn ?_⟩
    rw [List.mem_singleton] at hb
    rw [← hb, ← e2]
    exact ha
  · have hl := h.ne
    rcases Nat.lt_or_ge (i + 1) W.length with hi | hi
    · rw [List.getElem?_append_left hi] at hb
      rw [List.getElem?_append_left (by omega)] at ha
      exact h.next i a b ha hb
    · have hi2 := (List.getElem?_eq_some_iff.mp hb).1
      rw [List.length_append, List.length_singleton] at hi2
      have ei : i = W.length - 1 := by omega
      subst ei
      rw [List.getElem?_append_left (by omega), hs] at ha
      rw [List.getElem?_append_right (by omega), show W.length - 1 + 1 - W.length = 0 by omega] at hb
      have e1 : s = a := by simpa using ha
      have e2 : o = b := by simpa using hb
      rw [← e1, ← e2]
      exact ho
/-- the walk came back to where it was -/
theorem WalkOk.ring {s : Str} {j : Nat} (h : WalkOk L rd W) (hs : W[W.length - 1]? = some s) (hj : W[j]? = some s) (hlt : j < W.length - 1) : RingOk L rd ((W.take (W.length - 1)).drop j) := by
  have get : ∀ {i : Nat} {a : Str}, ((W.take (W.length - 1)).drop j)[i]? = some a → W[j + i]? = some a ∧ j + i < W.length - 1 := fun {i a} hi => by
    rw [List.getElem?_drop] at hi
    have hl := (List.getElem?_eq_some_iff.mp hi).1
    rw [List.length_take] at hl
    rw [List.getElem?_take_of_lt (by omega)] at hi
    exact ⟨hi, by omega⟩
  have hlen : ((W.take (W.length - 1)).drop j).length = W.length - 1 - j := by rw [List.length_drop, List.length_take]; omega
  refine ⟨fun z => ?_, List.Nodup.sublist (List.drop_sublist _ _) h.nodup, fun z hz => h.sub z (List.mem_of_mem_take (List.mem_of_mem_drop hz)), fun i a b ha hb => ?_, fun a b ha hb => ?_⟩
  · have := congrArg List.length z
    rw [hlen, List.length_nil] at this
    omega
  · exact h.next (j + i) a b (get ha).1 (get hb).1
  · rw [hlen] at hb
    have h1 := (get ha).1
    have h2 := (get hb).1
    rw [Nat.add_zero, hj] at h1
    have e1 : s = a := by simpa using h1
    rw [← e1]
    refine h.next (j + (W.length - 1 - j - 1)) b s h2 ?_
    rw [show j + (W.length - 1 - j - 1) + 1 = W.length - 1 by omega]
    exact hs
theorem RingOk.mono {L2 : List Str} {R : List Str} (h : RingOk L rd R) (hs : ∀ s ∈ L, s ∈ L2) : RingOk L2 rd R := ⟨h.ne, h.nodup, fun s hr => hs s (h.sub s hr), h.next, h.last⟩
end

/-! ### ranks, orders and rings by the program -/
open TL (tl)
/-- l == [] -/
def rEqNil (K : PySem.W.Frag) : R2 := fun x y H Q => ∃ (a b : Addr) (xs : List V), x = .ref a ∧ y = .ref b ∧ SqL K H a xs ∧ SqL K H b [] ∧ Q (.bl xs.isEmpty) H
theorem op_eqNil {X : Cx} (hu : X.A.units + 68 < cLine) : OpR X (compareOp .Eq) (rEqNil X.K) := by
  intro pins s σ H x y v u Q I rx ry h
  obtain ⟨a, b, xs, rfl, rfl, ha, hb, q⟩ := h
  cases xs with
  | nil => exact op_eqD (X := X) (by omega) pins s σ H _ _ v u Q I rx ry ⟨_, _, .lst ha .nil, .lst hb .nil, shaped_lst (xs := []) rfl, shaped_lst (xs := []) rfl, by rw [PyData.eqv, PyData.eqvAll]; exact q⟩
  | cons z zs =>
    cases (show v = Value.ref a from rx)
    cases (show u = Value.ref b from ry)
    obtain ⟨us, r1, p1, _⟩ := I.list ha
    obtain ⟨ws, r2, p2, _⟩ := I.list hb
    cases r2
    cases r1
    exact SeqAt.RcAt.lists_lengths p1.isList p2.isList (by simp) (by omega) X.prog X.w _ _ ⟨.bl false, H, I, rfl, q⟩
theorem first_ix : ∀ {W : List Str} {s : Str}, s ∈ W → ∃ j : Nat, W[j]? = some s ∧ ∀ (m : Nat) z, m < j → W[m]? = some z → z ≠ s
  | a :: W, s, h => by
    by_cases e : a = s
    · exact ⟨0, by rw [← e]; rfl, fun m z hm => absurd hm (Nat.not_lt_zero m)⟩
    · obtain ⟨j, h1, h2⟩ := first_ix (W := W) ((List.mem_cons.mp h).resolve_left fun z => e z.symm)
      refine ⟨j + 1, by simpa using h1, fun m z hm hz => ?_⟩
      cases m with
      | zero =>
        have : a = z := by simpa using hz
        rw [← this]
        exact e
      | succ m => exact h2 m z (by omega) (by simpa using hz)
theorem cut_mid (l : List Str) (j : Nat) (hj : j ≤ l.length) : cutV (l.map V.str) (some (j : Int)) (some (-1)) = ((l.take (l.length - 1)).drop j).map V.str := by
  unfold cutV
  rw [List.length_map, HT.sIx_nat]
  have e : HT.sIx l.length l.length (some (-1)) = l.length - 1 := by
    unfold HT.sIx
    simp only
    split <;> omega
  rw [e, Nat.min_eq_left hj, ← List.map_drop, ← List.map_take, List.drop_take]
theorem at_m1 {W : List Str} {s : Str} (h : W[W.length - 1]? = some s) : atI (W.map V.str) (-1) = some (.str s) := by
  have hl := (List.getElem?_eq_some_iff.mp h).1
  rw [at_last (by rw [List.length_map]; omega), List.length_map, List.getElem?_map, h]
  rfl
theorem cut_init2 (l : List Str) : cutV (l.map V.str) none (some (-1)) = (l.take (l.length - 1)).map V.str := by rw [cut_init, List.dropLast_eq_take]
theorem isEmpty_map {l : List Str} : (l.map V.str).isEmpty = l.isEmpty := by cases l <;> rfl
/-- what is to be known of reads -/
structure RdOk (U : List Str) (rd : Str → List Str) : Prop where
  nodup : U.Nodup
  len : U.length ≤ 1000
  sub : ∀ s ∈ U, ∀ o ∈ rd s, o ∈ U
  rlen : ∀ s ∈ U, (rd s).length ≤ 1000

/-! ### ranks and orders by the program -/
open TL (tl)
/-- the ranks of the first rounds -/
def rkV (U : List Str) (rd : Str → List Str) : Nat → List (Key × V)
  | 0 => []
  | k + 1 => rkV U rd k ++ (rdy U rd (fnd U rd k)).map fun s => ((.inr s : Key), V.int (k : Int))
section
variable {U : List Str} {rd : Str → List Str} {k : Nat}
theorem rk_keys : ∀ k, (rkV U rd k).map (·.1) = (fnd U rd k).map (Sum.inr : Str → Key)
  | 0 => rfl
  | k + 1 => by
    show ((rkV U rd k ++ _).map (·.1)) = ((fnd U rd k ++ _).map _)
    rw [List.map_append, List.map_append, rk_keys k, List.map_map]
    rfl
theorem rk_len : (rkV U rd k).length = (fnd U rd k).length := by
  have := congrArg List.length (rk_keys (U := U) (rd := rd) k)
  rwa [List.length_map, List.length_map] at this
theorem key_in {kv : List (Key × V)} {l : List Str} {s : Str} (hk : kv.map (·.1) = l.map (Sum.inr : Str → Key)) : (valV kv (.inr s)).isSome = l.contains s := by
  by_cases h : s ∈ l
  · obtain ⟨v, hv⟩ := valV_haskey hk h
    rw [hv, con_iff.mpr h]
    rfl
  · rw [valV_nokey hk h]
    cases hc : l.contains s with
    | false => rfl
    | true => exact absurd (con_iff.mp hc) h
theorem keys_kV {kv : List (Key × V)} {l : List Str} (hk : kv.map (·.1) = l.map (Sum.inr : Str → Key)) : (kv.map fun kv => kV kv.1) = l.map V.str := by
  have e := congrArg (List.map kV) hk
  rw [List.map_map, List.map_map] at e
  exact e
theorem filt_fm (p : Str → Bool) (F : V → Option V) (hF : ∀ s, F (.str s) = if p s = true then some (.str s) else none) : ∀ l : List Str, (l.map V.str).filterMap F = (l.filter p).map V.str
  | [] => rfl
  | a :: l => by
    rw [List.map_cons, List.filterMap_cons, hF, List.filter_cons, filt_fm p F hF l]
    cases p a <;> simp
end
/-- the rounds ahead of the k-th are not empty -/
def RkTo (U : List Str) (rd : Str → List Str) (k : Nat) : Prop := ∀ j, j < k → rdy U rd (fnd U rd j) ≠ []
theorem rkTo_succ {U : List Str} {rd : Str → List Str} {k : Nat} (h : RkTo U rd k) (h2 : rdy U rd (fnd U rd k) ≠ []) : RkTo U rd (k + 1) := fun j hj => by
  rcases Nat.lt_or_ge j k with e | e
  · exact h j e
  · have : j = k := by omega
    rw [this]
    exact h2

/-! ### dicts of lists: more -/
open TL (tl)
theorem kb_dd : kitB "dict" "dict" = some true := by decide +kernel
theorem ty_dk {H : Hp} {a : Addr} {kvs : List (Key × V)} (h : H a = some (.dK kvs)) : TyX K H (.ref a) (.type "dict") := .base (.dK h)
theorem dlK_names {ns : List Str} {ls : List Addr} (h : ls.length = ns.length) : ((dlK ns ls).map fun kv => kV kv.1) = ns.map V.str := by
  have e := congrArg (List.map kV) (dlK_keys h)
  rw [List.map_map, List.map_map] at e
  exact e
theorem dlK_ix {ns : List Str} {ls : List Addr} (h : ls.length = ns.length) {i : Nat} {p : Key × V} (hp : (dlK ns ls)[i]? = some p) : ∃ s a, ns[i]? = some s ∧ ls[i]? = some a ∧ p = (.inr s, .ref a) := by
  unfold dlK at hp
  rw [List.getElem?_map] at hp
  obtain ⟨q, hq, rfl⟩ := Option.map_eq_some_iff.mp hp
  rw [List.getElem?_zip_eq_some] at hq
  exact ⟨q.1, q.2, hq.1, hq.2, rfl⟩
theorem dls_like {H : Hp} {d1 d2 : Addr} {U : List Str} {l1 l2 : List Addr} {f : Str → List Str} (h1 : DLs H d1 U l1 f) (h2 : DLs H d2 U l2 f) (hn : U.Nodup) (hok : ∀ s ∈ U, ((f s).map V.str).all okV = true) : ∀ p ∈ dlK U l1, LikeD K H (dlK U l2) p := by
  intro p hp
  obtain ⟨i, hi, he⟩ := List.mem_iff_getElem.mp hp
  obtain ⟨s, a, hs, ha, rfl⟩ := dlK_ix h1.1 (by rw [List.getElem?_eq_getElem hi, he])
  have hsU := List.mem_of_getElem? hs
  obtain ⟨j, b, hj, hb⟩ := dlK_at h2.1 hsU
  exact like_lists (dlK_get hn hj hb) (SqL.of (h1.2.2 i s a hs ha)) (SqL.of (h2.2.2 j s b hj hb)) (hok s hsU)
theorem valV_in {kv : List (Key × V)} {k : Key} {v : V} (h : valV kv k = some v) : (k, v) ∈ kv := by
  induction kv with
  | nil => cases h
  | cons p r ih =>
    by_cases e : p.1 = k
    · rw [valV_pos e] at h
      have : p = (k, v) := by rw [← e, ← Option.some.inj h]
      rw [this]
      exact List.mem_cons_self
    · rw [valV_neg e] at h
      exact List.mem_cons_of_mem _ (ih h)
theorem CksAt.up {H G : Hp} {cd : Addr} {U : List Str} {ck : Str → List Str} (h : CksAt H cd U ck) (e : Ex H G) : CksAt G cd U ck := by
  obtain ⟨kv, h1, h2, h3⟩ := h
  refine ⟨kv, e _ _ h1, h2, fun s hs => ?_⟩
  obtain ⟨p, q1, q2⟩ := h3 s hs
  exact ⟨p, q1, e _ _ q2⟩
theorem CksAt.ck {H : Hp} {cd : Addr} {U : List Str} {ck : Str → List Str} (h : CksAt H cd U ck) : CkAt H cd ck U := let ⟨kv, h1, _, h3⟩ := h; ⟨kv, h1, h3⟩
theorem DLs.exB {H G : Hp} {d b : Addr} {U : List Str} {ls : List Addr} {f : Str → List Str} (h : DLs H d U ls f) (e : ExB b H G) (hd : d ≠ b) (hl : b ∉ ls) : DLs G d U ls f := by
  obtain ⟨h1, h2, h3⟩ := h
  exact ⟨h1, e _ _ hd h2, fun i s a hs ha => e _ _ (fun z => hl (by rw [← z]; exact List.mem_of_getElem? ha)) (h3 i s a hs ha)⟩
theorem valV_rev {kv : List (Key × V)} {k : Key} {v : V} (hn : (kv.map (·.1)).Nodup) (h : valV kv k = some v) : valV kv.reverse k = some v :=
  valV_mem (by rw [List.map_reverse]; exact (List.reverse_perm _).nodup_iff.mpr hn) (List.mem_reverse.mpr (valV_in h))
theorem nd_strs {U : List Str} (h : U.Nodup) : (U.map (Sum.inr : Str → Key)).Nodup := by
  rw [List.Nodup, List.pairwise_map]
  exact h.imp fun hne e => hne (Sum.inr.inj e)
/-- lists in a dict that was made of pairs -/
theorem pair_lists {G : Hp} {D : Addr} {f : Str → List Str} : ∀ {ys : List V} {U : List Str} {ls : List Addr}, ls.length = U.length → Paired (fun y (kv : Key × V) => ∃ p l s, kv.1 = .inr s ∧ y = .ref p ∧ p ≠ D ∧ l ≠ D ∧ G p = some (.tup [.str s, .ref l]) ∧ G l = some (.lst ((f s).map V.str))) ys (dlK U ls) → ∃ (ps ms : List Addr), ys = ps.map V.ref ∧ ms.length = U.length ∧ Paired (fun p (kv : Key × V) => SqT K G p [kV kv.1, kv.2]) ps (dlK U ms) ∧ ∀ (i : Nat) s a, U[i]? = some s → ms[i]? = some a → G a = some (.lst ((f s).map V.str))
  | ys, [], [], _, h => by
    cases h
    exact ⟨[], [], rfl, rfl, .nil, fun i s a hs => by simp at hs⟩
  | ys, s :: U, a :: ls, hl, h => by
    rw [show dlK (s :: U) (a :: ls) = (.inr s, .ref a) :: dlK U ls from rfl] at h
    cases h with
    | cons h1 h2 =>
      obtain ⟨ps, ms, rfl, hm, hp, hg⟩ := pair_lists (U := U) (ls := ls) (by simpa using hl) h2
      obtain ⟨p, l, s', e1, rfl, _, _, g1, g2⟩ := h1
      cases Sum.inr.inj e1
      refine ⟨p :: ps, l :: ms, rfl, by rw [List.length_cons, List.length_cons, hm], .cons (SqT.of g1) hp, fun i z b hz hb => ?_⟩
      cases i with
      | zero =>
        have e1 : s = z := by simpa using hz
        have e2 : l = b := by simpa using hb
        rw [← e1, ← e2]
        exact g2
      | succ i => exact hg i z b (by simpa using hz) (by simpa using hb)
  | _, [], _ :: _, h, _ => by cases h
  | _, _ :: _, [], h, _ => by cases h
theorem pair_rev {G : Hp} : ∀ {ts : List Addr} {kv : List (Key × V)}, Paired (fun (t : Addr) (q : Key × V) => G t = some (.tup [kV q.1, q.2])) ts kv → Paired (fun p (q : Key × V) => SqT K G p [kV q.1, q.2]) ts.reverse kv.reverse
  | _, _, .nil => .nil
  | _, _, .cons h t => by
    rw [List.reverse_cons, List.reverse_cons]
    exact paired_snoc (F := fun p (q : Key × V) => SqT K G p [kV q.1, q.2]) (SqT.of h) (pair_rev t)
theorem c_revL {te : TE} {σ : L2.St} {H : Hp} {Q : VK} (h : te σ H fun x H1 => ∃ a xs, x = .ref a ∧ SqL K H1 a xs ∧ ∀ p, H1 p = none → Q (.ref p) (upd H1 p (.lst xs.reverse))) : tRevL K te σ H Q := h

/-! ### one number of rounds; reads of drawn nodes -/
theorem rounds_one {U : List Str} {rd : Str → List Str} {k m : Nat} (h1 : RkTo U rd k) (h2 : rdy U rd (fnd U rd k) = []) (h3 : RkTo U rd m) (h4 : rdy U rd (fnd U rd m) = []) : k = m := by
  rcases Nat.lt_trichotomy k m with h | h | h
  · exact absurd h2 (h3 k h)
  · exact h
  · exact absurd h4 (h1 m h)
theorem reads_ok {n : Nd} {ck : Str → List Str} (h : DrNd n ck) : RdOk n.names (readsBy ck n) :=
  ⟨h.good.all, Nat.le_trans h.len (by decide), fun s _ o ho => (List.mem_filter.mp ho).1, fun s _ => Nat.le_trans (List.length_filter_le _ _) (Nat.le_trans h.len (by decide))⟩
theorem roomHm {k : Nat} {A : Around} (r : Room k A) (h : Option Value) : L2H.RoomH k (A.mark h) := ⟨r.dp, r.un⟩

theorem len_ne {i j : Nat} (h : i < j) : decide (V.int (i : Int) = V.int (j : Int)) = false := decide_eq_false fun z => by injection z; omega
theorem len_eq {i j : Nat} (h : i = j) : decide (V.int (i : Int) = V.int (j : Int)) = true := by rw [h]; exact decide_eq_true rfl

/-! ### ranks, rows, rings, orders by the law -/
open TL (tl)
theorem rdy_zero {U : List Str} {rd : Str → List Str} : rdy U rd [] = U.filter fun s => (rd s).isEmpty := by
  unfold rdy
  congr 1
  funext s
  cases rd s <;> rfl
theorem lack_empty {F : List Str} : ∀ l : List Str, (l.filter fun o => !F.contains o).isEmpty = l.all fun o => F.contains o
  | [] => rfl
  | a :: l => by
    rw [List.filter_cons, List.all_cons, ← lack_empty l]
    cases F.contains a <;> simp

/-! ### rows, rings, orders by the law, where they are such -/
open TL (tl)
structure RowIs (U : List Str) (rd : Str → List Str) (R : List Str) : Prop where
  ne : R ≠ []
  nodup : R.Nodup
  sub : ∀ s ∈ R, s ∈ U
  next : ∀ (i : Nat) a b, R[i]? = some a → R[i + 1]? = some b → b ∈ rd a
  len : R.length ≤ 1000
def sp_is_row_l : Sp := fun vs H Q _ => ∃ d U ls rd p R, vs = [.ref d, .ref p] ∧ DLs H d U ls rd ∧ RdOk U rd ∧ H p = some (.lst (R.map V.str)) ∧ RowIs U rd R ∧ ∀ H2, Ex H H2 → Q (.bl true) H2
theorem ok_is_row_l (T : Txt K mg Z) : FnOk P w K mg base CX0 1 Z.f_is_row_l Z.fd_is_row_l ["_law_reads_here", "_law_thing"] sp_is_row_l := by
  refine T.F_is_row_l.ok sc_is_row_l (fun vs H Q E h => ?_) (fun cdv AA outer s H vs Q E hr h => ?_)
  · obtain ⟨d, U, ls, rd, p, R, rfl, _⟩ := h
    rfl
  · obtain ⟨d, U, ls, rd, p, R, rfl, hD, hok, gp, hR, k⟩ := h
    have hl1 := hR.len
    have hdk := dlK_keys hD.1
    refine ⟨_, (pss_cons (ps_if (PW.pt (pw_or (pt_not (pt_val (pe_callB call_isi (by rfl) T.n_isinstance (by decide +kernel) (pa_cons (pv 1) (pa_cons (pe_bltn (v := .ty "list") (by rfl) T.n_list (by decide +kernel) rfl) pa_nil))))) (pw_or1 (pt_cmpR (op_eqNil (hu68 hr)) (pv 1) (pe_lst pa_nil) (nomark _))))) (pss_one (ps_ret pe_bl)) pss_nil)
      (pss_cons (ps_for PassesOwn.never rfl (pi_range1 (by rfl) T.n_range (pa_cons (pe_callB call_len_seq (by rfl) T.n_len (by decide +kernel) (pa_cons (pv 1) pa_nil)) pa_nil)) (pg_name (i := 2) sc_is_row_l.nd rfl (Or.inl rfl)) (pss_cons (ps_if (PW.pt (pw_or (pt_not (pt_val (pe_callB call_isi (by rfl) T.n_isinstance (by decide +kernel) (pa_cons (pe_ix ix_list (pv 1) (pv 2) (fun _ _ => rfl)) (pa_cons (pe_bltn (v := .ty "str") (by rfl) T.n_str (by decide +kernel) rfl) pa_nil))))) (pw_or (pt_cmpR (op_notInDk (hu_of hr)) (pe_ix ix_list (pv 1) (pv 2) (fun _ _ => rfl)) (pv 0) (by rfl)) (pw_or1 (pt_cmpR op_in_seq (pe_ix ix_list (pv 1) (pv 2) (fun _ _ => rfl)) (pe_slice sl_list (pv 1) po_none (po_some (pv 2))) (by rfl)))))) (pss_one (ps_ret pe_bl)) pss_nil)
      (pss_one (ps_if (PW.pt (pw_and (pt_cmpR op_gt (pv 2) pe_int (nomark _)) (pw_and1 (pt_cmpR op_notIn_seq (pe_ix ix_list (pv 1) (pv 2) (fun _ _ => rfl)) (pe_dget (hu_of hr) (pv 0) (pe_ix ix_list (pv 1) (pe_op op_sub (pv 2) pe_int) (fun _ _ => rfl)) (fun _ _ => rfl)) (by rfl))))) (pss_one (ps_ret pe_bl)) pss_nil))))
      (pss_one (ps_ret pe_bl)))), ?_⟩
    walk_at "ss"
    refine isi (ty_lst gp) kb_ll ?_
    walk_at "ss"
    refine newL fun el H1 hel e1 g1 => ?_
    refine ⟨p, el, _, rfl, rfl, SqL.of (e1 _ _ gp), SqL.of g1, ?_⟩
    rw [isEmpty_map]
    refine ⟨_, rfl, ?_⟩
    refine if_ff (by cases h : R with
      | nil => exact absurd h hR.ne
      | cons a l => rfl) ?_
    walk_at "ss"
    refine ⟨p, _, rfl, .inl (SqL.of (e1 _ _ gp)), ?_⟩
    walk_at "ss"
    rw [List.length_map]
    refine ⟨by omega, by omega, ?_⟩
    rw [Int.toNat_natCast]
    refine forR (n := R.length) (fun i σ' G => (∃ v2, σ' = [some (.ref d), some (.ref p), v2]) ∧ Ex H G) ⟨⟨_, rfl⟩, e1⟩ ?_ ?_
    · rintro i σ' G hi ⟨⟨v2, rfl⟩, eG⟩
      have hs := List.getElem?_eq_getElem hi
      generalize R[i] = s at hs
      have hsU := hR.sub s (List.mem_of_getElem? hs)
      have hat : atI (R.map V.str) ((i : Nat) : Int) = some (.str s) := atI_nat (by rw [List.getElem?_map, hs]; rfl)
      have gpG := eG _ _ gp
      have DG := hD.up eG
      walk_at "ss"
      refine c_ixL (SqL.of gpG) hat ?_
      walk_at "ss"
      refine isi (ty_str s) kb_ss ?_
      walk_at "ss"
      refine c_ixL (SqL.of gpG) hat ?_
      walk_at "ss"
      refine ⟨d, _, rfl, dgetK DG.2.1, ?_⟩
      rw [key_in hdk, con_iff.mpr hsU]
      walk_at "ss"
      refine c_ixL (SqL.of gpG) hat ?_
      walk_at "ss"
      refine c_slTake gpG fun tl' G2 htl f2 m2 => ?_
      refine c_in (.inl (SqL.of m2)) rfl flat_strs ?_
      rw [inV_str]
      have hni : (R.take i).contains s = false := by
        cases hc : (R.take i).contains s with
        | false => rfl
        | true => exact absurd (con_iff.mp hc) fun z => nodup_at hR.nodup hs z (Nat.le_refl _) rfl
      rw [hni]
      walk_at "ss"
      have D2 := DG.up f2
      have gp2 := f2 _ _ gpG
      cases i with
      | zero =>
        refine if_ff (by decide) ?_
        walk_at "ss"
        exact ⟨⟨_, rfl⟩, eG.trans f2⟩
      | succ i =>
        have hs0 := List.getElem?_eq_getElem (l := R) (i := i) (by omega)
        generalize R[i] = s0 at hs0
        have hin := hR.next i s0 s hs0 hs
        obtain ⟨j, aj, hj1, hj2⟩ := dlK_at D2.1 (hR.sub s0 (List.mem_of_getElem? hs0))
        refine if_tt (decide_eq_true (by omega)) ?_
        walk_at "ss"
        refine c_ixL (SqL.of gp2) hat ?_
        walk_at "ss"
        rw [show (((i + 1 : Nat)) : Int) - 1 = ((i : Nat) : Int) from by omega]
        refine c_ixL (SqL.of gp2) (atI_nat (by rw [List.getElem?_map, hs0]; rfl)) ?_
        refine ⟨d, _, rfl, by rw [← dlK_get hok.nodup hj1 hj2]; exact dgetK D2.2.1, ?_⟩
        refine c_notin (.inl (SqL.of (D2.2.2 j s0 aj hj1 hj2))) rfl flat_strs ?_
        rw [inV_str, con_iff.mpr hin]
        walk_at "ss"
        exact ⟨⟨_, rfl⟩, eG.trans f2⟩
    · rintro σ' G ⟨⟨v2, rfl⟩, eG⟩
      walk_at "ss"
      exact k _ eG

/-! ### walking by reading, the names in the order in which they are reached: plain -/
abbrev Ent := Str × Option Str × Nat
def namesE (l : List Ent) : List Str := l.map (·.1)
def newO (rd : Str → List Str) (W : List Str) (s : Str) : List Str := (rd s).filter fun o => !W.contains o
def bf (rd : Str → List Str) (a : Str) : Nat → List Ent
  | 0 => [(a, none, 1)]
  | i + 1 => match (bf rd a i)[i]? with
    | some e => bf rd a i ++ (newO rd (namesE (bf rd a i)) e.1).map fun o => (o, some e.1, e.2.2 + 1)
    | none => bf rd a i
def predV : Option Str → V
  | none => .non
  | some s => .str s
def bfF (l : List Ent) : List (Key × V) := l.map fun e => ((.inr e.1 : Key), predV e.2.1)
def bfD (l : List Ent) : List (Key × V) := l.map fun e => ((.inr e.1 : Key), V.int (e.2.2 : Int))
section
variable {rd : Str → List Str} {a : Str} {i : Nat} {U : List Str}
theorem bfF_keys (l : List Ent) : (bfF l).map (·.1) = (namesE l).map (Sum.inr : Str → Key) := by
  unfold bfF namesE
  rw [List.map_map, List.map_map]
  rfl
theorem bfD_keys (l : List Ent) : (bfD l).map (·.1) = (namesE l).map (Sum.inr : Str → Key) := by
  unfold bfD namesE
  rw [List.map_map, List.map_map]
  rfl
theorem bf_some {e : Ent} (h : (bf rd a i)[i]? = some e) : bf rd a (i + 1) = bf rd a i ++ (newO rd (namesE (bf rd a i)) e.1).map fun o => (o, some e.1, e.2.2 + 1) := by
  show (match (bf rd a i)[i]? with | some e => _ | none => _) = _
  rw [h]
theorem bf_none (h : (bf rd a i)[i]? = none) : bf rd a (i + 1) = bf rd a i := by
  show (match (bf rd a i)[i]? with | some e => _ | none => _) = _
  rw [h]
theorem bf_ok (ha : a ∈ U) (hrd : ∀ s ∈ U, ∀ o ∈ rd s, o ∈ U) (hrn : ∀ s, (rd s).Nodup) : ∀ i, (namesE (bf rd a i)).Nodup ∧ ∀ s ∈ namesE (bf rd a i), s ∈ U
  | 0 => ⟨by simp [namesE, bf], fun s hs => by
      have : s = a := by simpa [namesE, bf] using hs
      rw [this]; exact ha⟩
  | i + 1 => by
    obtain ⟨h1, h2⟩ := bf_ok ha hrd hrn i
    cases h : (bf rd a i)[i]? with
    | none => rw [bf_none h]; exact ⟨h1, h2⟩
    | some e =>
      rw [bf_some h]
      have en : namesE (bf rd a i ++ (newO rd (namesE (bf rd a i)) e.1).map fun o => (o, some e.1, e.2.2 + 1)) = namesE (bf rd a i) ++ newO rd (namesE (bf rd a i)) e.1 := by
        unfold namesE
        rw [List.map_append, List.map_map]
        congr 1
        exact List.map_id _
      rw [en]
      have heU : e.1 ∈ U := h2 _ (List.mem_map_of_mem (List.mem_of_getElem? h))
      refine ⟨List.nodup_append.mpr ⟨h1, List.Nodup.sublist List.filter_sublist (hrn _), fun x hx y hy e2 => ?_⟩, fun s hs => ?_⟩
      · have := con_not.mp (List.mem_filter.mp hy).2
        exact this (e2 ▸ hx)
      · rcases List.mem_append.mp hs with hs | hs
        · exact h2 s hs
        · exact hrd _ heU s (List.mem_filter.mp hs).1
theorem bf_len (ha : a ∈ U) (hrd : ∀ s ∈ U, ∀ o ∈ rd s, o ∈ U) (hrn : ∀ s, (rd s).Nodup) (i : Nat) : (bf rd a i).length ≤ U.length := by
  obtain ⟨h1, h2⟩ := bf_ok ha hrd hrn i
  have := nodup_le h1 h2
  unfold namesE at this
  rwa [List.length_map] at this
theorem bf_stay (h : (bf rd a i)[i]? = none) : ∀ k, bf rd a (i + k) = bf rd a i
  | 0 => rfl
  | k + 1 => by
    have ih := bf_stay h k
    have hn : (bf rd a (i + k))[i + k]? = none := by
      rw [ih, List.getElem?_eq_none_iff]
      rw [List.getElem?_eq_none_iff] at h
      omega
    rw [show i + (k + 1) = i + k + 1 from rfl, bf_none hn, ih]
theorem bf_pos : ∀ i, 0 < (bf rd a i).length ∧ (bf rd a i)[0]? = some (a, none, 1)
  | 0 => ⟨by simp [bf], rfl⟩
  | i + 1 => by
    obtain ⟨h1, h2⟩ := bf_pos i
    cases h : (bf rd a i)[i]? with
    | none => rw [bf_none h]; exact ⟨h1, h2⟩
    | some e =>
      rw [bf_some h]
      refine ⟨by rw [List.length_append]; omega, ?_⟩
      rw [List.getElem?_append_left h1]
      exact h2
/-- who reads what was reached stands ahead -/
theorem bf_pred : ∀ {i k : Nat} {o : Str} {p : Option Str} {d : Nat}, (bf rd a i)[k]? = some (o, p, d) → (k = 0 ∧ o = a ∧ p = none ∧ d = 1) ∨ ∃ s q j, p = some s ∧ o ∈ rd s ∧ j < k ∧ 1 ≤ d ∧ (bf rd a i)[j]? = some (s, q, d - 1) ∧ 1 ≤ d - 1
  | 0, k, o, p, d, h => by
    have hk := (List.getElem?_eq_some_iff.mp h).1
    have : k = 0 := by simp [bf] at hk; exact hk
    subst this
    have h' : some ((a, none, 1) : Ent) = some (o, p, d) := h
    cases h'
    exact .inl ⟨rfl, rfl, rfl, rfl⟩
  | i + 1, k, o, p, d, h => by
    cases hi : (bf rd a i)[i]? with
    | none =>
      rw [bf_none hi] at h ⊢
      exact bf_pred h
    | some e =>
      rw [bf_some hi] at h ⊢
      have hl := (List.getElem?_eq_some_iff.mp hi).1
      rcases Nat.lt_or_ge k (bf rd a i).length with hk | hk
      · rw [List.getElem?_append_left hk] at h
        rcases bf_pred h with h | ⟨s, q, j, h1, h2, h3, h4, h5, h6⟩
        · exact .inl h
        · exact .inr ⟨s, q, j, h1, h2, h3, h4, by rw [List.getElem?_append_left (by omega)]; exact h5, h6⟩
      · rw [List.getElem?_append_right hk, List.getElem?_map] at h
        obtain ⟨o', ho, he⟩ := Option.map_eq_some_iff.mp h
        cases he
        have hm := List.mem_of_getElem? ho
        obtain ⟨s, q, dd⟩ := e
        have hd1 : 1 ≤ dd := by
          rcases bf_pred hi with ⟨_, _, _, h⟩ | ⟨_, _, _, _, _, _, h, _, _⟩
          · omega
          · exact h
        refine .inr ⟨s, q, i, rfl, (List.mem_filter.mp hm).1, by omega, by omega, ?_, by show 1 ≤ dd + 1 - 1; omega⟩
        rw [List.getElem?_append_left hl, hi]
        rfl
end

/-! ### a way back, from who was reached to where the walk began: plain -/
structure PathOk (l : List Ent) (rd : Str → List Str) (o : Str) (d : Nat) (F : List Str) : Prop where
  ne : 0 < F.length
  hd : F[0]? = some o
  len : F.length ≤ d
  ent : ∀ (i : Nat) x, F[i]? = some x → ∃ (k : Nat) (p : Option Str), l[k]? = some (x, p, d - i)
  next : ∀ (i : Nat) x y, F[i]? = some x → F[i + 1]? = some y → x ∈ rd y
section
variable {l : List Ent} {rd : Str → List Str} {o a : Str} {d : Nat} {F : List Str}
theorem ent_one (hn : (namesE l).Nodup) {k m : Nat} {x : Str} {p q : Option Str} {d e : Nat} (h1 : l[k]? = some (x, p, d)) (h2 : l[m]? = some (x, q, e)) : k = m ∧ p = q ∧ d = e := by
  obtain ⟨l1, e1⟩ := List.getElem?_eq_some_iff.mp h1
  obtain ⟨l2, e2⟩ := List.getElem?_eq_some_iff.mp h2
  have hk : k = m := by
    refine (List.getElem_inj (h₀ := by unfold namesE; rw [List.length_map]; exact l1) (h₁ := by unfold namesE; rw [List.length_map]; exact l2) hn).mp ?_
    unfold namesE
    rw [List.getElem_map, List.getElem_map, e1, e2]
  subst hk
  rw [h1] at h2
  cases h2
  exact ⟨rfl, rfl, rfl⟩
theorem PathOk.one {k : Nat} {p : Option Str} (h : l[k]? = some (o, p, d)) (hd : 1 ≤ d) : PathOk l rd o d [o] :=
  ⟨by simp, rfl, by simpa using hd, fun i x hx => by
    have hi := (List.getElem?_eq_some_iff.mp hx).1
    have : i = 0 := by simp at hi; exact hi
    subst this
    have : o = x := by simpa using hx
    subst this
    exact ⟨k, p, h⟩, fun i x y _ h2 => by simp at h2⟩
theorem PathOk.nodup (hn : (namesE l).Nodup) (h : PathOk l rd o d F) : F.Nodup := by
  rw [List.Nodup, List.pairwise_iff_getElem]
  intro i j hi hj hij e
  obtain ⟨k, p, h1⟩ := h.ent i _ (List.getElem?_eq_getElem hi)
  obtain ⟨m, q, h2⟩ := h.ent j _ (List.getElem?_eq_getElem hj)
  rw [e] at h1
  have := (ent_one hn h1 h2).2.2
  have := h.len
  omega
theorem PathOk.more {x s : Str} {p : Option Str} {k : Nat} (h : PathOk l rd o d F) (hx : F[F.length - 1]? = some x) (hs : x ∈ rd s) (hk : l[k]? = some (s, p, d - (F.length - 1) - 1)) (h1 : 1 ≤ d - (F.length - 1) - 1) : PathOk l rd o d (F ++ [s]) := by
  have hl := h.ne
  refine ⟨by rw [List.length_append]; omega, by rw [List.getElem?_append_left hl]; exact h.hd, by rw [List.length_append, List.length_singleton]; omega, fun i z hz => ?_, fun i y z hy hz => ?_⟩
  · rcases Nat.lt_or_ge i F.length with hi | hi
    · rw [List.getElem?_append_left hi] at hz
      exact h.ent i z hz
    · have hil := (List.getElem?_eq_some_iff.mp hz).1
      rw [List.length_append, List.length_singleton] at hil
      have : i = F.length := by omega
      subst this
      rw [List.getElem?_append_right (Nat.le_refl _), Nat.sub_self] at hz
      have : s = z := by simpa using hz
      subst this
      exact ⟨k, p, by rw [hk]; congr 3; omega⟩
  · rcases Nat.lt_or_ge (i + 1) F.length with hi | hi
    · rw [List.getElem?_append_left hi] at hz
      rw [List.getElem?_append_left (by omega)] at hy
      exact h.next i y z hy hz
    · have hil := (List.getElem?_eq_some_iff.mp hz).1
      rw [List.length_append, List.length_singleton] at hil
      have e : i = F.length - 1 := by omega
      subst e
      rw [List.getElem?_append_left (by omega), hx] at hy
      rw [List.getElem?_append_right (by omega), show F.length - 1 + 1 - F.length = 0 by omega] at hz
      have e1 : x = y := by simpa using hy
      have e2 : s = z := by simpa using hz
      rw [← e1, ← e2]
      exact hs
theorem val_pred (hn : (namesE l).Nodup) {k : Nat} {x : Str} {p : Option Str} {d : Nat} (h : l[k]? = some (x, p, d)) : valV (bfF l) (.inr x) = some (predV p) :=
  valV_mem (by
    rw [bfF_keys, List.Nodup, List.pairwise_map]
    exact hn.imp fun hne e => hne (Sum.inr.inj e)) (List.mem_map.mpr ⟨_, List.mem_of_getElem? h, rfl⟩)
theorem val_dist (hn : (namesE l).Nodup) {k : Nat} {x : Str} {p : Option Str} {d : Nat} (h : l[k]? = some (x, p, d)) : valV (bfD l) (.inr x) = some (.int (d : Int)) :=
  valV_mem (by
    rw [bfD_keys, List.Nodup, List.pairwise_map]
    exact hn.imp fun hne e => hne (Sum.inr.inj e)) (List.mem_map.mpr ⟨_, List.mem_of_getElem? h, rfl⟩)
theorem ent_of {s : Str} (h : s ∈ namesE l) : ∃ (k : Nat) (p : Option Str) (d : Nat), l[k]? = some (s, p, d) := by
  obtain ⟨e, he, rfl⟩ := List.mem_map.mp h
  obtain ⟨k, hk, hke⟩ := List.mem_iff_getElem.mp he
  exact ⟨k, e.2.1, e.2.2, by rw [List.getElem?_eq_getElem hk, hke]⟩
theorem rev_ix {F : List Str} {i : Nat} {x : Str} (h : F.reverse[i]? = some x) : i < F.length ∧ F[F.length - 1 - i]? = some x := by
  have hi := (List.getElem?_eq_some_iff.mp h).1
  rw [List.length_reverse] at hi
  rw [List.getElem?_reverse hi] at h
  exact ⟨hi, h⟩
end

/-! ### ways by the program -/
open TL (tl)
theorem c_disp {trs : List (TE × TE)} {σ : L2.St} {H : Hp} {Q : VK} (h : ∀ p, H p = none → tPairs trs σ (upd H p (.dK [])) fun ps H2 => H2 p = some (.dK []) ∧ ∃ kvs : List (Key × V), ps = kvs.map (fun kv => (kV kv.1, kv.2)) ∧ kvs.length ≤ 15 ∧ Q (.ref p) (upd H2 p (.dK (mergeK [] kvs)))) : tDisp trs σ H Q := h
theorem c_pairs1 {tk tv : TE} {σ : L2.St} {H : Hp} {Q : List (V × V) → Hp → Prop} (h : tk σ H fun x H1 => tv σ H1 fun y H2 => Q [(x, y)] H2) : tPairs [(tk, tv)] σ H Q := h
/-- one more that is reached -/
theorem newO_snoc {rd : Str → List Str} {W : List Str} {s o : Str} {j : Nat} (ho : (rd s)[j]? = some o) : ((rd s).take (j + 1)).filter (fun o => !W.contains o) = ((rd s).take j).filter (fun o => !W.contains o) ++ if W.contains o then [] else [o] := by
  rw [List.take_add_one, ho, List.filter_append]
  show _ ++ List.filter _ [o] = _
  rw [List.filter_cons, List.filter_nil]
  cases h : W.contains o <;> rfl
def sp_steps_from : Sp := fun vs H Q _ => ∃ d U ls rd a, vs = [.ref d, .str a] ∧ DLs H d U ls rd ∧ RdOk U rd ∧ (∀ s, (rd s).Nodup) ∧ a ∈ U ∧ ∀ q H2, H q = none → Ex H H2 → H2 q = some (.dK (bfF (bf rd a U.length))) → Q (.ref q) H2
theorem ok_steps_from (T : Txt K mg Z) : FnOk P w K mg base CX0 1 Z.f_steps_from Z.fd_steps_from ["reads", "name"] sp_steps_from := by
  refine T.F_steps_from.ok sc_steps_from (fun vs H Q E h => ?_) (fun cdv AA outer s H vs Q E hr h => ?_)
  · obtain ⟨d, U, ls, rd, a, rfl, _⟩ := h
    rfl
  · obtain ⟨d, U, ls, rd, a, rfl, hD, hok, hrn, haU, k⟩ := h
    have hU1 := hok.len
    have hbl := fun i => bf_len (i := i) haU hok.sub hrn
    refine ⟨_, (pss_cons (ps_set (i := 2) sc_steps_from.nd rfl (Or.inl rfl) (pe_disp (pps_cons (pv 1) pe_non pps_nil) (by rfl) (by rfl) (fun z => by cases z) (by decide)))
      (pss_cons (ps_set (i := 3) sc_steps_from.nd rfl (Or.inl rfl) (pe_lst (pa_cons (pv 1) pa_nil)))
      (pss_cons (ps_for PassesOwn.never rfl (pi_range1 (by rfl) T.n_range (pa_cons (pe_callB call_lenK (by rfl) T.n_len (by decide +kernel) (pa_cons (pv 0) pa_nil)) pa_nil)) (pg_name (i := 4) sc_steps_from.nd rfl (Or.inl rfl)) (pss_one (ps_if (pt_cmpR op_lt (pv 4) (pe_callB call_len_seq (by rfl) T.n_len (by decide +kernel) (pa_cons (pv 3) pa_nil)) (nomark _)) (pss_one (ps_for PassesOwn.never rfl (pi_list (pe_dget (hu_of hr) (pv 0) (pe_ix ix_list (pv 3) (pv 4) (fun _ _ => rfl)) (fun _ _ => rfl))) (pg_name (i := 5) sc_steps_from.nd rfl (Or.inl rfl)) (pss_one (ps_if (pt_cmpR (op_notInDk (hu_of hr)) (pv 5) (pv 2) (by rfl)) (pss_cons (ps_dput (hu_of hr) (pv 2) (pv 5) (pe_ix ix_list (pv 3) (pv 4) (fun _ _ => rfl)) rfl)
      (pss_one (ps_expr (pe_bm PySem.F.plainAttrs_list PySem.F.slot_list_append PySem.F.type_list_append mt_append (pv 3) (pa_cons (pv 5) pa_nil))))) pss_nil)))) pss_nil)))
      (pss_one (ps_ret (pv 2)))))), ?_⟩
    walk_at "ss"
    refine c_disp fun fd hfd => c_pairs1 ?_
    walk_at "ss"
    refine ⟨upd_same, [((.inr a : Key), V.non)], rfl, by simp, ?_⟩
    have e1 : Ex H (upd (upd H fd (.dK [])) fd (.dK (mergeK [] [((.inr a : Key), V.non)]))) := Ex.mut (Ex.new hfd) hfd
    have g1 : upd (upd H fd (.dK [])) fd (.dK (mergeK [] [((.inr a : Key), V.non)])) fd = some (.dK (bfF (bf rd a 0))) := by rw [upd_same]; rfl
    generalize upd (upd H fd (.dK [])) fd (.dK (mergeK [] [((.inr a : Key), V.non)])) = H1 at e1 g1
    walk_at "ss"
    refine newL fun wl H2 hwl e2 g2 => ?_
    have E2 := e1.trans e2
    have hwlH : H wl = none := fresh_back e1 hwl
    have D2 := hD.up E2
    walk_at "ss"
    refine ⟨d, _, rfl, .inl D2.2.1, ?_⟩
    rw [dlK_len hD.1]
    walk_at "ss"
    refine ⟨by omega, by omega, ?_⟩
    rw [Int.toNat_natCast]
    refine forR (n := U.length) (fun i σ' G => (∃ v4 v5, σ' = [some (.ref d), some (.str a), some (.ref fd), some (.ref wl), v4, v5]) ∧ Ex H G ∧ G fd = some (.dK (bfF (bf rd a i))) ∧ G wl = some (.lst ((namesE (bf rd a i)).map V.str))) ⟨⟨_, _, rfl⟩, E2, e2 _ _ g1, g2⟩ ?_ ?_
    · rintro i σ' G hi ⟨⟨v4, v5, rfl⟩, eG, gf, gw⟩
      have hl := hbl i
      have hnl : (namesE (bf rd a i)).length = (bf rd a i).length := by unfold namesE; rw [List.length_map]
      walk_at "ss"
      refine ⟨wl, _, rfl, .inl (SqL.of gw), ?_⟩
      walk_at "ss"
      rw [List.length_map, hnl]
      cases hbi : (bf rd a i)[i]? with
      | none =>
        have hn := hbi
        rw [List.getElem?_eq_none_iff] at hn
        refine if_ff (decide_eq_false (by omega)) ?_
        walk_at "ss"
        exact ⟨⟨_, _, rfl⟩, eG, by rw [bf_none hbi]; exact gf, by rw [bf_none hbi]; exact gw⟩
      | some e =>
        have hil := (List.getElem?_eq_some_iff.mp hbi).1
        have hes : (namesE (bf rd a i))[i]? = some e.1 := by unfold namesE; rw [List.getElem?_map, hbi]; rfl
        have hesU : e.1 ∈ U := (bf_ok haU hok.sub hrn i).2 _ (List.mem_of_getElem? hes)
        refine if_tt (decide_eq_true (by omega)) ?_
        have DG := hD.up eG
        obtain ⟨j0, aj, hj1, hj2⟩ := dlK_at DG.1 hesU
        have gaj := hD.2.2 j0 e.1 aj hj1 hj2
        have hrl := hok.rlen _ hesU
        have hat : atI ((namesE (bf rd a i)).map V.str) ((i : Nat) : Int) = some (.str e.1) := atI_nat (by rw [List.getElem?_map, hes]; rfl)
        walk_at "ss"
        refine c_ixL (SqL.of gw) hat ?_
        refine ⟨d, _, rfl, by rw [← dlK_get hok.nodup hj1 hj2]; exact dgetK DG.2.1, ?_⟩
        refine ⟨aj, rfl, ⟨_, SqL.of (eG _ _ gaj)⟩, forL (xs := (rd e.1).map V.str) (fun j σ' G' => (∃ v5, σ' = [some (.ref d), some (.str a), some (.ref fd), some (.ref wl), some (.int (i : Int)), v5]) ∧ Ex H G' ∧ G' fd = some (.dK (bfF (bf rd a i ++ (((rd e.1).take j).filter fun o => !(namesE (bf rd a i)).contains o).map fun o => (o, some e.1, e.2.2 + 1)))) ∧ G' wl = some (.lst ((namesE (bf rd a i) ++ ((rd e.1).take j).filter fun o => !(namesE (bf rd a i)).contains o).map V.str))) ⟨⟨_, rfl⟩, eG, by simpa using gf, by simpa using gw⟩ (fun j σ' G' _ q => SqL.of (q.2.1 _ _ gaj)) ?_ ?_⟩
        · rintro j x σ' G' hx ⟨⟨v5, rfl⟩, eG', gf', gw'⟩
          rw [List.getElem?_map] at hx
          obtain ⟨o, ho, rfl⟩ := Option.map_eq_some_iff.mp hx
          have hnj : o ∉ (rd e.1).take j := fun z => nodup_at (hrn e.1) ho z (Nat.le_refl _) rfl
          have hkeys := bfF_keys (bf rd a i ++ (((rd e.1).take j).filter fun o => !(namesE (bf rd a i)).contains o).map fun o => (o, some e.1, e.2.2 + 1))
          have hne : namesE (bf rd a i ++ (((rd e.1).take j).filter fun o => !(namesE (bf rd a i)).contains o).map fun o => (o, some e.1, e.2.2 + 1)) = namesE (bf rd a i) ++ ((rd e.1).take j).filter fun o => !(namesE (bf rd a i)).contains o := by
            unfold namesE
            rw [List.map_append, List.map_map]
            congr 1
            exact List.map_id _
          rw [hne] at hkeys
          have hcon : (namesE (bf rd a i) ++ ((rd e.1).take j).filter fun o => !(namesE (bf rd a i)).contains o).contains o = (namesE (bf rd a i)).contains o := by
            cases hc : (namesE (bf rd a i)).contains o with
            | true => exact con_iff.mpr (List.mem_append_left _ (con_iff.mp hc))
            | false =>
              cases hd : (namesE (bf rd a i) ++ ((rd e.1).take j).filter fun o => !(namesE (bf rd a i)).contains o).contains o with
              | false => rfl
              | true =>
                rcases List.mem_append.mp (con_iff.mp hd) with h | h
                · rw [con_iff.mpr h] at hc; cases hc
                · exact absurd (List.mem_filter.mp h).1 hnj
          walk_at "ss"
          refine ⟨fd, _, rfl, dgetK gf', ?_⟩
          rw [key_in hkeys, hcon]
          walk_at "ss"
          have hfl : (((rd e.1).take j).filter fun o => !(namesE (bf rd a i)).contains o).length ≤ 1000 := Nat.le_trans (List.length_filter_le _ _) (by rw [List.length_take]; omega)
          have gwj : atI ((namesE (bf rd a i) ++ ((rd e.1).take j).filter fun o => !(namesE (bf rd a i)).contains o).map V.str) ((i : Nat) : Int) = some (.str e.1) := atI_nat (by rw [List.getElem?_map, List.getElem?_append_left (by omega), hes]; rfl)
          refine if_cs (fun hc => ?_) (fun hc => ?_)
          · have hcf : (namesE (bf rd a i)).contains o = false := by simpa using hc
            have hfresh : (Sum.inr o : Key) ∉ (bfF (bf rd a i ++ (((rd e.1).take j).filter fun o => !(namesE (bf rd a i)).contains o).map fun o => (o, some e.1, e.2.2 + 1))).map (·.1) := by
              rw [hkeys]
              intro hm
              obtain ⟨z, hz, e2⟩ := List.mem_map.mp hm
              cases Sum.inr.inj e2
              rw [con_iff.mpr hz] at hcon
              rw [← hcon] at hcf
              cases hcf
            walk_at "ss"
            refine c_ixL (SqL.of gw') gwj ?_
            walk_at "ss"
            refine ⟨fd, _, rfl, .inl ⟨_, .inr o, gf', rfl, Evl.sz_lt (by unfold bfF; rw [List.length_map, List.length_append, List.length_map]; omega), rfl⟩, ?_⟩
            rw [putK_fresh hfresh]
            have gw2 : upd G' fd (.dK (bfF (bf rd a i ++ (((rd e.1).take j).filter fun o => !(namesE (bf rd a i)).contains o).map fun o => (o, some e.1, e.2.2 + 1)) ++ [((.inr o : Key), V.str e.1)])) wl = some (.lst ((namesE (bf rd a i) ++ ((rd e.1).take j).filter fun o => !(namesE (bf rd a i)).contains o).map V.str)) := by rw [upd_ne (ne_of gw' gf' (fun z => by cases z))]; exact gw'
            walk_at "ss"
            refine ⟨.inl ⟨rfl, _, SqL.of gw2⟩, ?_⟩
            walk_at "ss"
            refine ⟨wl, _, _, rfl, rfl, gw2, Evl.sz_lt (by rw [List.length_map, List.length_append]; omega), ?_⟩
            walk_at "ss"
            refine ⟨⟨_, rfl⟩, Ex.mut (Ex.mut eG' hfd) hwlH, ?_, ?_⟩
            · rw [upd_ne (ne_of gf' gw' (fun z => by cases z)), upd_same, newO_snoc ho, hcf]
              show some (HO.dK _) = some (HO.dK (bfF (_ ++ List.map _ (_ ++ [o]))))
              rw [List.map_append, ← List.append_assoc]
              unfold bfF
              rw [List.map_append (l₁ := _ ++ _)]
              rfl
            · rw [upd_same, newO_snoc ho, hcf]
              show some (HO.lst _) = some (HO.lst ((_ ++ (_ ++ [o])).map V.str))
              rw [← List.append_assoc, List.map_append (l₁ := _ ++ _)]
              rfl
          · have hcf : (namesE (bf rd a i)).contains o = true := by simpa using hc
            walk_at "ss"
            refine ⟨⟨_, rfl⟩, eG', ?_, ?_⟩
            · rw [newO_snoc ho, hcf, if_pos rfl, List.append_nil]; exact gf'
            · rw [newO_snoc ho, hcf, if_pos rfl, List.append_nil]; exact gw'
        · rintro σ' G' ⟨⟨v5, rfl⟩, eG', gf', gw'⟩
          rw [List.length_map, List.take_length] at gf' gw'
          walk_at "ss"
          refine ⟨⟨_, _, rfl⟩, eG', by rw [bf_some hbi]; exact gf', ?_⟩
          rw [bf_some hbi]
          unfold namesE at gw' ⊢
          rw [gw', List.map_append (f := fun e : Ent => e.1), List.map_map]
          congr 3
          exact congrArg (HAppend.hAppend _) (List.map_id _).symm
    · rintro σ' G ⟨⟨v4, v5, rfl⟩, eG, gf, gw⟩
      walk_at "ss"
      exact k fd G hfd eG gf

/-! ### reached, ways, by the program; what is no name -/
open TL (tl)
def UnkV (K : PySem.W.Frag) (H : Hp) (U : List Str) (v : V) : Prop := (∃ s, v = .str s ∧ s ∉ U) ∨ ∃ nm, TyX K H v (.type nm) ∧ kitB nm "str" = some false
def UnkE (Z : Adr) (v : V) (H : Hp) (E : XK) : Prop := ∀ x H2, H x = none → Ex H H2 → H2 x = some (.xd [("name", v)]) → E (.ref Z.c_Unknown) (some x) H2
theorem UnkE.back {Z : Adr} {v : V} {H H1 : Hp} {E : XK} (h : UnkE Z v H E) (e : Ex H H1) : UnkE Z v H1 E := fun x H2 hx e2 g => h x H2 (fresh_back e hx) (e.trans e2) g
theorem tyOf_up {H H2 : Hp} {v : V} {t : Value} (h : TyOf K H v t) (e : Ex H H2) : TyOf K H2 v t := by
  cases h with
  | non => exact .non
  | bl x => exact .bl x
  | int i => exact .int i
  | str x => exact .str x
  | flt x => exact .flt x
  | lst q => exact .lst (e _ _ q)
  | frz q => exact .frz (e _ _ q)
  | tup q => exact .tup (e _ _ q)
  | dK q => exact .dK (e _ _ q)
  | dT q => exact .dT (e _ _ q)
  | ins q a b c d f => exact .ins (e _ _ q) a b c d f
theorem tyX_up {H H2 : Hp} {v : V} {t : Value} (h : TyX K H v t) (e : Ex H H2) : TyX K H2 v t := by
  cases h with
  | base q => exact .base (tyOf_up q e)
  | byt b => exact .byt b
  | set q => exact .set (e _ _ q)
  | kList q c => exact .kList q c
  | kTuple q c => exact .kTuple q c
  | kDict q c => exact .kDict q c
  | fTuple q => exact .fTuple (e _ _ q)
  | fDict q => exact .fDict (e _ _ q)
theorem UnkV.up {H H2 : Hp} {U : List Str} {v : V} (h : UnkV K H U v) (e : Ex H H2) : UnkV K H2 U v := h.elim .inl fun ⟨nm, t, k⟩ => .inr ⟨nm, tyX_up t e, k⟩
def sp_need_knownX (K : PySem.W.Frag) (Z : Adr) : Sp := fun vs H Q E => ∃ d U ls rd v, vs = [.ref d, v] ∧ DLs H d U ls rd ∧ ((∃ s, v = .str s ∧ s ∈ U ∧ Q .non H) ∨ (UnkV K H U v ∧ UnkE Z v H E))
theorem okX_need_known (T : Txt K mg Z) : FnOk P w K mg base (L2N.CX P w) 4 Z.f_need_known Z.fd_need_known ["reads", "name"] (sp_need_knownX K Z) := by
  have G_Unknown_init := ok_Unknown_init (P := P) (w := w) (base := base) T
  refine T.F_need_known.okN sc_need_known (fun vs H Q E h => ?_) (fun cdv AA outer s H vs Q E hr h => ?_)
  · obtain ⟨d, U, ls, rd, v, rfl, _⟩ := h
    rfl
  · obtain ⟨d, U, ls, rd, v, rfl, hD, h⟩ := h
    have hdk := dlK_keys hD.1
    refine ⟨_, (pss_one (ps_if (PW.pt (pw_or (pt_not (pt_val (pe_callB call_isi (by rfl) T.n_isinstance (by decide +kernel) (pa_cons (pv 1) (pa_cons (pe_bltn (v := .ty "str") (by rfl) T.n_str (by decide +kernel) rfl) pa_nil))))) (pw_or1 (pt_cmpR (op_notInDk (hu_of hr)) (pv 1) (pv 0) (by rfl))))) (pss_one (L2N.ps_raise rfl (L2N.takes_of rfl rfl rfl rfl) (pmkN_oex (exB_ok T.x_Unknown).ox T.i_Unknown T.y_Unknown G_Unknown_init (hr.mono (by omega)) T.b_Unknown_init .nil pass0 rfl T.m_Unknown (pa_cons (pv 1) pa_nil)))) pss_nil)), ?_⟩
    rcases h with ⟨s, rfl, hs, k⟩ | ⟨hu, k⟩
    · walk_at "ss"
      refine isi (ty_str s) kb_ss ?_
      walk_at "ss"
      refine ⟨d, _, rfl, dgetK hD.2.1, ?_⟩
      rw [key_in hdk, con_iff.mpr hs]
      walk_at "ss"
      exact k
    · rcases hu with ⟨s, rfl, hs⟩ | ⟨nm, ty, kb⟩
      · walk_at "ss"
        refine isi (ty_str s) kb_ss ?_
        walk_at "ss"
        refine ⟨d, _, rfl, dgetK hD.2.1, ?_⟩
        rw [key_in hdk]
        have hc : U.contains s = false := by
          cases h : U.contains s with
          | false => rfl
          | true => exact absurd (con_iff.mp h) hs
        rw [hc]
        walk_at "ss"
        exact raise1 fun x H3 hx e3 g3 => k x H3 hx e3 g3
      · walk_at "ss"
        refine isi ty kb ?_
        walk_at "ss"
        exact raise1 fun x H3 hx e3 g3 => k x H3 hx e3 g3
/-- what a node is reckoned by -/
structure NdIn (Z : Adr) (H : Hp) (n : Nd) (v : V) (cd : Addr) (ck : Str → List Str) : Prop where
  at_ : NdAt Z H n v
  good : n.good
  nocalls : n.nocalls
  cks : CkAt H cd ck n.names
  ok : RdOk n.names (readsBy ck n)
theorem NdIn.up {H H2 : Hp} {n : Nd} {v : V} {cd : Addr} {ck : Str → List Str} (h : NdIn Z H n v cd ck) (e : Ex H H2) : NdIn Z H2 n v cd ck := ⟨h.at_.up e, h.good, h.nocalls, h.cks.up e, h.ok⟩
theorem reads_nodup {ck : Str → List Str} {n : Nd} (h : n.good) (s : Str) : (readsBy ck n s).Nodup := List.Nodup.sublist List.filter_sublist h.all
/-- all that is reached from a -/
def farE (ck : Str → List Str) (n : Nd) (a : Str) : List Ent := bf (readsBy ck n) a n.names.length
def sp_reached_fromX (K : PySem.W.Frag) (Z : Adr) : Sp := fun vs H Q E => ∃ n v cd ck x, vs = [v, .ref cd, x] ∧ NdIn Z H n v cd ck ∧ ((∃ a, x = .str a ∧ a ∈ n.names ∧ RetL ((n.names.filter fun o => (namesE (farE ck n a)).contains o).map V.str) H Q) ∨ (UnkV K H n.names x ∧ UnkE Z x H E))
theorem okX_reached_from (T : Txt K mg Z) : FnOk P w K mg base (L2N.CX P w) 12 Z.f_reached_from Z.fd_reached_from ["node", "clocks", "name"] (sp_reached_fromX K Z) := by
  have G_reads_of := ok_reads_of (P := P) (w := w) (base := base) T
  have G_steps_from := ok_steps_from (P := P) (w := w) (base := base) T
  have GX_need_known := okX_need_known (P := P) (w := w) (base := base) T
  refine T.F_reached_from.okN sc_reached_from (fun vs H Q E h => ?_) (fun cdv AA outer s H vs Q E hr h => ?_)
  · obtain ⟨n, v, cd, ck, x, rfl, _⟩ := h
    rfl
  · obtain ⟨n, v, cd, ck, x, rfl, hI, h⟩ := h
    have hok := hI.ok
    have hU1 := hok.len
    refine ⟨_, (pss_cons (ps_set (i := 3) sc_reached_from.nd rfl (Or.inl rfl) (pe_call G_reads_of (hr.mono (by omega)) rfl T.g_reads_of T.F_reads_of.kp T.b_reads_of .nil pass0 (pa_cons (pv 0) (pa_cons (pv 1) pa_nil))))
      (pss_cons (ps_expr (pe_call GX_need_known (hr.mono (by omega)) rfl T.g_need_known T.F_need_known.kp T.b_need_known .nil (passH (L2N.takes_of rfl rfl rfl rfl) (fun _ _ _ _ h => h)) (pa_cons (pv 3) (pa_cons (pv 2) pa_nil))))
      (pss_cons (ps_set (i := 4) sc_reached_from.nd rfl (Or.inr rfl) (pe_call G_steps_from (hr.mono (by omega)) rfl T.g_steps_from T.F_steps_from.kp T.b_steps_from .nil pass0 (pa_cons (pv 3) (pa_cons (pv 2) pa_nil))))
      (pss_one (ps_ret (pe_lock (pe_lc (own := [("other", 5)]) (g := (gName 5)) (tt := (tTest (tOp rInDk (tVar 5) (tVar 4)))) (te := (tVar 5)) rfl sc_reached_from.nd (pi_keys (pv 3)) (blkOk_by (own := [("other", 5)]) (N := N_reached_from) (sc := defScope s_reached_from) (by decide +kernel)) (fun _ _ _ _ _ => (pg_name (i := 5) sc_reached_from.nd rfl (Or.inl rfl))) (fun _ _ _ _ _ => (pts_one (pt_cmpR (op_inDk (hu_of hr)) (pv 5) (pv 4) (by rfl)))) (fun _ _ _ _ _ => (pv 5))))))))), ?_⟩
    walk_at "ss"
    refine ⟨n, v, cd, ck, rfl, hI.at_, hI.good, hI.nocalls, hI.cks, fun d ls H1 e1 hd hls hln hdl D1 => ?_⟩
    walk_at "ss"
    refine ⟨d, n.names, ls, _, x, rfl, D1, ?_⟩
    rcases h with ⟨a, rfl, ha, k⟩ | ⟨hu, k⟩
    · refine .inl ⟨a, rfl, ha, ?_⟩
      walk_at "ss"
      refine ⟨d, n.names, ls, _, a, rfl, D1, hok, reads_nodup hI.good, ha, fun q H2 hq e2 g2 => ?_⟩
      have D2 := D1.up e2
      have hdk := dlK_keys D2.1
      have hdl2 := dlK_len D2.1
      walk_at "ss"
      refine c_lockE D2.2.1 trivial fun od => ?_
      refine c_lcK ?_
      walk_at "ss"
      refine ⟨d, od, rfl, .inl ⟨_, upd_same, ?_⟩⟩
      have nqd : q ≠ d := fun z => by rw [z, D1.2.1] at hq; cases hq
      refine lcK (fun q => keyB (fun o => (namesE (farE ck n a)).contains o) q.1) (fun q y _ => y = kV q.1) (fun _ _ _ _ _ h => h) upd_same (by omega) (fun j p hp F2 f2 R N hY hNo => ?_) (fun ys pl G4 hpair hpl e4 g4 => ?_)
      · obtain ⟨o, b, ho, hb, rfl⟩ := dlK_ix D2.1 hp
        rw [show kV ((Sum.inr o : Key), V.ref b).1 = V.str o from rfl]
        walk_at "ss"
        refine ⟨q, _, rfl, dgetK (f2 _ _ (by rw [upd_ne nqd]; exact g2)), ?_⟩
        rw [key_in (bfF_keys _)]
        refine ⟨_, rfl, if_cs (fun hc => ?_) (fun hc => ?_)⟩
        · walk_at "ss"
          exact hY hc _ _ (Ex.refl _) rfl
        · exact hNo hc _ (Ex.refl _)
      rw [paired_keys hpair, filt_keys _ hdk] at g4
      refine ⟨e4 _ _ upd_same, ?_⟩
      have E4 := ex_unlock D2.2.1 e4
      have nfz := e4 _ _ (upd_same (H := H2) (a := d) (o := .frz od (.dK (dlK n.names ls))))
      have hplH : H pl = none := by
        have h2 : H2 pl = none := by
          by_cases z : pl = d
          · rw [z, upd_same] at hpl; cases hpl
          · rw [upd_ne z] at hpl; exact hpl
        exact fresh_back (e1.trans e2) h2
      walk_at "ss"
      exact k pl _ hplH (e1.trans (e2.trans E4)) (by rw [upd_ne (ne_of g4 nfz (fun z => by cases z))]; exact g4)
    · exact .inr ⟨hu.up e1, k.back e1⟩

/-! ### ways between names, by the program -/
open TL (tl)
theorem passN0 {X : Cx} : Passes (L2N.CX X.prog X.w) X E0 := fun _ _ _ _ _ _ _ ⟨_, _, _, _, _, _, _, _, _, _, _, _, h⟩ => h.elim
structure WayIs (U : List Str) (rd : Str → List Str) (a o : Str) (d : Nat) (W : List Str) : Prop where
  row : RowIs U rd W
  hd : W[0]? = some a
  lst : W[W.length - 1]? = some o
  len : W.length = d
theorem way_of {U : List Str} {rd : Str → List Str} {a o : Str} {d : Nat} {F : List Str} {l : List Ent} (hn : (namesE l).Nodup) (hU : ∀ s ∈ namesE l, s ∈ U) (hU1 : U.length ≤ 1000) (hl : (namesE l).length ≤ U.length) (h : PathOk l rd o d F) (ha : F[F.length - 1]? = some a) (h0 : l[0]? = some (a, none, 1)) : WayIs U rd a o d F.reverse := by
  have hne := h.ne
  obtain ⟨k, p, hk⟩ := h.ent _ _ ha
  have hd1 := (ent_one hn hk h0).2.2
  have hlen := h.len
  have hsub : ∀ s ∈ F, s ∈ namesE l := fun s hs => by
    obtain ⟨i, hi, rfl⟩ := List.mem_iff_getElem.mp hs
    obtain ⟨k, p, hk⟩ := h.ent i _ (List.getElem?_eq_getElem hi)
    exact List.mem_map.mpr ⟨_, List.mem_of_getElem? hk, rfl⟩
  refine ⟨⟨fun z => ?_, (List.reverse_perm _).nodup_iff.mpr (h.nodup hn), fun s hs => hU s (hsub s (List.mem_reverse.mp hs)), fun i x y hx hy => ?_, ?_⟩, ?_, ?_, ?_⟩
  · have := congrArg List.length z
    rw [List.length_reverse, List.length_nil] at this
    omega
  · obtain ⟨hi, h1⟩ := rev_ix hx
    obtain ⟨hj, h2⟩ := rev_ix hy
    refine h.next (F.length - 1 - (i + 1)) y x h2 ?_
    rw [show F.length - 1 - (i + 1) + 1 = F.length - 1 - i by omega]
    exact h1
  · rw [List.length_reverse]
    have := nodup_le (h.nodup hn) hsub
    omega
  · rw [List.getElem?_reverse (by omega), Nat.sub_zero]
    exact ha
  · rw [List.length_reverse, List.getElem?_reverse (by omega), show F.length - 1 - (F.length - 1) = 0 by omega]
    exact h.hd
  · rw [List.length_reverse]
    omega
def WayP (ck : Str → List Str) (n : Nd) (a o : Str) (H : Hp) (Q : VK) : Prop := (o ∉ namesE (farE ck n a) ∧ ∀ H2, Ex H H2 → Q .non H2) ∨ ∃ (k : Nat) (p : Option Str) (d : Nat), (farE ck n a)[k]? = some (o, p, d) ∧ ∀ W q H2, WayIs n.names (readsBy ck n) a o d W → H q = none → Ex H H2 → H2 q = some (.lst (W.map V.str)) → Q (.ref q) H2
def sp_way_betweenX (K : PySem.W.Frag) (Z : Adr) : Sp := fun vs H Q E => ∃ n v cd ck x y, vs = [v, .ref cd, x, y] ∧ NdIn Z H n v cd ck ∧ ((UnkV K H n.names x ∧ UnkE Z x H E) ∨ ∃ a, x = .str a ∧ a ∈ n.names ∧ ((UnkV K H n.names y ∧ UnkE Z y H E) ∨ ∃ o, y = .str o ∧ o ∈ n.names ∧ WayP ck n a o H Q))
theorem okX_way_between (T : Txt K mg Z) : FnOk P w K mg base (L2N.CX P w) 12 Z.f_way_between Z.fd_way_between ["node", "clocks", "one", "other"] (sp_way_betweenX K Z) := by
  have G_reads_of := ok_reads_of (P := P) (w := w) (base := base) T
  have G_steps_from := ok_steps_from (P := P) (w := w) (base := base) T
  have GX_need_known := okX_need_known (P := P) (w := w) (base := base) T
  refine T.F_way_between.okN sc_way_between (fun vs H Q E h => ?_) (fun cdv AA outer s H vs Q E hr h => ?_)
  · obtain ⟨n, v, cd, ck, x, y, rfl, _⟩ := h
    rfl
  · obtain ⟨n, v, cd, ck, x, y, rfl, hI, h⟩ := h
    have hok := hI.ok
    have hU1 := hok.len
    refine ⟨_, (pss_cons (ps_set (i := 4) sc_way_between.nd rfl (Or.inl rfl) (pe_call G_reads_of (hr.mono (by omega)) rfl T.g_reads_of T.F_reads_of.kp T.b_reads_of .nil pass0 (pa_cons (pv 0) (pa_cons (pv 1) pa_nil))))
      (pss_cons (ps_expr (pe_call GX_need_known (hr.mono (by omega)) rfl T.g_need_known T.F_need_known.kp T.b_need_known .nil (passH (L2N.takes_of rfl rfl rfl rfl) (fun _ _ _ _ h => h)) (pa_cons (pv 4) (pa_cons (pv 2) pa_nil))))
      (pss_cons (ps_expr (pe_call GX_need_known (hr.mono (by omega)) rfl T.g_need_known T.F_need_known.kp T.b_need_known .nil (passH (L2N.takes_of rfl rfl rfl rfl) (fun _ _ _ _ h => h)) (pa_cons (pv 4) (pa_cons (pv 3) pa_nil))))
      (pss_cons (ps_set (i := 5) sc_way_between.nd rfl (Or.inl rfl) (pe_call G_steps_from (hr.mono (by omega)) rfl T.g_steps_from T.F_steps_from.kp T.b_steps_from .nil pass0 (pa_cons (pv 4) (pa_cons (pv 2) pa_nil))))
      (pss_cons (ps_if (pt_cmpR (op_notInDk (hu_of hr)) (pv 3) (pv 5) (by rfl)) (pss_one (ps_ret pe_non)) pss_nil)
      (pss_cons (ps_set (i := 6) sc_way_between.nd rfl (Or.inl rfl) (pe_lst (pa_cons (pv 3) pa_nil)))
      (pss_cons (ps_while (passes_of rfl) (pt_cmpR op_ne (pe_ix ix_list (pv 6) (pe_un un_neg pe_int) (fun _ _ => rfl)) (pv 2) (nomark _)) (pss_one (ps_expr (pe_bm PySem.F.plainAttrs_list PySem.F.slot_list_append PySem.F.type_list_append mt_append (pv 6) (pa_cons (pe_dget (hu_of hr) (pv 5) (pe_ix ix_list (pv 6) (pe_un un_neg pe_int) (fun _ _ => rfl)) (fun _ _ => rfl)) pa_nil)))))
      (pss_one (ps_ret (pe_revL (pv 6))))))))))), ?_⟩
    walk_at "ss"
    refine ⟨n, v, cd, ck, rfl, hI.at_, hI.good, hI.nocalls, hI.cks, fun d ls H1 e1 hd hls hln hdl D1 => ?_⟩
    walk_at "ss"
    refine ⟨d, n.names, ls, _, x, rfl, D1, ?_⟩
    rcases h with ⟨hu, k⟩ | ⟨a, rfl, ha, h⟩
    · exact .inr ⟨hu.up e1, k.back e1⟩
    refine .inl ⟨a, rfl, ha, ?_⟩
    walk_at "ss"
    refine ⟨d, n.names, ls, _, y, rfl, D1, ?_⟩
    rcases h with ⟨hu, k⟩ | ⟨o, rfl, ho, h⟩
    · exact .inr ⟨hu.up e1, k.back e1⟩
    refine .inl ⟨o, rfl, ho, ?_⟩
    walk_at "ss"
    refine ⟨d, n.names, ls, _, a, rfl, D1, hok, reads_nodup hI.good, ha, fun q H2 hq e2 g2 => ?_⟩
    have E2 := e1.trans e2
    obtain ⟨hbn, hbU⟩ := bf_ok (i := n.names.length) ha hok.sub (reads_nodup hI.good)
    walk_at "ss"
    refine ⟨q, _, rfl, dgetK g2, ?_⟩
    rw [key_in (bfF_keys _)]
    walk_at "ss"
    rcases h with ⟨hn, k⟩ | ⟨kk, p, dd, hk, k⟩
    · have hc : (namesE (bf (readsBy ck n) a n.names.length)).contains o = false := by
        cases h : (namesE (bf (readsBy ck n) a n.names.length)).contains o with
        | false => rfl
        | true => exact absurd (con_iff.mp h) hn
      rw [hc]
      refine if_tt (by rfl) ?_
      walk_at "ss"
      exact k _ E2
    have hk : (bf (readsBy ck n) a n.names.length)[kk]? = some (o, p, dd) := hk
    have hc : (namesE (bf (readsBy ck n) a n.names.length)).contains o = true := con_iff.mpr (List.mem_map.mpr ⟨_, List.mem_of_getElem? hk, rfl⟩)
    rw [hc]
    refine if_ff (by rfl) ?_
    have hd1 : 1 ≤ dd := by
      rcases bf_pred hk with ⟨_, _, _, h⟩ | ⟨_, _, _, _, _, _, h, _, _⟩
      · omega
      · exact h
    have hnl : (namesE (bf (readsBy ck n) a n.names.length)).length ≤ n.names.length := nodup_le hbn hbU
    have hpos := (bf_pos (rd := readsBy ck n) (a := a) n.names.length).2
    walk_at "ss"
    refine newL fun fl H3 hfl e3 g3 => ?_
    have hflH : H fl = none := fresh_back E2 hfl
    have g23 := e3 _ _ g2
    generalize hbl : bf (readsBy ck n) a n.names.length = l at hbn hbU hk hnl hpos g23 hc
    have hprd : ∀ {k : Nat} {o : Str} {p : Option Str} {d : Nat}, l[k]? = some (o, p, d) → (k = 0 ∧ o = a ∧ p = none ∧ d = 1) ∨ ∃ s q j, p = some s ∧ o ∈ readsBy ck n s ∧ j < k ∧ 1 ≤ d ∧ l[j]? = some (s, q, d - 1) ∧ 1 ≤ d - 1 := fun h => by rw [← hbl] at h ⊢; exact bf_pred h
    have hdU : ∀ F, PathOk l (readsBy ck n) o dd F → F.length ≤ 1000 := fun F hF => by
      have hs : ∀ s ∈ F, s ∈ namesE l := fun s hs => by
        obtain ⟨i, hi, rfl⟩ := List.mem_iff_getElem.mp hs
        obtain ⟨k, p, hk⟩ := hF.ent i _ (List.getElem?_eq_getElem hi)
        exact List.mem_map.mpr ⟨_, List.mem_of_getElem? hk, rfl⟩
      have := nodup_le (hF.nodup hbn) hs
      omega
    walk_at "ss"
    refine while_do (fun σ' G => σ' = [some v, some (.ref cd), some (.str a), some (.str o), some (.ref d), some (.ref q), some (.ref fl)] ∧ Ex H G ∧ G q = some (.dK (bfF l)) ∧ ∃ F, G fl = some (.lst (F.map V.str)) ∧ PathOk l (readsBy ck n) o dd F)
      (fun σ' G => match G fl with | some (HO.lst xs) => dd - xs.length | _ => 0) ⟨rfl, E2.trans e3, g23, [o], g3, PathOk.one hk hd1⟩ ?_
    rintro σ' G ⟨rfl, eG, gq, F, gf, hF⟩
    have hF0 := hF.ne
    have hFl := hF.len
    have hF1 := hdU F hF
    obtain ⟨x, hx⟩ : ∃ x, F[F.length - 1]? = some x := ⟨_, List.getElem?_eq_getElem (by omega)⟩
    obtain ⟨kx, px, hkx⟩ := hF.ent _ _ hx
    walk_at "ss"
    refine c_ixL (SqL.of gf) (at_m1 hx) ?_
    walk_at "ss"
    rw [dec_s]
    by_cases hxa : x = a
    · subst hxa
      rw [decide_eq_true rfl]
      refine if_ff (by rfl) ?_
      walk_at "ss"
      refine c_revL ?_
      walk_at "ss"
      refine ⟨fl, _, rfl, SqL.of gf, fun p9 hp9 => ?_⟩
      rw [← List.map_reverse]
      exact k _ p9 _ (way_of hbn hbU hU1 hnl hF hx hpos) (fresh_back eG hp9) (eG.trans (Ex.new hp9)) upd_same
    · rw [decide_eq_false hxa]
      refine if_tt (by rfl) (c_turn ?_)
      rcases hprd hkx with ⟨_, h, _⟩ | ⟨s, q2, j, rfl, hrs, hj, h1, hks, h2⟩
      · exact absurd h hxa
      walk_at "ss"
      refine ⟨.inl ⟨rfl, _, SqL.of gf⟩, ?_⟩
      walk_at "ss"
      refine c_ixL (SqL.of gf) (at_m1 hx) ?_
      refine ⟨q, _, rfl, by rw [← (show valV (bfF l) (.inr x) = some (V.str s) from val_pred hbn hkx)]; exact dgetK gq, ?_⟩
      walk_at "ss"
      refine ⟨fl, _, _, rfl, rfl, gf, Evl.sz_lt (by rw [List.length_map]; omega), ?_⟩
      walk_at "ss"
      have hF2 := hF.more hx hrs hks h2
      have hl2 := hF2.len
      rw [List.length_append, List.length_singleton] at hl2
      refine ⟨⟨rfl, Ex.mut eG hflH, by rw [upd_ne (ne_of gq gf (fun z => by cases z))]; exact gq, F ++ [s], by rw [upd_same, List.map_append]; rfl, hF2⟩, ?_⟩
      rw [upd_same, gf]
      show dd - (F.map V.str ++ [V.str s]).length < dd - (F.map V.str).length
      rw [List.length_append, List.length_map, List.length_singleton]
      omega
/-- is_way, where it is refused -/
def sp_is_wayX (K : PySem.W.Frag) (Z : Adr) : Sp := fun vs H Q E => ∃ n v cd ck x y t, vs = [v, .ref cd, x, y, t] ∧ NdIn Z H n v cd ck ∧ ((UnkV K H n.names x ∧ UnkE Z x H E) ∨ ∃ a, x = .str a ∧ a ∈ n.names ∧ UnkV K H n.names y ∧ UnkE Z y H E)
theorem okX_is_way (T : Txt K mg Z) : FnOk P w K mg base (L2N.CX P w) 12 Z.f_is_way Z.fd_is_way ["node", "clocks", "one", "other", "thing"] (sp_is_wayX K Z) := by
  have G_reads_of := ok_reads_of (P := P) (w := w) (base := base) T
  have GX_need_known := okX_need_known (P := P) (w := w) (base := base) T
  refine T.F_is_way.okN sc_is_way (fun vs H Q E h => ?_) (fun cdv AA outer s H vs Q E hr h => ?_)
  · obtain ⟨n, v, cd, ck, x, y, t, rfl, _⟩ := h
    rfl
  · obtain ⟨n, v, cd, ck, x, y, t, rfl, hI, h⟩ := h
    refine ⟨_, (pss_cons (ps_set (i := 5) sc_is_way.nd rfl (Or.inl rfl) (pe_call G_reads_of (hr.mono (by omega)) rfl T.g_reads_of T.F_reads_of.kp T.b_reads_of .nil pass0 (pa_cons (pv 0) (pa_cons (pv 1) pa_nil))))
      (pss_cons (ps_expr (pe_call GX_need_known (hr.mono (by omega)) rfl T.g_need_known T.F_need_known.kp T.b_need_known .nil (passH (L2N.takes_of rfl rfl rfl rfl) (fun _ _ _ _ h => h)) (pa_cons (pv 5) (pa_cons (pv 2) pa_nil))))
      (pss_cons (ps_expr (pe_call GX_need_known (hr.mono (by omega)) rfl T.g_need_known T.F_need_known.kp T.b_need_known .nil (passH (L2N.takes_of rfl rfl rfl rfl) (fun _ _ _ _ h => h)) (pa_cons (pv 5) (pa_cons (pv 3) pa_nil))))
      (pss_cons ps_never
      (pss_one ps_never))))), ?_⟩
    walk_at "ss"
    refine ⟨n, v, cd, ck, rfl, hI.at_, hI.good, hI.nocalls, hI.cks, fun d ls H1 e1 hd hls hln hdl D1 => ?_⟩
    walk_at "ss"
    refine ⟨d, n.names, ls, _, x, rfl, D1, ?_⟩
    rcases h with ⟨hu, k⟩ | ⟨a, rfl, ha, hu, k⟩
    · exact .inr ⟨hu.up e1, k.back e1⟩
    refine .inl ⟨a, rfl, ha, ?_⟩
    walk_at "ss"
    exact ⟨d, n.names, ls, _, y, rfl, D1, .inr ⟨hu.up e1, k.back e1⟩⟩

/-! ### how far, by the law; ways that are right; what is refused -/
open TL (tl)
theorem bf_pre {rd : Str → List Str} {a : Str} {i k : Nat} (hk : k < (bf rd a i).length) : ∀ j, (bf rd a (i + j))[k]? = (bf rd a i)[k]? ∧ (bf rd a i).length ≤ (bf rd a (i + j)).length
  | 0 => ⟨rfl, Nat.le_refl _⟩
  | j + 1 => by
    obtain ⟨h1, h2⟩ := bf_pre hk j
    rw [show i + (j + 1) = i + j + 1 from rfl]
    cases h : (bf rd a (i + j))[i + j]? with
    | none => rw [bf_none h]; exact ⟨h1, h2⟩
    | some e =>
      rw [bf_some h, List.getElem?_append_left (by omega), List.length_append]
      exact ⟨h1, by omega⟩
theorem names_ext {l : List Ent} {s : Str} {d : Nat} (os : List Str) : namesE (l ++ os.map fun o => (o, some s, d)) = namesE l ++ os := by
  unfold namesE
  rw [List.map_append, List.map_map]
  congr 1
  exact List.map_id _
theorem namesE_len (l : List Ent) : (namesE l).length = l.length := by unfold namesE; rw [List.length_map]
theorem drop_empty {l : List Str} {t : Nat} : ((l.drop t).map V.str).isEmpty = decide (l.length ≤ t) := by
  rw [isEmpty_map]
  cases h : l.drop t with
  | nil => exact (decide_eq_true (List.drop_eq_nil_iff.mp h)).symm
  | cons a r =>
    refine (decide_eq_false fun z => ?_).symm
    rw [List.drop_eq_nil_iff.mpr z] at h
    cases h
def sp_far_l : Sp := fun vs H Q _ => ∃ d U ls rd a, vs = [.ref d, .str a] ∧ DLs H d U ls rd ∧ RdOk U rd ∧ (∀ s, (rd s).Nodup) ∧ a ∈ U ∧ ∀ q H2, H q = none → Ex H H2 → H2 q = some (.dK (bfD (bf rd a U.length))) → Q (.ref q) H2
theorem ok_far_l (T : Txt K mg Z) : FnOk P w K mg base CX0 1 Z.f_far_l Z.fd_far_l ["_law_reads_here", "_law_name"] sp_far_l := by
  refine T.F_far_l.ok sc_far_l (fun vs H Q E h => ?_) (fun cdv AA outer s H vs Q E hr h => ?_)
  · obtain ⟨d, U, ls, rd, a, rfl, _⟩ := h
    rfl
  · obtain ⟨d, U, ls, rd, a, rfl, hD, hok, hrn, haU, k⟩ := h
    have hU1 := hok.len
    have hbl := fun i => bf_len (i := i) haU hok.sub hrn
    have hbo := fun i => bf_ok (i := i) haU hok.sub hrn
    refine ⟨_, (pss_cons (ps_set (i := 2) sc_far_l.nd rfl (Or.inl rfl) (pe_disp (pps_cons (pv 1) pe_int pps_nil) (by rfl) (by rfl) (fun z => by cases z) (by decide)))
      (pss_cons (ps_set (i := 3) sc_far_l.nd rfl (Or.inl rfl) (pe_lst (pa_cons (pv 1) pa_nil)))
      (pss_cons (ps_while PassesOwn.never (pt_cmpR (op_neNil (hu68 hr)) (pv 3) (pe_lst pa_nil) (nomark _)) (pss_cons (ps_set (i := 4) sc_far_l.nd rfl (Or.inl rfl) (pe_lst pa_nil))
      (Evl.pss_cut (ps_for PassesOwn.never rfl (pi_list (pv 3)) (pg_name (i := 5) sc_far_l.nd rfl (Or.inl rfl)) (pss_one (ps_for PassesOwn.never rfl (pi_list (pe_dget (hu_of hr) (pv 0) (pv 5) (fun _ _ => rfl))) (pg_name (i := 6) sc_far_l.nd rfl (Or.inl rfl)) (pss_one (ps_if (pt_cmpR (op_notInDk (hu_of hr)) (pv 6) (pv 2) (by rfl)) (pss_cons (ps_dput (hu_of hr) (pv 2) (pv 6) (pe_op op_add (pe_dget (hu_of hr) (pv 2) (pv 5) (fun _ _ => rfl)) pe_int) rfl)
      (pss_one (ps_expr (pe_bm PySem.F.plainAttrs_list PySem.F.slot_list_append PySem.F.type_list_append mt_append (pv 4) (pa_cons (pv 6) pa_nil))))) pss_nil)))))
      (pss_one (ps_set (i := 3) sc_far_l.nd rfl (Or.inl rfl) (pv 4))))))
      (pss_one (ps_ret (pv 2)))))), ?_⟩
    walk_at "ss"
    refine c_disp fun q hq => c_pairs1 ?_
    walk_at "ss"
    refine ⟨upd_same, [((.inr a : Key), V.int 1)], rfl, by simp, ?_⟩
    have e1 : Ex H (upd (upd H q (.dK [])) q (.dK (mergeK [] [((.inr a : Key), V.int 1)]))) := Ex.mut (Ex.new hq) hq
    have g1 : upd (upd H q (.dK [])) q (.dK (mergeK [] [((.inr a : Key), V.int 1)])) q = some (.dK (bfD (bf rd a 0))) := by rw [upd_same]; rfl
    generalize upd (upd H q (.dK [])) q (.dK (mergeK [] [((.inr a : Key), V.int 1)])) = H1 at e1 g1
    walk_at "ss"
    refine newL fun r0 H2 hr0 e2 g2 => ?_
    walk_at "ss"
    refine while_do (fun σ' G => ∃ t rl v4 v5 v6, σ' = [some (.ref d), some (.str a), some (.ref q), some (.ref rl), v4, v5, v6] ∧ Ex H G ∧ t ≤ (bf rd a t).length ∧ G q = some (.dK (bfD (bf rd a t))) ∧ G rl = some (.lst (((namesE (bf rd a t)).drop t).map V.str)))
      (fun (σ' : L2.St) (G : Hp) => match (σ'[3]? : Option (Option V)) with | some (some (V.ref rl)) => (match G q, G rl with | some (HO.dK kv), some (HO.lst xs) => U.length + 1 - (kv.length - xs.length) | _, _ => 0) | _ => 0) ⟨0, r0, _, _, _, rfl, e1.trans e2, Nat.zero_le _, e2 _ _ g1, g2⟩ ?_
    rintro σ' G ⟨t, rl, v4, v5, v6, rfl, eG, ht, gq, grl⟩
    have hlt := hbl t
    walk_at "ss"
    refine newL fun el G1 hel f1 m1 => ?_
    refine ⟨rl, el, _, rfl, rfl, SqL.of (f1 _ _ grl), SqL.of m1, ?_⟩
    rw [drop_empty, namesE_len]
    have eG1 := eG.trans f1
    have gq1 := f1 _ _ gq
    have grl1 := f1 _ _ grl
    walk_at "ss"
    by_cases hend : (bf rd a t).length ≤ t
    · refine if_ff (by rw [decide_eq_true hend]; rfl) ?_
      walk_at "ss"
      have hst := bf_stay (rd := rd) (a := a) (i := t) (List.getElem?_eq_none_iff.mpr hend) (U.length - t)
      rw [show t + (U.length - t) = U.length by omega] at hst
      exact k q _ hq eG1 (by rw [hst]; exact gq1)
    refine if_tt (by rw [decide_eq_false hend]; rfl) (c_turn ?_)
    walk_at "ss"
    refine newL fun fr G2 hfr f2 m2 => ?_
    have eG2 := eG1.trans f2
    have gq2 := f2 _ _ gq1
    have grl2 := f2 _ _ grl1
    have hfrH : H fr = none := fresh_back eG1 hfr
    have nrf : rl ≠ fr := ne_of_none grl1 hfr
    have hrl : ((namesE (bf rd a t)).drop t).length = (bf rd a t).length - t := by rw [List.length_drop, namesE_len]
    walk_at "ss"
    refine c_cut (M := fun σ' G' => (∃ v5 v6, σ' = [some (.ref d), some (.str a), some (.ref q), some (.ref rl), some (.ref fr), v5, v6]) ∧ Ex H G' ∧ G' q = some (.dK (bfD (bf rd a (bf rd a t).length))) ∧ G' fr = some (.lst (((namesE (bf rd a (bf rd a t).length)).drop (bf rd a t).length).map V.str))) ?_ ?_
    · walk_at "ss"
      refine ⟨⟨_, SqL.of grl2⟩, forL (xs := ((namesE (bf rd a t)).drop t).map V.str) (fun j σ' G' => (∃ v5 v6, σ' = [some (.ref d), some (.str a), some (.ref q), some (.ref rl), some (.ref fr), v5, v6]) ∧ Ex H G' ∧ G' rl = some (.lst (((namesE (bf rd a t)).drop t).map V.str)) ∧ G' q = some (.dK (bfD (bf rd a (t + j)))) ∧ G' fr = some (.lst (((namesE (bf rd a (t + j))).drop (bf rd a t).length).map V.str))) ⟨⟨_, _, rfl⟩, eG2, grl2, gq2, by rw [show ((namesE (bf rd a (t + 0))).drop (bf rd a t).length) = [] from List.drop_eq_nil_iff.mpr (by rw [namesE_len]; exact Nat.le_refl _)]; exact m2⟩ (fun j σ' G' _ q => SqL.of q.2.2.1) ?_ ?_⟩
      · rintro j x σ' G' hx ⟨⟨v5, v6, rfl⟩, eG', grl', gq', gfr'⟩
        rw [List.getElem?_map] at hx
        obtain ⟨s, hs, rfl⟩ := Option.map_eq_some_iff.mp hx
        rw [List.getElem?_drop] at hs
        have htj := (List.getElem?_eq_some_iff.mp hs).1
        rw [namesE_len] at htj
        obtain ⟨hp1, hp2⟩ := bf_pre htj j
        obtain ⟨e, he, hes⟩ : ∃ e, (bf rd a t)[t + j]? = some e ∧ e.1 = s := by
          unfold namesE at hs
          rw [List.getElem?_map] at hs
          exact Option.map_eq_some_iff.mp hs
        have hbi : (bf rd a (t + j))[t + j]? = some e := hp1.trans he
        subst hes
        have hl := hbl (t + j)
        have hesU : e.1 ∈ U := (hbo t).2 _ (List.mem_map.mpr ⟨e, List.mem_of_getElem? he, rfl⟩)
        have DG := hD.up eG'
        obtain ⟨j0, aj, hj1, hj2⟩ := dlK_at DG.1 hesU
        have gaj := hD.2.2 j0 e.1 aj hj1 hj2
        have hrle := hok.rlen _ hesU
        walk_at "ss"
        refine ⟨d, _, rfl, by rw [← dlK_get hok.nodup hj1 hj2]; exact dgetK DG.2.1, ?_⟩
        refine ⟨aj, rfl, ⟨_, SqL.of (eG' _ _ gaj)⟩, forL (xs := (rd e.1).map V.str) (fun i σ' G'' => (∃ v6, σ' = [some (.ref d), some (.str a), some (.ref q), some (.ref rl), some (.ref fr), some (.str e.1), v6]) ∧ Ex H G'' ∧ G'' rl = some (.lst (((namesE (bf rd a t)).drop t).map V.str)) ∧ G'' q = some (.dK (bfD (bf rd a (t + j) ++ (((rd e.1).take i).filter fun o => !(namesE (bf rd a (t + j))).contains o).map fun o => (o, some e.1, e.2.2 + 1)))) ∧ G'' fr = some (.lst (((namesE (bf rd a (t + j))).drop (bf rd a t).length ++ ((rd e.1).take i).filter fun o => !(namesE (bf rd a (t + j))).contains o).map V.str))) ⟨⟨_, rfl⟩, eG', grl', by simpa using gq', by simpa using gfr'⟩ (fun i σ' G'' _ q => SqL.of (q.2.1 _ _ gaj)) ?_ ?_⟩
        · rintro i x σ' G'' hx ⟨⟨v6, rfl⟩, eG'', grl'', gq'', gfr''⟩
          rw [List.getElem?_map] at hx
          obtain ⟨o, ho, rfl⟩ := Option.map_eq_some_iff.mp hx
          have hnj : o ∉ (rd e.1).take i := fun z => nodup_at (hrn e.1) ho z (Nat.le_refl _) rfl
          have hkeys := bfD_keys (bf rd a (t + j) ++ (((rd e.1).take i).filter fun o => !(namesE (bf rd a (t + j))).contains o).map fun o => (o, some e.1, e.2.2 + 1))
          rw [names_ext] at hkeys
          have hcon : (namesE (bf rd a (t + j)) ++ ((rd e.1).take i).filter fun o => !(namesE (bf rd a (t + j))).contains o).contains o = (namesE (bf rd a (t + j))).contains o := by
            cases hc : (namesE (bf rd a (t + j))).contains o with
            | true => exact con_iff.mpr (List.mem_append_left _ (con_iff.mp hc))
            | false =>
              cases hd : (namesE (bf rd a (t + j)) ++ ((rd e.1).take i).filter fun o => !(namesE (bf rd a (t + j))).contains o).contains o with
              | false => rfl
              | true =>
                rcases List.mem_append.mp (con_iff.mp hd) with h | h
                · rw [con_iff.mpr h] at hc; cases hc
                · exact absurd (List.mem_filter.mp h).1 hnj
          have hnod : (namesE (bf rd a (t + j) ++ (((rd e.1).take i).filter fun o => !(namesE (bf rd a (t + j))).contains o).map fun o => (o, some e.1, e.2.2 + 1))).Nodup := by
            rw [names_ext]
            have h := (hbo (t + j + 1)).1
            rw [bf_some hbi, names_ext] at h
            exact h.sublist (List.Sublist.append (List.Sublist.refl _) (List.Sublist.filter _ (List.take_sublist _ _)))
          have hval := val_dist hnod (k := t + j) (x := e.1) (p := e.2.1) (d := e.2.2) (by rw [List.getElem?_append_left (List.getElem?_eq_some_iff.mp hbi).1]; exact hbi)
          walk_at "ss"
          refine ⟨q, _, rfl, dgetK gq'', ?_⟩
          rw [key_in hkeys, hcon]
          walk_at "ss"
          have hfl : (((rd e.1).take i).filter fun o => !(namesE (bf rd a (t + j))).contains o).length ≤ 1000 := Nat.le_trans (List.length_filter_le _ _) (by rw [List.length_take]; omega)
          refine if_cs (fun hc => ?_) (fun hc => ?_)
          · have hcf : (namesE (bf rd a (t + j))).contains o = false := by simpa using hc
            have hfresh : (Sum.inr o : Key) ∉ (bfD (bf rd a (t + j) ++ (((rd e.1).take i).filter fun o => !(namesE (bf rd a (t + j))).contains o).map fun o => (o, some e.1, e.2.2 + 1))).map (·.1) := by
              rw [hkeys]
              intro hm
              obtain ⟨z, hz, e2⟩ := List.mem_map.mp hm
              cases Sum.inr.inj e2
              rw [con_iff.mpr hz] at hcon
              rw [← hcon] at hcf
              cases hcf
            walk_at "ss"
            refine ⟨q, _, rfl, by rw [← hval]; exact dgetK gq'', ?_⟩
            walk_at "ss"
            refine ⟨q, _, rfl, .inl ⟨_, .inr o, gq'', rfl, Evl.sz_lt (by unfold bfD; rw [List.length_map, List.length_append, List.length_map]; omega), rfl⟩, ?_⟩
            rw [putK_fresh hfresh]
            have gf2 : upd G'' q (.dK (bfD (bf rd a (t + j) ++ (((rd e.1).take i).filter fun o => !(namesE (bf rd a (t + j))).contains o).map fun o => (o, some e.1, e.2.2 + 1)) ++ [((.inr o : Key), V.int ((e.2.2 : Int) + 1))])) fr = some (.lst (((namesE (bf rd a (t + j))).drop (bf rd a t).length ++ ((rd e.1).take i).filter fun o => !(namesE (bf rd a (t + j))).contains o).map V.str)) := by rw [upd_ne (ne_of gfr'' gq'' (fun z => by cases z))]; exact gfr''
            walk_at "ss"
            refine ⟨.inl ⟨rfl, _, SqL.of gf2⟩, ?_⟩
            walk_at "ss"
            refine ⟨fr, _, _, rfl, rfl, gf2, Evl.sz_lt (by rw [List.length_map, List.length_append, List.length_drop, namesE_len]; omega), ?_⟩
            walk_at "ss"
            refine ⟨⟨_, rfl⟩, Ex.mut (Ex.mut eG'' hq) hfrH, by rw [upd_ne nrf, upd_ne (ne_of grl'' gq'' (fun z => by cases z))]; exact grl'', ?_, ?_⟩
            · rw [upd_ne (ne_of gq'' gfr'' (fun z => by cases z)), upd_same, newO_snoc ho, hcf]
              show some (HO.dK _) = some (HO.dK (bfD (_ ++ List.map _ (_ ++ [o]))))
              rw [List.map_append, ← List.append_assoc]
              unfold bfD
              rw [List.map_append (l₁ := _ ++ _)]
              rfl
            · rw [upd_same, newO_snoc ho, hcf]
              show some (HO.lst _) = some (HO.lst ((_ ++ (_ ++ [o])).map V.str))
              rw [← List.append_assoc, List.map_append (l₁ := _ ++ _)]
              rfl
          · have hcf : (namesE (bf rd a (t + j))).contains o = true := by simpa using hc
            walk_at "ss"
            refine ⟨⟨_, rfl⟩, eG'', grl'', ?_, ?_⟩
            · rw [newO_snoc ho, hcf, if_pos rfl, List.append_nil]; exact gq''
            · rw [newO_snoc ho, hcf, if_pos rfl, List.append_nil]; exact gfr''
        · rintro σ' G'' ⟨⟨v6, rfl⟩, eG'', grl'', gq'', gfr''⟩
          rw [List.length_map, List.take_length] at gq'' gfr''
          walk_at "ss"
          refine ⟨⟨_, _, rfl⟩, eG'', grl'', by rw [show t + (j + 1) = t + j + 1 from rfl, bf_some hbi]; exact gq'', ?_⟩
          rw [show t + (j + 1) = t + j + 1 from rfl, bf_some hbi, names_ext, List.drop_append_of_le_length (by rw [namesE_len]; exact hp2)]
          exact gfr''
      · rintro σ' G' ⟨⟨v5, v6, rfl⟩, eG', grl', gq', gfr'⟩
        rw [List.length_map, hrl, show t + ((bf rd a t).length - t) = (bf rd a t).length by omega] at gq' gfr'
        walk_at "ss"
        exact ⟨⟨_, _, rfl⟩, eG', gq', gfr'⟩
    rintro σ' G3 ⟨⟨v5, v6, rfl⟩, eG3, gq3, gfr3⟩
    walk_at "ss"
    have hp := (bf_pre (rd := rd) (a := a) (i := t) (k := 0) (by omega) ((bf rd a t).length - t)).2
    rw [show t + ((bf rd a t).length - t) = (bf rd a t).length by omega] at hp
    have hlm := hbl (bf rd a t).length
    refine ⟨⟨(bf rd a t).length, fr, _, _, _, rfl, eG3, hp, gq3, gfr3⟩, ?_⟩
    show (match G3 q, G3 fr with | some (HO.dK kv), some (HO.lst xs) => U.length + 1 - (kv.length - xs.length) | _, _ => 0) < (match G q, G rl with | some (HO.dK kv), some (HO.lst xs) => U.length + 1 - (kv.length - xs.length) | _, _ => 0)
    rw [gq3, gfr3, gq, grl]
    show U.length + 1 - ((bfD _).length - (List.map V.str _).length) < U.length + 1 - ((bfD _).length - (List.map V.str _).length)
    unfold bfD
    rw [List.length_map, List.length_map, List.length_drop, namesE_len, List.length_map, List.length_map, hrl]
    omega

/-! ### ways that are right; what is refused -/
open TL (tl)
def sp_way_right_l (Z : Adr) : Sp := fun vs H Q _ => ∃ n v cd ck d ls f a o, vs = [v, .ref cd, .ref d, .ref f, .str a, .str o] ∧ NdIn Z H n v cd ck ∧ DLs H d n.names ls (readsBy ck n) ∧ H f = some (.dK (bfD (farE ck n a))) ∧ a ∈ n.names ∧ o ∈ n.names ∧ ∀ H2, Ex H H2 → Q (.bl true) H2
theorem ok_way_right_l (T : Txt K mg Z)  : FnOk P w K mg base CX0 (14) Z.f_way_right_l Z.fd_way_right_l ["_law_node", "_law_clocks", "_law_reads_here", "_law_far_here", "_law_one", "_law_other"] (sp_way_right_l Z) := by
  have G_is_row_l := ok_is_row_l (P := P) (w := w) (base := base) T
  refine T.F_way_right_l.ok sc_way_right_l (fun vs H Q E h => ?_) (fun cdv AA outer s H vs Q E hr h => ?_)
  · obtain ⟨n, v, cd, ck, d, ls, f, a, o, rfl, _⟩ := h
    rfl
  · obtain ⟨n, v, cd, ck, d, ls, f, a, o, rfl, hI, hD, gf, ha, ho, k⟩ := h
    have GX_way_between := okX_way_between (P := P) (w := w) (base := base) T
    have hok := hI.ok
    have hU1 := hok.len
    obtain ⟨hbn, hbU⟩ := bf_ok (i := n.names.length) ha hok.sub (reads_nodup hI.good)
    have hkeys := bfD_keys (farE ck n a)
    refine ⟨_, (pss_cons (ps_for PassesOwn.never rfl (pi_range1 (by rfl) T.n_range (pa_cons pe_int pa_nil)) (pg_name (i := 6) sc_way_right_l.nd rfl (Or.inl rfl)) (pss_cons (ps_set (i := 7) sc_way_right_l.nd rfl (Or.inl rfl) (pe_call GX_way_between (hr.mono (by omega)) rfl T.g_way_between T.F_way_between.kp T.b_way_between .nil passN0 (pa_cons (pv 0) (pa_cons (pv 1) (pa_cons (pv 4) (pa_cons (pv 5) pa_nil))))))
      (pss_cons (ps_if (pt_cmpR (op_notInDk (hu_of hr)) (pv 5) (pv 3) (by rfl)) (pss_one (ps_ret (pe_cmpR op_isN (pv 7) pe_non (nomark _)))) pss_nil)
      (pss_cons (ps_if (PW.pt (pw_or (pt_not (pt_val (pe_call G_is_row_l (hr.mono (by omega)) rfl T.g_is_row_l T.F_is_row_l.kp T.b_is_row_l .nil pass0 (pa_cons (pv 2) (pa_cons (pv 7) pa_nil))))) (pw_or (pt_cmpR op_ne (pe_ix ix_list (pv 7) pe_int (fun _ _ => rfl)) (pv 4) (nomark _)) (pw_or (pt_cmpR op_ne (pe_ix ix_list (pv 7) (pe_un un_neg pe_int) (fun _ _ => rfl)) (pv 5) (nomark _)) (pw_or1 (pt_cmpR op_ne (pe_callB call_len_seq (by rfl) T.n_len (by decide +kernel) (pa_cons (pv 7) pa_nil)) (pe_dget (hu_of hr) (pv 3) (pv 5) (fun _ _ => rfl)) (nomark _))))))) (pss_one (ps_ret pe_bl)) pss_nil)
      (pss_one (ps_expr (pe_bm PySem.F.plainAttrs_list PySem.F.slot_list_append PySem.F.type_list_append mt_append (pv 7) (pa_cons (pv 4) pa_nil))))))))
      (pss_one (ps_ret pe_bl))), ?_⟩
    walk_at "ss"
    refine ⟨by omega, by omega, ?_⟩
    refine forR (fun i σ' G => (∃ v6 v7, σ' = [some v, some (.ref cd), some (.ref d), some (.ref f), some (.str a), some (.str o), v6, v7]) ∧ Ex H G) ⟨⟨_, _, rfl⟩, Ex.refl _⟩ ?_ ?_
    · rintro i σ' G hi ⟨⟨v6, v7, rfl⟩, e⟩
      have gfG := e _ _ gf
      walk_at "ss"
      refine ⟨n, v, cd, ck, .str a, .str o, rfl, hI.up e, .inr ⟨a, rfl, ha, .inr ⟨o, rfl, ho, ?_⟩⟩⟩
      by_cases hin : o ∈ namesE (farE ck n a)
      · obtain ⟨⟨o', p, dd⟩, hm, e1⟩ := List.mem_map.mp hin
        have e1 : o' = o := e1
        subst e1
        obtain ⟨kk, hkk, hk2⟩ := List.mem_iff_getElem.mp hm
        have hk := (List.getElem?_eq_getElem hkk).trans (congrArg some hk2)
        refine .inr ⟨kk, p, dd, hk, fun W q H2 hW hq e2 g2 => ?_⟩
        have E2 := e.trans e2
        walk_at "ss"
        refine ⟨f, _, rfl, dgetK (E2 _ _ gf), ?_⟩
        rw [key_in hkeys, con_iff.mpr hin]
        walk_at "ss"
        refine ⟨d, n.names, ls, _, q, W, rfl, hD.up E2, hok, g2, hW.row, fun H3 e3 => ?_⟩
        have g3 := e3 _ _ g2
        have E3 := E2.trans e3
        walk_at "ss"
        refine c_ixL (SqL.of g3) (atI_nat (j := 0) (v := V.str a) (by rw [List.getElem?_map, hW.hd]; rfl)) ?_
        walk_at "ss"
        rw [str_eq rfl]
        walk_at "ss"
        refine c_ixL (SqL.of g3) (at_m1 hW.lst) ?_
        walk_at "ss"
        rw [str_eq rfl]
        walk_at "ss"
        refine ⟨q, _, rfl, .inl (SqL.of g3), ?_⟩
        walk_at "ss"
        refine ⟨f, _, rfl, by rw [← val_dist hbn hk]; exact dgetK (E3 _ _ gf), ?_⟩
        walk_at "ss"
        rw [List.length_map, len_eq hW.len]
        refine if_ff (by rfl) ?_
        walk_at "ss"
        refine ⟨.inl ⟨rfl, _, SqL.of g3⟩, ?_⟩
        walk_at "ss"
        have hWl := hW.row.len
        refine ⟨q, _, _, rfl, rfl, g3, Evl.sz_lt (by rw [List.length_map]; omega), ?_⟩
        walk_at "ss"
        exact ⟨⟨_, _, rfl⟩, Ex.mut E3 (fresh_back e hq)⟩
      · refine .inl ⟨hin, fun H2 e2 => ?_⟩
        have E2 := e.trans e2
        walk_at "ss"
        refine ⟨f, _, rfl, dgetK (E2 _ _ gf), ?_⟩
        have hc : (namesE (farE ck n a)).contains o = false := by
          cases h : (namesE (farE ck n a)).contains o with
          | false => rfl
          | true => exact absurd (con_iff.mp h) hin
        rw [key_in hkeys, hc]
        walk_at "ss"
        exact k _ E2
    · rintro σ' G ⟨⟨v6, v7, rfl⟩, e⟩
      walk_at "ss"
      exact k _ e
def sp_refused_l (K : PySem.W.Frag) (Z : Adr) : Sp := fun vs H Q _ => ∃ n v cd ck x y bad t i, vs = [.int i, v, .ref cd, x, y, bad] ∧ NdIn Z H n v cd ck ∧ UnkV K H n.names bad ∧ (∀ H2, Ex H H2 → RpV K H2 bad t) ∧ (x = bad ∨ i ≠ 0 ∧ ∃ a, x = .str a ∧ a ∈ n.names ∧ y = bad) ∧ ∀ H2, Ex H H2 → Q (.bl true) H2
theorem ok_refused_l (T : Txt K mg Z)  : FnG P w K mg base CX0 (14) Z.f_refused_l Z.fd_refused_l ["_law_way", "_law_node", "_law_clocks", "_law_one", "_law_other", "_law_bad"] (sp_refused_l K Z) := by
  refine T.F_refused_l.okG sc_refused_l (fun vs H Q E h => ?_) (fun cdv AA outer s H vs Q E hgd hr h => ?_)
  · obtain ⟨n, v, cd, ck, x, y, bad, t, i, rfl, _⟩ := h
    rfl
  · obtain ⟨n, v, cd, ck, x, y, bad, t, i, rfl, hI, hu, hrp, hxy, k⟩ := h
    have GX_reached_from := okX_reached_from (P := P) (w := w) (base := base) T
    have GX_way_between := okX_way_between (P := P) (w := w) (base := base) T
    have GX_is_way := okX_is_way (P := P) (w := w) (base := base) T
    refine ⟨_, (pss_one (ps_try_allN sc_refused_l.nd rfl rfl takes0 (fun W pn xe tk _ => (pss_one (ps_if (pt_cmpR op_eq (pv 0) pe_int (nomark _)) (pss_one (ps_expr (pe_callS GX_reached_from (hr.mono (by omega)) rfl T.g_reached_from T.F_reached_from.kp T.b_reached_from (fun σ => L2N.passAt tk σ) (pa_cons (pv 1) (pa_cons (pv 2) (pa_cons (pv 3) pa_nil)))))) (pss_one (ps_if (pt_cmpR op_eq (pv 0) pe_int (nomark _)) (pss_one (ps_expr (pe_callS GX_way_between (hr.mono (by omega)) rfl T.g_way_between T.F_way_between.kp T.b_way_between (fun σ => L2N.passAt tk σ) (pa_cons (pv 1) (pa_cons (pv 2) (pa_cons (pv 3) (pa_cons (pv 4) pa_nil))))))) (pss_one (ps_expr (pe_callS GX_is_way (hr.mono (by omega)) rfl T.g_is_way T.F_is_way.kp T.b_is_way (fun σ => L2N.passAt tk σ) (pa_cons (pv 1) (pa_cons (pv 2) (pa_cons (pv 3) (pa_cons (pv 4) (pa_cons (pe_lst pa_nil) pa_nil))))))))))))) (.named (i := 6) rfl rfl ⟨rfl, by decide, .inl T.m_Unknown⟩ (fun a oe cls d pn hz hf hot => (pss_one (ps_ret (pe_and (pe_cmpR op_eq (pe_callB (call_reprS hgd (un62 hr)) (by rfl) T.n_repr (by decide +kernel) (pa_cons (pe_xf (exB_ok T.x_Unknown).ic.xf ((exB_ok T.x_Unknown).no _ (by decide +kernel)) hz hf (pv 6)) pa_nil)) (pe_callB (call_reprS hgd (un62 hr)) (by rfl) T.n_repr (by decide +kernel) (pa_cons (pv 5) pa_nil)) (nomark _)) (pe_one (pe_callB (call_isP (exB_ok T.x_Unknown).ic hz hf) (by rfl) T.n_isinstance (by decide +kernel) (pa_cons (pv 6) (pa_cons (pe_gcst (v := .ref Z.c_BeatError) rfl ⟨_, T.m_BeatError, rfl⟩) pa_nil)))))))) .nil) (pss_one (ps_ret pe_bl)))), ?_⟩
    walk_at "ss"
    by_cases h0 : i = 0
    · subst h0
      rcases hxy with rfl | ⟨h, _⟩
      rotate_left
      · exact absurd rfl h
      refine if_tt (by rfl) ?_
      walk_at "ss"
      refine ⟨n, v, cd, ck, _, rfl, hI, .inr ⟨hu, fun z H2 hz2 e2 g2 => ?_⟩⟩
      refine ⟨true, T.fact_exmU, fun _ ae hae => ?_, fun z => nomatch z⟩
      walk_at "ss"
      refine ⟨z, _, _, rfl, g2, lk_hd, ?_⟩
      walk_at "ss"
      refine ⟨_, t, rfl, hrp _ e2, ?_⟩
      walk_at "ss"
      refine ⟨_, t, rfl, hrp _ e2, ?_⟩
      walk_at "ss"
      rw [str_eq rfl]
      walk_at "ss"
      refine ⟨_, _, true, rfl, .own _, rfl, ⟨z, _, rfl, g2⟩, T.fact_kitUB, ?_⟩
      exact k _ e2
    have hxy2 : x = bad ∨ ∃ a, x = .str a ∧ a ∈ n.names ∧ y = bad := hxy.imp id And.right
    clear hxy
    refine if_ff (decide_eq_false fun z => h0 (V.int.inj z)) ?_
    walk_at "ss"
    by_cases h1 : i = 1
    · subst h1
      refine if_tt (by rfl) ?_
      walk_at "ss"
      refine ⟨n, v, cd, ck, x, y, rfl, hI, ?_⟩
      have key : ∀ (Q : VK) (E : XK), UnkE Z bad H E → (UnkV K H n.names x ∧ UnkE Z x H E) ∨ ∃ a, x = .str a ∧ a ∈ n.names ∧ ((UnkV K H n.names y ∧ UnkE Z y H E) ∨ ∃ o, y = .str o ∧ o ∈ n.names ∧ WayP ck n a o H Q) := fun Q E kE => by
        rcases hxy2 with rfl | ⟨a, rfl, ha, rfl⟩
        · exact .inl ⟨hu, kE⟩
        · exact .inr ⟨a, rfl, ha, .inl ⟨hu, kE⟩⟩
      refine key _ _ fun z H2 hz2 e2 g2 => ?_
      refine ⟨true, T.fact_exmU, fun _ ae hae => ?_, fun z => nomatch z⟩
      walk_at "ss"
      refine ⟨z, _, _, rfl, g2, lk_hd, ?_⟩
      walk_at "ss"
      refine ⟨_, t, rfl, hrp _ e2, ?_⟩
      walk_at "ss"
      refine ⟨_, t, rfl, hrp _ e2, ?_⟩
      walk_at "ss"
      rw [str_eq rfl]
      walk_at "ss"
      refine ⟨_, _, true, rfl, .own _, rfl, ⟨z, _, rfl, g2⟩, T.fact_kitUB, ?_⟩
      exact k _ e2
    refine if_ff (decide_eq_false fun z => h1 (V.int.inj z)) ?_
    walk_at "ss"
    refine newL fun l H1 hl e1 g1 => ?_
    walk_at "ss"
    refine ⟨n, v, cd, ck, x, y, _, rfl, hI.up e1, ?_⟩
    have key : ∀ E : XK, UnkE Z bad H1 E → (UnkV K H1 n.names x ∧ UnkE Z x H1 E) ∨ ∃ a, x = .str a ∧ a ∈ n.names ∧ UnkV K H1 n.names y ∧ UnkE Z y H1 E := fun E kE => by
      rcases hxy2 with rfl | ⟨a, rfl, ha, rfl⟩
      · exact .inl ⟨hu.up e1, kE⟩
      · exact .inr ⟨a, rfl, ha, hu.up e1, kE⟩
    refine key _ fun z H2 hz2 e2 g2 => ?_
    have E2 := e1.trans e2
    refine ⟨true, T.fact_exmU, fun _ ae hae => ?_, fun z => nomatch z⟩
    walk_at "ss"
    refine ⟨z, _, _, rfl, g2, lk_hd, ?_⟩
    walk_at "ss"
    refine ⟨_, t, rfl, hrp _ E2, ?_⟩
    walk_at "ss"
    refine ⟨_, t, rfl, hrp _ E2, ?_⟩
    walk_at "ss"
    rw [str_eq rfl]
    walk_at "ss"
    refine ⟨_, _, true, rfl, .own _, rfl, ⟨z, _, rfl, g2⟩, T.fact_kitUB, ?_⟩
    exact k _ E2

/-! ### a drawn node, its clocks, its reads, beside the box -/
open TL (tl)
theorem CksAt.nl {H G : Hp} {cd : Addr} {U : List Str} {ck : Str → List Str} (h : CksAt H cd U ck) (e : NL H G) : CksAt G cd U ck := by
  obtain ⟨kv, h1, h2, h3⟩ := h
  refine ⟨kv, e _ _ (fun _ z => by cases z) h1, h2, fun s hs => ?_⟩
  obtain ⟨p, q1, q2⟩ := h3 s hs
  exact ⟨p, q1, NL.tup e q2⟩
theorem NdT.nl {H G : Hp} {n : Nd} {u : V} (h : NdT H n u) (e : NL H G) : NdT G n u := by
  obtain ⟨a, p, q, t, us, h1, h2, h3, h4, h5, h6⟩ := h
  exact ⟨a, p, q, t, us, h1, NL.tup e h2, NL.tup e h3, NL.tup e h4, NL.tup e h5, paired_up (fun r u h => h.nl e) h6⟩
def NdAtD (Z : Adr) (D : Addr) (H : Hp) (n : Nd) (v : V) : Prop := ∃ a dx li lo lr td evs us, (v = .ref a ∧ H a = some (.ins Z.c_Node dx (nfs n.nm li lo lr td)) ∧ H li = some (.lst (n.ins.map V.str)) ∧ H lo = some (.lst (n.outs.map V.str)) ∧ H lr = some (.lst evs) ∧ H td = some (.dK (telK n.ins n.rows evs)) ∧ Paired (fun r (q : V × V) => EqAt Z H r q.1 q.2) n.rows (evs.zip us) ∧ evs.length = us.length) ∧ li ≠ D ∧ lo ≠ D ∧ lr ≠ D
theorem NdAtD.at_ {D : Addr} {H : Hp} {n : Nd} {v : V} (h : NdAtD Z D H n v) : NdAt Z H n v := let ⟨a, dx, li, lo, lr, td, evs, us, h1, _⟩ := h; ⟨a, dx, li, lo, lr, td, evs, us, h1⟩
theorem NdAtD.keep {D : Addr} {H G : Hp} {n : Nd} {v : V} (h : NdAtD Z D H n v) (e : ExB D H G) (eN : NL H G) : NdAtD Z D G n v := by
  obtain ⟨a, dx, li, lo, lr, td, evs, us, ⟨h1, h2, h3, h4, h5, h6, h7, h8⟩, d1, d2, d3⟩ := h
  exact ⟨a, dx, li, lo, lr, td, evs, us, ⟨h1, eN _ _ (fun _ z => by cases z) h2, e _ _ d1 h3, e _ _ d2 h4, e _ _ d3 h5, eN _ _ (fun _ z => by cases z) h6, paired_up (fun r q h => h.it (NL.ins eN) (NL.tups eN)) h7, h8⟩, d1, d2, d3⟩
theorem NdFr.d {H0 H : Hp} {D : Addr} {n : Nd} {v : V} {o : HO} (h : NdFr Z H0 H n v) (hD : H0 D = some o) : NdAtD Z D H n v := by
  obtain ⟨a, dx, li, lo, lr, td, evs, us, h1, h2, h3, h4, h5, h6, h7, h8, f1, f2, f3, f4, f5⟩ := h
  exact ⟨a, dx, li, lo, lr, td, evs, us, ⟨h1, h2, h3, h4, h5, h6, h7, h8⟩, (ne_of_none hD f2).symm, (ne_of_none hD f3).symm, (ne_of_none hD f4).symm⟩
theorem strs_box {l : List Str} {x y z : Int} : HO.lst (l.map V.str) ≠ HO.lst [.int x, .int y, .int z] := fun h => by
  cases l with
  | nil => cases h
  | cons a l => cases h
structure FxAt (Z : Adr) (b : Addr) (H : Hp) (n : Nd) (v : V) (cd : Addr) (ck : Str → List Str) (d : Addr) (ls : List Addr) (ln : Addr) : Prop where
  box : BoxAt H b
  nd : NdAtD Z b H n v
  cks : CksAt H cd n.names ck
  rd : DLs H d n.names ls (readsBy ck n)
  nm : H ln = some (.lst (n.names.map V.str))
theorem FxAt.keep {b : Addr} {H G : Hp} {n : Nd} {v : V} {cd d : Addr} {ck : Str → List Str} {ls : List Addr} {ln : Addr} (h : FxAt Z b H n v cd ck d ls ln) (e : ExB b H G) (hb : BoxAt G b) : FxAt Z b G n v cd ck d ls ln := by
  have eN := NL.box e h.box
  have ks : ∀ {p : Addr} {l : List Str}, H p = some (.lst (l.map V.str)) → G p = some (.lst (l.map V.str)) := fun hp => e _ _ (box_ne h.box hp (fun _ _ _ => strs_box)) hp
  exact ⟨hb, h.nd.keep e eN, h.cks.nl eN, ⟨h.rd.1, eN _ _ (fun _ z => by cases z) h.rd.2.1, fun i s a h1 h2 => ks (h.rd.2.2 i s a h1 h2)⟩, ks h.nm⟩
theorem FxAt.up {b : Addr} {H G : Hp} {n : Nd} {v : V} {cd d : Addr} {ck : Str → List Str} {ls : List Addr} {ln : Addr} (h : FxAt Z b H n v cd ck d ls ln) (e : Ex H G) : FxAt Z b G n v cd ck d ls ln := h.keep (ExB.of e) (h.box.ex e)
theorem CksAt.back {H : Hp} {cd d : Addr} {U : List Str} {ck : Str → List Str} {kv : List (Key × V)} (h : CksAt H cd U ck) (hn : U.Nodup) (hk : H cd = some (.dK kv)) (hd : H d = some (.dK kv.reverse)) : CksAt H d U.reverse ck := by
  obtain ⟨kv', h1, h2, h3⟩ := h
  rw [hk] at h1
  cases h1
  refine ⟨_, hd, by rw [List.map_reverse, h2, List.map_reverse], fun s hs => ?_⟩
  obtain ⟨p, q1, q2⟩ := h3 s (List.mem_reverse.mp hs)
  exact ⟨p, valV_rev (by rw [h2]; exact nd_strs hn) q1, q2⟩
theorem CksAt.sub {H : Hp} {d : Addr} {U L : List Str} {ck : Str → List Str} (h : CksAt H d U ck) (hs : ∀ s ∈ L, s ∈ U) : CkAt H d ck L := let ⟨kv, h1, _, h3⟩ := h; ⟨kv, h1, fun s hl => h3 s (hs s hl)⟩
theorem DrNd.goods {n : Nd} {ck : Str → List Str} (h : DrNd n ck) : ∀ z ∈ n.names, goodN z := fun z hz => by
  rcases List.mem_append.mp hz with h1 | h1
  · exact h.good.inG z h1
  · obtain ⟨r, hr, hz2⟩ := List.mem_flatMap.mp h1
    exact row_tells_good (h.good.row r hr).1 z hz2
theorem DrNd.pos {n : Nd} {ck : Str → List Str} (h : DrNd n ck) : 0 < n.names.length := by
  have := h.good.in0
  unfold Nd.names
  rw [List.length_append]
  omega
/-- what ends in a point is no pointed name -/
theorem spl_dot : ∀ (l acc : List Nat), [] ∈ TL.spl [46] 0 acc (l ++ [46])
  | [], acc => by
    have hc : TL.pre [46] (46 :: []) = true := by simp [TL.pre]
    rw [List.nil_append, TL.spl_hit hc]
    refine List.mem_cons_of_mem _ ?_
    show [] ∈ TL.spl [46] 0 [] []
    rw [TL.spl_nil]
    exact List.mem_cons_self
  | c :: r, acc => by
    cases hc : TL.pre [46] (c :: (r ++ [46])) with
    | true =>
      rw [List.cons_append, TL.spl_hit hc]
      exact List.mem_cons_of_mem _ (spl_dot r [])
    | false =>
      rw [List.cons_append, TL.spl_miss hc]
      exact spl_dot r (acc ++ [c])
theorem dot_bad (s : Str) : isPointed (s ++ ".") = false := by
  unfold isPointed
  rw [Bool.and_eq_false_iff]
  refine .inr ?_
  rw [← Bool.not_eq_true, List.all_eq_true]
  intro h
  have hm : ([] : List Nat) ∈ (Txt.split (s ++ ".") ".").map tl := by
    rw [TL.split_spl _ "." (by decide +kernel) (TL.kind_ok (by decide +kernel)), TL.tl_append, tl_dot]
    exact spl_dot _ _
  obtain ⟨p, hp, e⟩ := List.mem_map.mp hm
  have h1 := h p hp
  have hl : p.length = 0 := by rw [← tl_len, e]; rfl
  unfold isName at h1
  rw [hl] at h1
  simp at h1

/-! ### the law (k64) -/
open TL (tl)
theorem kb_ns : kitB "NoneType" "str" = some false := by decide +kernel
theorem kb_is : kitB "int" "str" = some false := by decide +kernel
theorem kb_bs : kitB "bool" "str" = some false := by decide +kernel
theorem kb_ls : kitB "list" "str" = some false := by decide +kernel
theorem kb_ts : kitB "tuple" "str" = some false := by decide +kernel
theorem kb_ds : kitB "dict" "str" = some false := by decide +kernel
theorem at_turn {x y : Str} {U : List Str} (j : Nat) (hx : x ∈ U) (hy : y ∈ U) : ∃ z, atI [V.str x, V.str y] (if decide ((0 : Int) < (j : Int)) = true then 1 else 0) = some (.str z) ∧ z ∈ U := by
  by_cases h : (0 : Int) < (j : Int)
  · rw [decide_eq_true h]; exact ⟨y, rfl, hy⟩
  · rw [decide_eq_false h]; exact ⟨x, rfl, hx⟩
/-- the odd things -/
def OddV (K : PySem.W.Frag) (H : Hp) (U : List Str) (x : V) : Prop := UnkV K H U x ∧ ∃ t, ∀ H2, Ex H H2 → RpV K H2 x t
theorem odds {H : Hp} {U : List Str} {s : Str} {p1 p2 p3 : Addr} (hU : ∀ z ∈ U, goodN z) (hs : s ∈ U) (g1 : H p1 = some (.lst [.str s])) (g2 : H p2 = some (.tup [.str s])) (g3 : H p3 = some (.dK [])) :
    ∀ x ∈ [V.non, .int 7, .str "", .ref p1, .ref p2, .str "in", .bl true, .ref p3, .str (s ++ ".")], OddV K H U x := by
  have hsg := hU s hs
  have rs : RpOk 0 80 (.str s) := (rp_str hsg.2.2).mono (Nat.le_refl _) hsg.2.1
  have hstr : ∀ z : Str, isPointed z = false → z.length ≤ 81 → OkT z → OddV K H U (.str z) := fun z h1 h2 h3 => ⟨.inl ⟨z, rfl, fun hz => by rw [(hU z hz).1] at h1; cases h1⟩, _, fun H2 e => ⟨.str z, .inl ⟨.str z, (rp_str h3).mono (by decide) (by omega)⟩, rfl⟩⟩
  intro x hx
  simp only [List.mem_cons, List.not_mem_nil, or_false] at hx
  rcases hx with rfl | rfl | rfl | rfl | rfl | rfl | rfl | rfl | rfl
  · exact ⟨.inr ⟨_, ty_non, kb_ns⟩, _, fun H2 e => ⟨.none, .inl ⟨.non, rp_non.mono (by decide) (by decide)⟩, rfl⟩⟩
  · exact ⟨.inr ⟨_, ty_int 7, kb_is⟩, _, fun H2 e => ⟨.int 7, .inl ⟨.int 7, (rp_int (by decide)).mono (by decide) (by decide)⟩, rfl⟩⟩
  · exact hstr "" (by decide +kernel) (by decide +kernel) (OkT.lit (by decide +kernel))
  · exact ⟨.inr ⟨_, ty_lst g1, kb_ls⟩, _, fun H2 e => ⟨.list [.str s], .inl ⟨.lst (SqL.of (e _ _ g1)) (.cons (.str _) .nil), (rp_lst (rp_cons rs rp_nil)).mono (by decide) (by decide)⟩, rfl⟩⟩
  · exact ⟨.inr ⟨_, ty_tup g2, kb_ts⟩, _, fun H2 e => ⟨.tuple [.str s], .inl ⟨.tup (SqT.of (e _ _ g2)) (.cons (.str _) .nil), (rp_tup (rp_cons rs rp_nil)).mono (by decide) (by decide)⟩, rfl⟩⟩
  · exact hstr "in" (by decide +kernel) (by decide +kernel) (OkT.lit (by decide +kernel))
  · exact ⟨.inr ⟨_, ty_bl true, kb_bs⟩, _, fun H2 e => ⟨.bool true, .inl ⟨.bl true, (rp_bl true).mono (by decide) (by decide)⟩, rfl⟩⟩
  · exact ⟨.inr ⟨_, ty_dk g3, kb_ds⟩, _, fun H2 e => ⟨.dict [], .inr ⟨p3, rfl, e _ _ g3, rfl⟩, rfl⟩⟩
  · refine hstr _ (dot_bad s) ?_ (hsg.2.2.app (OkT.lit (by decide +kernel)))
    rw [add_len]
    have : ("." : Str).length = 1 := by decide +kernel
    have := hsg.2.1
    omega
def sp_law (K : PySem.W.Frag) : Sp := fun vs H Q _ => ∃ (a : Addr) (ns : List Int), vs = [.ref a] ∧ SqL K H a (ns.map V.int) ∧ ns.length ≤ 63 ∧ ∀ H', Q (.bl true) H'
theorem ok_law (T : Txt K mg Z)  : FnG P w K mg base CX0 (35) Z.f_law Z.fd_law ["_law_script"] (sp_law K) := by
  have G_cell_at_l := ok_cell_at_l (P := P) (w := w) (base := base) T
  have G_box_l := ok_box_l (P := P) (w := w) (base := base) T
  have G_take_l := ok_take_l (P := P) (w := w) (base := base) T
  have G_drawn_l := ok_drawn_l (P := P) (w := w) (base := base) T
  have G_many_l := ok_many_l (P := P) (w := w) (base := base) T
  have G_reads_l := ok_reads_l (P := P) (w := w) (base := base) T
  have G_node_of := ok_node_of (P := P) (w := w) (base := base) T
  have G_far_l := ok_far_l (P := P) (w := w) (base := base) T
  have G_way_right_l := ok_way_right_l (P := P) (w := w) (base := base) T
  have G_refused_l := ok_refused_l (P := P) (w := w) (base := base) T
  refine T.F_law.okG sc_law (fun vs H Q E h => ?_) (fun cdv AA outer s H vs Q E hgd hr h => ?_)
  · obtain ⟨a, ns, rfl, _⟩ := h
    rfl
  · obtain ⟨a, ns, rfl, hS, hl, k⟩ := h
    have GX_reached_from := okX_reached_from (P := P) (w := w) (base := base) T
    refine ⟨_, (pss_cons (ps_for PassesOwn.never rfl (pi_range1 (by rfl) T.n_range (pa_cons (pe_callB (call_max2 rfl) (by rfl) T.n_max (by decide +kernel) (pa_cons pe_int (pa_cons (pe_callB (call_min2 rfl) (by rfl) T.n_min (by decide +kernel) (pa_cons (pe_callB call_len_seq (by rfl) T.n_len (by decide +kernel) (pa_cons (pv 0) pa_nil)) (pa_cons pe_int pa_nil))) pa_nil))) pa_nil)) (pg_name (i := 1) sc_law.nd rfl (Or.inl rfl)) (pss_cons (ps_set (i := 2) sc_law.nd rfl (Or.inl rfl) (pe_call G_box_l (hr.mono (by omega)) rfl T.g_box_l T.F_box_l.kp T.b_box_l .nil pass0 (pa_cons (pe_call G_cell_at_l (hr.mono (by omega)) rfl T.g_cell_at_l T.F_cell_at_l.kp T.b_cell_at_l .nil pass0 (pa_cons (pv 0) (pa_cons (pv 1) pa_nil))) pa_nil)))
      (pss_cons (ps_asg (pe_call G_drawn_l (hr.mono (by omega)) rfl T.g_drawn_l T.F_drawn_l.kp T.b_drawn_l .nil pass0 (pa_cons (pv 2) (pa_cons (pe_call G_many_l (hr.mono (by omega)) rfl T.g_many_l T.F_many_l.kp T.b_many_l .nil pass0 (pa_cons (pv 2) pa_nil)) (pa_cons (pe_call G_take_l (hr.mono (by omega)) rfl T.g_take_l T.F_take_l.kp T.b_take_l .nil pass0 (pa_cons (pv 2) (pa_cons pe_int pa_nil))) pa_nil)))) (pg_tup (by rfl) (pgs_cons (pg_name (i := 3) sc_law.nd rfl (Or.inl rfl)) (pgs_cons (pg_name (i := 4) sc_law.nd rfl (Or.inl rfl)) pgs_nil))))
      (pss_cons (ps_set (i := 5) sc_law.nd rfl (Or.inl rfl) (pe_call G_node_of (hr.mono (by omega)) rfl T.g_node_of T.F_node_of.kp T.b_node_of .nil pass0 (pa_cons (pv 3) pa_nil)))
      (pss_cons (ps_set (i := 6) sc_law.nd rfl (Or.inl rfl) (pe_call G_reads_l (hr.mono (by omega)) rfl T.g_reads_l T.F_reads_l.kp T.b_reads_l .nil pass0 (pa_cons (pv 3) (pa_cons (pv 4) pa_nil))))
      (pss_cons (ps_set (i := 7) sc_law.nd rfl (Or.inl rfl) (pe_callTy (call_listD rfl) (by rfl) T.n_list (by decide +kernel) (pa_cons (pv 6) pa_nil)))
      (pss_cons (ps_for PassesOwn.never rfl (pi_range1 (by rfl) T.n_range (pa_cons pe_int pa_nil)) (pg_name (i := 8) sc_law.nd rfl (Or.inl rfl)) (pss_cons (ps_set (i := 9) sc_law.nd rfl (Or.inl rfl) (pe_ix ix_list (pv 7) (pe_call G_take_l (hr.mono (by omega)) rfl T.g_take_l T.F_take_l.kp T.b_take_l .nil pass0 (pa_cons (pv 2) (pa_cons (pe_callB call_len_seq (by rfl) T.n_len (by decide +kernel) (pa_cons (pv 7) pa_nil)) pa_nil))) (fun _ _ => rfl)))
      (pss_cons (ps_set (i := 10) sc_law.nd rfl (Or.inl rfl) (pe_ix ix_list (pe_lst (pa_cons (pv 9) (pa_cons (pe_ix ix_list (pv 7) (pe_call G_take_l (hr.mono (by omega)) rfl T.g_take_l T.F_take_l.kp T.b_take_l .nil pass0 (pa_cons (pv 2) (pa_cons (pe_callB call_len_seq (by rfl) T.n_len (by decide +kernel) (pa_cons (pv 7) pa_nil)) pa_nil))) (fun _ _ => rfl)) pa_nil))) (pe_callTy call_int1 (by rfl) T.n_int (by decide +kernel) (pa_cons (pe_cmpR op_gt (pv 8) pe_int (nomark _)) pa_nil)) (fun _ _ => rfl)))
      (pss_cons (ps_set (i := 11) sc_law.nd rfl (Or.inr rfl) (pe_call G_far_l (hr.mono (by omega)) rfl T.g_far_l T.F_far_l.kp T.b_far_l .nil pass0 (pa_cons (pv 6) (pa_cons (pv 9) pa_nil))))
      (pss_cons (ps_set (i := 12) sc_law.nd rfl (Or.inl rfl) (pe_call GX_reached_from (hr.mono (by omega)) rfl T.g_reached_from T.F_reached_from.kp T.b_reached_from .nil passN0 (pa_cons (pv 5) (pa_cons (pv 4) (pa_cons (pv 9) pa_nil)))))
      (pss_cons (ps_if (PW.pt (pw_or (pt_not (pt_val (pe_callB call_isi (by rfl) T.n_isinstance (by decide +kernel) (pa_cons (pv 12) (pa_cons (pe_bltn (v := .ty "list") (by rfl) T.n_list (by decide +kernel) rfl) pa_nil))))) (pw_or1 (pt_cmpR (op_neD hr.units) (pv 12) (pe_lc (own := [("_law_name", 13)]) (g := (gName 13)) (tt := (tTest (tOp rInDk (tVar 13) (tVar 11)))) (te := (tVar 13)) rfl sc_law.nd (pi_list (pv 7)) (blkOk_by (own := [("_law_name", 13)]) (N := N_law) (sc := defScope s_law) (by decide +kernel)) (fun _ _ _ _ _ => (pg_name (i := 13) sc_law.nd rfl (Or.inl rfl))) (fun _ _ _ _ _ => (pts_one (pt_cmpR (op_inDk (hu_of hr)) (pv 13) (pv 11) (by rfl)))) (fun _ _ _ _ _ => (pv 13))) (nomark _))))) (pss_one (ps_ret pe_bl)) pss_nil)
      (pss_cons (ps_if (pt_cmpR (op_neD hr.units) (pe_call GX_reached_from (hr.mono (by omega)) rfl T.g_reached_from T.F_reached_from.kp T.b_reached_from .nil passN0 (pa_cons (pv 5) (pa_cons (pe_callTy (call_dictP rfl) (by rfl) T.n_dict (by decide +kernel) (pa_cons (pe_revL (LiI.pe_listItems rfl (pv 4) rfl T.n_list (by decide +kernel))) pa_nil)) (pa_cons (pv 9) pa_nil)))) (pv 12) (nomark _)) (pss_one (ps_ret pe_bl)) pss_nil)
      (pss_one (ps_if (pt_not (pt_val (pe_call G_way_right_l (hr.mono (by omega)) rfl T.g_way_right_l T.F_way_right_l.kp T.b_way_right_l .nil pass0 (pa_cons (pv 5) (pa_cons (pv 4) (pa_cons (pv 6) (pa_cons (pv 11) (pa_cons (pv 9) (pa_cons (pv 10) pa_nil))))))))) (pss_one (ps_ret pe_bl)) pss_nil)))))))))
      (pss_one (ps_for PassesOwn.never rfl (pi_list (pe_lst (pa_cons pe_non (pa_cons pe_int (pa_cons pe_str (pa_cons (pe_lst (pa_cons (pv 9) pa_nil)) (pa_cons (pe_tup (pa_cons (pv 9) pa_nil)) (pa_cons pe_str (pa_cons pe_bl (pa_cons pe_dnewK (pa_cons (pe_op op_add_str (pv 9) pe_str) pa_nil))))))))))) (pg_name (i := 14) sc_law.nd rfl (Or.inl rfl)) (pss_cons (ps_if (pt_not (pt_val (pe_callG hgd G_refused_l (hr.mono (by omega)) rfl T.g_refused_l T.F_refused_l.kp T.b_refused_l pass0 (pa_cons pe_int (pa_cons (pv 5) (pa_cons (pv 4) (pa_cons (pv 14) (pa_cons pe_non (pa_cons (pv 14) pa_nil))))))))) (pss_one (ps_ret pe_bl)) pss_nil)
      (pss_one (ps_for PassesOwn.never rfl (pi_range2 (by rfl) T.n_range (pa_cons pe_int (pa_cons pe_int pa_nil))) (pg_name (i := 15) sc_law.nd rfl (Or.inl rfl)) (pss_cons (ps_if (pt_not (pt_val (pe_callG hgd G_refused_l (hr.mono (by omega)) rfl T.g_refused_l T.F_refused_l.kp T.b_refused_l pass0 (pa_cons (pv 15) (pa_cons (pv 5) (pa_cons (pv 4) (pa_cons (pv 14) (pa_cons pe_non (pa_cons (pv 14) pa_nil))))))))) (pss_one (ps_ret pe_bl)) pss_nil)
      (pss_one (ps_if (pt_not (pt_val (pe_callG hgd G_refused_l (hr.mono (by omega)) rfl T.g_refused_l T.F_refused_l.kp T.b_refused_l pass0 (pa_cons (pv 15) (pa_cons (pv 5) (pa_cons (pv 4) (pa_cons (pv 9) (pa_cons (pv 14) (pa_cons (pv 14) pa_nil))))))))) (pss_one (ps_ret pe_bl)) pss_nil)))))))))))))))
      (pss_one (ps_ret pe_bl))), ?_⟩
    walk_at "ss"
    refine ⟨_, _, rfl, .inl hS, ?_⟩
    walk_at "ss"
    refine ⟨_, _, rfl, ?_⟩
    walk_at "ss"
    refine ⟨_, _, rfl, ?_⟩
    walk_at "ss"
    refine ⟨by split <;> split <;> omega, by split <;> split <;> omega, ?_⟩
    refine forR (fun i σ' G => (∃ v1 v2 v3 v4 v5 v6 v7 v8 v9 v10 v11 v12 v13 v14 v15, σ' = [some (.ref a), v1, v2, v3, v4, v5, v6, v7, v8, v9, v10, v11, v12, v13, v14, v15]) ∧ Ex H G) ⟨⟨_, _, _, _, _, _, _, _, _, _, _, _, _, _, _, rfl⟩, Ex.refl _⟩ ?_ ?_
    · rintro i σ' G hi ⟨⟨v1, v2, v3, v4, v5, v6, v7, v8, v9, v10, v11, v12, v13, v14, v15, rfl⟩, e⟩
      walk_at "ss"
      refine ⟨_, _, _, rfl, ex_l e hS, by omega, fun n => ?_⟩
      walk_at "ss"
      refine ⟨_, rfl, fun b G1 hb f1 hB => ?_⟩
      walk_at "ss"
      refine ⟨b, rfl, hB, fun m H3 m0 m1 x3 b3 => ?_⟩
      walk_at "ss"
      refine ⟨b, 2, rfl, b3, by decide, by decide, fun d H4 d0 d1 x4 b4 => ?_⟩
      walk_at "ss"
      refine ⟨b, m, d, rfl, b4, m0, m1, fun n ck u cd p H5 hdr hT hck hcd hp x5 b5 => ?_⟩
      have hg := hdr.good
      have hok := reads_ok hdr
      have hn40 := hdr.len
      have hn0 := hdr.pos
      have hgN := hdr.goods
      have okF : ∀ f : Str → Bool, ((n.names.filter f).map V.str).all okV = true := fun f => str_ok fun z hz => hgN z (List.mem_filter.mp hz).1
      refine c_gTup (SqT.of hp) rfl ?_
      walk_at "ss"
      refine ⟨u, n, rfl, hT, hg, fun v H6 e6 hN => ?_⟩
      walk_at "ss"
      refine ⟨n, u, cd, ck, rfl, hT.up e6, hg, hdr.nocalls, hck.up e6, fun s hs => Nat.le_trans (hdr.ckg s hs).1 (by decide), fun rd l1 H7 e7 hd1 hl1 hn1 hdl1 D1 => ?_⟩
      walk_at "ss"
      refine ⟨rd, _, rfl, .inl D1.2.1, fun ln hln => ?_⟩
      rw [dlK_names D1.1]
      have e8 : Ex H7 (upd H7 ln (.lst (n.names.map V.str))) := Ex.new hln
      have g8 : upd H7 ln (.lst (n.names.map V.str)) ln = some (.lst (n.names.map V.str)) := upd_same
      generalize upd H7 ln (.lst (n.names.map V.str)) = H8 at e8 g8
      have E78 := e7.trans e8
      have hF8 : FxAt Z b H8 n v cd ck rd l1 ln := by
        obtain ⟨x, y, z, h0, hb5⟩ := id b5
        exact ⟨(b5.ex e6).ex E78, (hN.d hb5).keep (ExB.of E78) (NL.of E78), (hck.up e6).up E78, D1.up e8, g8⟩
      have hI : ∀ {G : Hp}, FxAt Z b G n v cd ck rd l1 ln → NdIn Z G n v cd ck := fun h => ⟨h.nd.at_, hg, hdr.nocalls, h.cks.ck, hok⟩
      walk_at "ss"
      refine ⟨by omega, by omega, ?_⟩
      refine forR (n := 5) (fun j σ' G' => (∃ v8 v9 v10 v11 v12 v13 v14 v15, σ' = [some (.ref a), some (.int (i : Int)), some (.ref b), some u, some (.ref cd), some v, some (.ref rd), some (.ref ln), v8, v9, v10, v11, v12, v13, v14, v15] ∧ (j = 0 ∨ ∃ s ∈ n.names, v9 = some (.str s))) ∧ ExB b H8 G' ∧ BoxAt G' b) ⟨⟨_, _, _, _, _, _, _, _, rfl, .inl rfl⟩, ExB.refl _ _, hF8.box⟩ ?_ ?_
      · rintro j σ' G9 hj ⟨⟨v8, v9, v10, v11, v12, v13, v14, v15, rfl, _⟩, x9, b9⟩
        have F9 := hF8.keep x9 b9
        walk_at "ss"
        refine ⟨ln, _, rfl, .inl (SqL.of F9.nm), ?_⟩
        walk_at "ss"
        refine ⟨b, _, rfl, b9, by rw [List.length_map]; omega, by rw [List.length_map]; omega, fun d1 G10 d10 d11 x10 b10 => ?_⟩
        rw [List.length_map] at d11
        obtain ⟨s1, hat1, hs1⟩ := at_str d10 d11
        have F10 := F9.keep x10 b10
        refine c_ixL (SqL.of F10.nm) hat1 ?_
        walk_at "ss"
        refine ⟨ln, _, rfl, .inl (SqL.of F10.nm), ?_⟩
        walk_at "ss"
        refine ⟨b, _, rfl, b10, by rw [List.length_map]; omega, by rw [List.length_map]; omega, fun d2 G11 d20 d21 x11 b11 => ?_⟩
        rw [List.length_map] at d21
        obtain ⟨s2, hat2, hs2⟩ := at_str d20 d21
        have F11 := F10.keep x11 b11
        refine c_ixL (SqL.of F11.nm) hat2 ?_
        walk_at "ss"
        refine newL fun pl G12 hpl e12 g12 => ?_
        have F12 := F11.up e12
        walk_at "ss"
        refine .inr ⟨_, rfl, ?_⟩
        obtain ⟨s3, hat3, hs3⟩ := at_turn j hs1 hs2
        refine c_ixL (SqL.of g12) hat3 ?_
        walk_at "ss"
        refine ⟨rd, n.names, l1, _, s1, rfl, F12.rd, hok, reads_nodup hg, hs1, fun fd G13 hfd e13 g13 => ?_⟩
        have F13 := F12.up e13
        walk_at "ss"
        refine ⟨n, v, cd, ck, .str s1, rfl, hI F13, .inl ⟨s1, rfl, hs1, fun fl G14 hfl e14 g14 => ?_⟩⟩
        have F14 := F13.up e14
        have gfd := e14 _ _ g13
        walk_at "ss"
        refine isi (ty_lst g14) kb_ll ?_
        walk_at "ss"
        refine ⟨⟨_, SqL.of F14.nm⟩, lcLv (fun y => match y with | .str s => if (namesE (farE ck n s1)).contains s then some (.str s) else none | _ => none) (SqL.of F14.nm) (by rw [List.length_map]; omega) (fun y hy F2 f2 R hR => ?_) ?_⟩
        · obtain ⟨s, hs, rfl⟩ := List.mem_map.mp hy
          walk_at "ss"
          refine ⟨fd, _, rfl, dgetK (f2 _ _ gfd), ?_⟩
          rw [key_in (bfD_keys _)]
          have hR' := hR _ (Ex.refl _)
          refine ⟨_, rfl, if_cs (fun hc => ?_) (fun hc => ?_)⟩
          · walk_at "ss"
            rw [show (match V.str s with | .str s => if (namesE (farE ck n s1)).contains s then some (V.str s) else none | _ => none) = some (V.str s) from if_pos hc] at hR'
            exact hR'
          · rw [show (match V.str s with | .str s => if (namesE (farE ck n s1)).contains s then some (V.str s) else none | _ => none) = (none : Option V) from if_neg (by rw [show (namesE (farE ck n s1)).contains s = false from hc]; decide)] at hR'
            exact hR'
        intro cl G15 hcl e15 g15
        rw [filt_strs (fun s => (namesE (farE ck n s1)).contains s) _ (fun s => rfl)] at g15
        refine c_neLs (SqL.of (e15 _ _ g14)) (SqL.of g15) (okF _) (okF _) ?_
        rw [eqL_refl (okL_flat (okF _))]
        walk_at "ss"
        have F15 := F14.up e15
        have hnd := hg.all
        obtain ⟨kv, gcd, hkeys, hkv⟩ := id F15.cks
        have hndk : (kv.map (·.1)).Nodup := by rw [hkeys]; exact nd_strs hnd
        refine c_revL ?_
        walk_at "ss"
        refine ⟨cd, kv, rfl, gcd, fun H8' p8 ts e8' hp8 hts hpn g8' hpair => ?_⟩
        refine ⟨p8, _, rfl, SqL.of g8', fun p9 hp9 => ?_⟩
        rw [← List.map_reverse]
        have e9 : Ex H8' (upd H8' p9 (.lst (ts.reverse.map V.ref))) := Ex.new hp9
        have g9 : upd H8' p9 (.lst (ts.reverse.map V.ref)) p9 = some (.lst (ts.reverse.map V.ref)) := upd_same
        have hpr := pair_rev (K := K) (G := upd H8' p9 (.lst (ts.reverse.map V.ref))) (paired_up (F := fun (t : Addr) (q : Key × V) => H8' t = some (.tup [kV q.1, q.2])) (G := fun (t : Addr) (q : Key × V) => upd H8' p9 (.lst (ts.reverse.map V.ref)) t = some (.tup [kV q.1, q.2])) (fun t q h => e9 _ _ h) hpair)
        generalize upd H8' p9 (.lst (ts.reverse.map V.ref)) = H9 at e9 g9 hpr
        walk_at "ss"
        refine ⟨p9, ts.reverse, kv.reverse, rfl, SqL.of g9, hpr, fun d10 hd10 => ?_⟩
        rw [mergeK_nodup _ [] (by rw [List.nil_append, List.map_reverse]; exact (List.reverse_perm _).nodup_iff.mpr hndk), List.nil_append]
        have e10 : Ex H9 (upd H9 d10 (.dK kv.reverse)) := Ex.new hd10
        have g10 : upd H9 d10 (.dK kv.reverse) d10 = some (.dK kv.reverse) := upd_same
        generalize upd H9 d10 (.dK kv.reverse) = H10 at e10 g10
        have E10 : Ex G15 H10 := Ex.trans e8' (e9.trans e10)
        have F16 := F15.up E10
        have hckB : CksAt H10 d10 n.names.reverse ck := F16.cks.back hnd (E10 _ _ gcd) g10
        walk_at "ss"
        refine ⟨n, v, d10, ck, .str s1, rfl, ⟨F16.nd.at_, hg, hdr.nocalls, hckB.sub (fun s hs => List.mem_reverse.mpr hs), hok⟩, .inl ⟨s1, rfl, hs1, fun f2 G17 hf2 e17 g17 => ?_⟩⟩
        have E17 : Ex G14 G17 := e15.trans (E10.trans e17)
        walk_at "ss"
        refine c_neLs (SqL.of g17) (SqL.of (E17 _ _ g14)) (okF _) (okF _) ?_
        rw [eqL_refl (okL_flat (okF _))]
        walk_at "ss"
        have F17 := F16.up e17
        refine ⟨n, v, cd, ck, rd, l1, fd, s1, s3, rfl, hI F17, F17.rd, E17 _ _ gfd, hs1, hs3, fun G18 e18 => ?_⟩
        walk_at "ss"
        have E18 : Ex G11 G18 := e12.trans (e13.trans (e14.trans (E17.trans e18)))
        exact ⟨⟨_, _, _, _, _, _, _, _, rfl, .inr ⟨s1, hs1, rfl⟩⟩, x9.trans (x10.trans (x11.trans (ExB.of E18))), b11.ex E18⟩
      · rintro σ' G9 ⟨⟨v8, v9, v10, v11, v12, v13, v14, v15, rfl, h9⟩, x9, b9⟩
        rcases h9 with h9 | ⟨s1, hs1, rfl⟩
        · exact absurd h9 (by decide)
        have F9 := hF8.keep x9 b9
        walk_at "ss"
        refine newL fun p1 G10 hp1 e10 g10 => ?_
        walk_at "ss"
        refine newT fun p2 G11 hp2 e11 g11 => ?_
        walk_at "ss"
        intro p3 hp3
        have e12 : Ex G11 (upd G11 p3 (.dK [])) := Ex.new hp3
        have g12 : upd G11 p3 (.dK []) p3 = some (.dK []) := upd_same
        generalize upd G11 p3 (.dK []) = G12 at e12 g12
        walk_at "ss"
        have ld : ("." : Str).length = 1 := by decide +kernel
        have hsl := (hgN s1 hs1).2.1
        refine ⟨Evl.sz_of (by omega), ?_⟩
        walk_at "ss"
        refine newL fun p4 G13 hp4 e13 g13 => ?_
        have E13 : Ex G9 G13 := e10.trans (e11.trans (e12.trans e13))
        have F13 := F9.up E13
        have hodd := odds (K := K) hgN hs1 ((e11.trans (e12.trans e13)) _ _ g10) ((e12.trans e13) _ _ g11) (e13 _ _ g12)
        walk_at "ss"
        refine ⟨⟨_, SqL.of g13⟩, forL (xs := [V.non, .int 7, .str "", .ref p1, .ref p2, .str "in", .bl true, .ref p3, .str (s1 ++ ".")]) (fun j σ' G' => (∃ v14 v15, σ' = [some (.ref a), some (.int (i : Int)), some (.ref b), some u, some (.ref cd), some v, some (.ref rd), some (.ref ln), v8, some (.str s1), v10, v11, v12, v13, v14, v15]) ∧ Ex G13 G') ⟨⟨_, _, rfl⟩, Ex.refl _⟩ (fun j σ' G' _ q => SqL.of (q.2 _ _ g13)) ?_ ?_⟩
        · rintro j x σ' G14 hx ⟨⟨v14, v15, rfl⟩, e14⟩
          obtain ⟨hu, t, hrp⟩ := hodd x (List.mem_of_getElem? hx)
          walk_at "ss"
          refine ⟨n, v, cd, ck, x, .non, x, t, 0, rfl, hI (F13.up e14), hu.up e14, fun H2 e2 => hrp _ (e14.trans e2), .inl rfl, fun G15 e15 => ?_⟩
          walk_at "ss"
          refine ⟨1, 3, rfl, ⟨by decide, by decide, by decide, by decide⟩, ?_⟩
          refine L2.for_range (lo := 1) (n := 2) (fun j σ' G' => (∃ v15, σ' = [some (.ref a), some (.int (i : Int)), some (.ref b), some u, some (.ref cd), some v, some (.ref rd), some (.ref ln), v8, some (.str s1), v10, v11, v12, v13, some x, v15]) ∧ Ex G13 G') ⟨⟨_, rfl⟩, e14.trans e15⟩ ?_ ?_
          · rintro j σ' G16 hj ⟨⟨v15, rfl⟩, e16⟩
            have hw : (1 : Int) + (j : Int) ≠ 0 := by omega
            generalize (1 : Int) + (j : Int) = way at hw
            walk_at "ss"
            refine ⟨n, v, cd, ck, x, .non, x, t, way, rfl, hI (F13.up e16), hu.up e16, fun H2 e2 => hrp _ (e16.trans e2), .inl rfl, fun G17 e17 => ?_⟩
            walk_at "ss"
            have e17' := e16.trans e17
            refine ⟨n, v, cd, ck, .str s1, x, x, t, way, rfl, hI (F13.up e17'), hu.up e17', fun H2 e2 => hrp _ (e17'.trans e2), .inr ⟨hw, s1, rfl, hs1, rfl⟩, fun G18 e18 => ?_⟩
            walk_at "ss"
            exact ⟨⟨_, rfl⟩, e17'.trans e18⟩
          · rintro σ' G16 ⟨⟨v15, rfl⟩, e16⟩
            walk_at "ss"
            exact ⟨⟨_, _, rfl⟩, e16⟩
        · rintro σ' G14 ⟨⟨v14, v15, rfl⟩, e14⟩
          walk_at "ss"
          exact ⟨⟨_, _, _, _, _, _, _, _, _, _, _, _, _, _, _, rfl⟩, e.trans (ExB.tot f1 hb (x3.trans (x4.trans (x5.trans ((ExB.of (e6.trans E78)).trans (x9.trans (ExB.of (E13.trans e14))))))))⟩
    · rintro σ' G ⟨⟨v1, v2, v3, v4, v5, v6, v7, v8, v9, v10, v11, v12, v13, v14, v15, rfl⟩, e⟩
      walk_at "ss"
      exact k _

end
theorem facts2 {P : Program} {w : World} {K : PySem.W.Frag} {h : Heap} {mg : Str → Option Value} {fa : Addr} (X : K.In h) (G : h.Ns mainGlobals mg) (hfa : mg "law" = some (.ref fa)) (c : He.SaysD faL fnL K) (hex : (exs K).all id = true) : ∃ fd : FuncData, (∀ (s : Shared) (v : Value), BindsTo s fd ⟨[v], []⟩ [("_law_script", v)]) ∧ ∀ base : Heap, K.In base → base.Ns mainGlobals mg → FnG P w K mg base CX0 35 fa fd ["_law_script"] (sp_law K) := by
  obtain ⟨fd0, D0⟩ := c.def_ 0 (d := d_Unknown_init) rfl
  have F0 : Fun K "__init__" "Unknown.__init__" s_Unknown_init (He.fAd K ("Unknown", some "__init__")) fd0 := fun_ofD D0
  have b0 := F0.binds (ps := ["self", "name"]) fun _ _ _ _ _ _ us hl => match us, hl with | [_, _], _ => rfl
  obtain ⟨fd1, D1⟩ := c.def_ 1 (d := d_names_in) rfl
  have F1 : Fun K "names_in" "names_in" s_names_in (He.fAd K ("names_in", none)) fd1 := fun_ofD D1
  have b1 := F1.binds (ps := ["term"]) fun _ _ _ _ _ _ us hl => match us, hl with | [_], _ => rfl
  obtain ⟨fd2, D2⟩ := c.def_ 2 (d := d_told_by) rfl
  have F2 : Fun K "told_by" "told_by" s_told_by (He.fAd K ("told_by", none)) fd2 := fun_ofD D2
  have b2 := F2.binds (ps := ["row"]) fun _ _ _ _ _ _ us hl => match us, hl with | [_], _ => rfl
  obtain ⟨fd3, D3⟩ := c.def_ 3 (d := d_mentioned_now) rfl
  have F3 : Fun K "mentioned_now" "mentioned_now" s_mentioned_now (He.fAd K ("mentioned_now", none)) fd3 := fun_ofD D3
  have b3 := F3.binds (ps := ["row"]) fun _ _ _ _ _ _ us hl => match us, hl with | [_], _ => rfl
  obtain ⟨fd4, D4⟩ := c.def_ 4 (d := d_names_of) rfl
  have F4 : Fun K "names_of" "names_of" s_names_of (He.fAd K ("names_of", none)) fd4 := fun_ofD D4
  have b4 := F4.binds (ps := ["node"]) fun _ _ _ _ _ _ us hl => match us, hl with | [_], _ => rfl
  obtain ⟨fd5, D5⟩ := c.def_ 5 (d := d_reads_of) rfl
  have F5 : Fun K "reads_of" "reads_of" s_reads_of (He.fAd K ("reads_of", none)) fd5 := fun_ofD D5
  have b5 := F5.binds (ps := ["node", "clocks"]) fun _ _ _ _ _ _ us hl => match us, hl with | [_, _], _ => rfl
  obtain ⟨fd6, D6⟩ := c.def_ 6 (d := d_need_known) rfl
  have F6 : Fun K "need_known" "need_known" s_need_known (He.fAd K ("need_known", none)) fd6 := fun_ofD D6
  have b6 := F6.binds (ps := ["reads", "name"]) fun _ _ _ _ _ _ us hl => match us, hl with | [_, _], _ => rfl
  obtain ⟨fd7, D7⟩ := c.def_ 7 (d := d_steps_from) rfl
  have F7 : Fun K "steps_from" "steps_from" s_steps_from (He.fAd K ("steps_from", none)) fd7 := fun_ofD D7
  have b7 := F7.binds (ps := ["reads", "name"]) fun _ _ _ _ _ _ us hl => match us, hl with | [_, _], _ => rfl
  obtain ⟨fd8, D8⟩ := c.def_ 8 (d := d_reached_from) rfl
  have F8 : Fun K "reached_from" "reached_from" s_reached_from (He.fAd K ("reached_from", none)) fd8 := fun_ofD D8
  have b8 := F8.binds (ps := ["node", "clocks", "name"]) fun _ _ _ _ _ _ us hl => match us, hl with | [_, _, _], _ => rfl
  obtain ⟨fd9, D9⟩ := c.def_ 9 (d := d_way_between) rfl
  have F9 : Fun K "way_between" "way_between" s_way_between (He.fAd K ("way_between", none)) fd9 := fun_ofD D9
  have b9 := F9.binds (ps := ["node", "clocks", "one", "other"]) fun _ _ _ _ _ _ us hl => match us, hl with | [_, _, _, _], _ => rfl
  obtain ⟨fd10, D10⟩ := c.def_ 10 (d := d_is_way) rfl
  have F10 : Fun K "is_way" "is_way" s_is_way (He.fAd K ("is_way", none)) fd10 := fun_ofD D10
  have b10 := F10.binds (ps := ["node", "clocks", "one", "other", "thing"]) fun _ _ _ _ _ _ us hl => match us, hl with | [_, _, _, _, _], _ => rfl
  obtain ⟨fd11, D11⟩ := c.def_ 11 (d := d_is_whole) rfl
  have F11 : Fun K "is_whole" "is_whole" s_is_whole (He.fAd K ("is_whole", none)) fd11 := fun_ofD D11
  have b11 := F11.binds (ps := ["thing"]) fun _ _ _ _ _ _ us hl => match us, hl with | [_], _ => rfl
  obtain ⟨fd12, D12⟩ := c.def_ 12 (d := d_is_within) rfl
  have F12 : Fun K "is_within" "is_within" s_is_within (He.fAd K ("is_within", none)) fd12 := fun_ofD D12
  have b12 := F12.binds (ps := ["thing", "low", "high"]) fun _ _ _ _ _ _ us hl => match us, hl with | [_, _, _], _ => rfl
  obtain ⟨fd13, D13⟩ := c.def_ 13 (d := d_is_name) rfl
  have F13 : Fun K "is_name" "is_name" s_is_name (He.fAd K ("is_name", none)) fd13 := fun_ofD D13
  have b13 := F13.binds (ps := ["thing"]) fun _ _ _ _ _ _ us hl => match us, hl with | [_], _ => rfl
  obtain ⟨fd14, D14⟩ := c.def_ 14 (d := d_is_pointed) rfl
  have F14 : Fun K "is_pointed" "is_pointed" s_is_pointed (He.fAd K ("is_pointed", none)) fd14 := fun_ofD D14
  have b14 := F14.binds (ps := ["thing"]) fun _ _ _ _ _ _ us hl => match us, hl with | [_], _ => rfl
  obtain ⟨fd15, D15⟩ := c.def_ 15 (d := d_is_value) rfl
  have F15 : Fun K "is_value" "is_value" s_is_value (He.fAd K ("is_value", none)) fd15 := fun_ofD D15
  have b15 := F15.binds (ps := ["thing"]) fun _ _ _ _ _ _ us hl => match us, hl with | [_], _ => rfl
  obtain ⟨fd16, D16⟩ := c.def_ 16 (d := d_ops_told) rfl
  have F16 : Fun K "ops_told" "ops_told" s_ops_told (He.fAd K ("ops_told", none)) fd16 := fun_ofD D16
  have b16 := F16.binds (ps := []) fun _ _ _ _ _ _ us hl => match us, hl with | [], _ => rfl
  obtain ⟨fd17, D17⟩ := c.def_ 17 (d := d_Term_parts) rfl
  have F17 : Fun K "parts" "Term.parts" s_Term_parts (He.fAd K ("Term", some "parts")) fd17 := fun_ofD D17
  have b17 := F17.binds (ps := ["self"]) fun _ _ _ _ _ _ us hl => match us, hl with | [_], _ => rfl
  obtain ⟨fd18, D18⟩ := c.def_ 18 (d := d_Term_names) rfl
  have F18 : Fun K "names" "Term.names" s_Term_names (He.fAd K ("Term", some "names")) fd18 := fun_ofD D18
  have b18 := F18.binds (ps := ["self"]) fun _ _ _ _ _ _ us hl => match us, hl with | [_], _ => rfl
  obtain ⟨fd19, D19⟩ := c.def_ 19 (d := d_Term_levels) rfl
  have F19 : Fun K "levels" "Term.levels" s_Term_levels (He.fAd K ("Term", some "levels")) fd19 := fun_ofD D19
  have b19 := F19.binds (ps := ["self"]) fun _ _ _ _ _ _ us hl => match us, hl with | [_], _ => rfl
  obtain ⟨fd20, D20⟩ := c.def_ 20 (d := d_need_term) rfl
  have F20 : Fun K "need_term" "need_term" s_need_term (He.fAd K ("need_term", none)) fd20 := fun_ofD D20
  have b20 := F20.binds (ps := ["thing"]) fun _ _ _ _ _ _ us hl => match us, hl with | [_], _ => rfl
  obtain ⟨fd21, D21⟩ := c.def_ 21 (d := d_Name_init) rfl
  have F21 : Fun K "__init__" "Name.__init__" s_Name_init (He.fAd K ("Name", some "__init__")) fd21 := fun_ofD D21
  have b21 := F21.binds (ps := ["self", "name"]) fun _ _ _ _ _ _ us hl => match us, hl with | [_, _], _ => rfl
  obtain ⟨fd22, D22⟩ := c.def_ 22 (d := d_Name_names) rfl
  have F22 : Fun K "names" "Name.names" s_Name_names (He.fAd K ("Name", some "names")) fd22 := fun_ofD D22
  have b22 := F22.binds (ps := ["self"]) fun _ _ _ _ _ _ us hl => match us, hl with | [_], _ => rfl
  obtain ⟨fd23, D23⟩ := c.def_ 23 (d := d_Name_told) rfl
  have F23 : Fun K "told" "Name.told" s_Name_told (He.fAd K ("Name", some "told")) fd23 := fun_ofD D23
  have b23 := F23.binds (ps := ["self"]) fun _ _ _ _ _ _ us hl => match us, hl with | [_], _ => rfl
  obtain ⟨fd24, D24⟩ := c.def_ 24 (d := d_Value_init) rfl
  have F24 : Fun K "__init__" "Value.__init__" s_Value_init (He.fAd K ("Value", some "__init__")) fd24 := fun_ofD D24
  have b24 := F24.binds (ps := ["self", "value"]) fun _ _ _ _ _ _ us hl => match us, hl with | [_, _], _ => rfl
  obtain ⟨fd25, D25⟩ := c.def_ 25 (d := d_Value_told) rfl
  have F25 : Fun K "told" "Value.told" s_Value_told (He.fAd K ("Value", some "told")) fd25 := fun_ofD D25
  have b25 := F25.binds (ps := ["self"]) fun _ _ _ _ _ _ us hl => match us, hl with | [_], _ => rfl
  obtain ⟨fd26, D26⟩ := c.def_ 26 (d := d_Two_init) rfl
  have F26 : Fun K "__init__" "Two.__init__" s_Two_init (He.fAd K ("Two", some "__init__")) fd26 := fun_ofD D26
  have b26 := F26.binds (ps := ["self", "op", "one", "other"]) fun _ _ _ _ _ _ us hl => match us, hl with | [_, _, _, _], _ => rfl
  obtain ⟨fd27, D27⟩ := c.def_ 27 (d := d_Two_parts) rfl
  have F27 : Fun K "parts" "Two.parts" s_Two_parts (He.fAd K ("Two", some "parts")) fd27 := fun_ofD D27
  have b27 := F27.binds (ps := ["self"]) fun _ _ _ _ _ _ us hl => match us, hl with | [_], _ => rfl
  obtain ⟨fd28, D28⟩ := c.def_ 28 (d := d_Two_told) rfl
  have F28 : Fun K "told" "Two.told" s_Two_told (He.fAd K ("Two", some "told")) fd28 := fun_ofD D28
  have b28 := F28.binds (ps := ["self"]) fun _ _ _ _ _ _ us hl => match us, hl with | [_], _ => rfl
  obtain ⟨fd29, D29⟩ := c.def_ 29 (d := d_Not_init) rfl
  have F29 : Fun K "__init__" "Not.__init__" s_Not_init (He.fAd K ("Not", some "__init__")) fd29 := fun_ofD D29
  have b29 := F29.binds (ps := ["self", "one"]) fun _ _ _ _ _ _ us hl => match us, hl with | [_, _], _ => rfl
  obtain ⟨fd30, D30⟩ := c.def_ 30 (d := d_Not_parts) rfl
  have F30 : Fun K "parts" "Not.parts" s_Not_parts (He.fAd K ("Not", some "parts")) fd30 := fun_ofD D30
  have b30 := F30.binds (ps := ["self"]) fun _ _ _ _ _ _ us hl => match us, hl with | [_], _ => rfl
  obtain ⟨fd31, D31⟩ := c.def_ 31 (d := d_Not_told) rfl
  have F31 : Fun K "told" "Not.told" s_Not_told (He.fAd K ("Not", some "told")) fd31 := fun_ofD D31
  have b31 := F31.binds (ps := ["self"]) fun _ _ _ _ _ _ us hl => match us, hl with | [_], _ => rfl
  obtain ⟨fd32, D32⟩ := c.def_ 32 (d := d_Pick_init) rfl
  have F32 : Fun K "__init__" "Pick.__init__" s_Pick_init (He.fAd K ("Pick", some "__init__")) fd32 := fun_ofD D32
  have b32 := F32.binds (ps := ["self", "by", "one", "other"]) fun _ _ _ _ _ _ us hl => match us, hl with | [_, _, _, _], _ => rfl
  obtain ⟨fd33, D33⟩ := c.def_ 33 (d := d_Pick_parts) rfl
  have F33 : Fun K "parts" "Pick.parts" s_Pick_parts (He.fAd K ("Pick", some "parts")) fd33 := fun_ofD D33
  have b33 := F33.binds (ps := ["self"]) fun _ _ _ _ _ _ us hl => match us, hl with | [_], _ => rfl
  obtain ⟨fd34, D34⟩ := c.def_ 34 (d := d_Pick_told) rfl
  have F34 : Fun K "told" "Pick.told" s_Pick_told (He.fAd K ("Pick", some "told")) fd34 := fun_ofD D34
  have b34 := F34.binds (ps := ["self"]) fun _ _ _ _ _ _ us hl => match us, hl with | [_], _ => rfl
  obtain ⟨fd35, D35⟩ := c.def_ 35 (d := d_simple_of) rfl
  have F35 : Fun K "simple_of" "simple_of" s_simple_of (He.fAd K ("simple_of", none)) fd35 := fun_ofD D35
  have b35 := F35.binds (ps := ["word", "thing"]) fun _ _ _ _ _ _ us hl => match us, hl with | [_, _], _ => rfl
  obtain ⟨fd36, D36⟩ := c.def_ 36 (d := d_made_of_told) rfl
  have F36 : Fun K "made_of_told" "made_of_told" s_made_of_told (He.fAd K ("made_of_told", none)) fd36 := fun_ofD D36
  have b36 := F36.binds (ps := ["told", "left"]) fun _ _ _ _ _ _ us hl => match us, hl with | [_, _], _ => rfl
  obtain ⟨fd37, D37⟩ := c.def_ 37 (d := d_term_of) rfl
  have F37 : Fun K "term_of" "term_of" s_term_of (He.fAd K ("term_of", none)) fd37 := fun_ofD D37
  have b37 := F37.binds (ps := ["told"]) fun _ _ _ _ _ _ us hl => match us, hl with | [_], _ => rfl
  obtain ⟨fd38, D38⟩ := c.def_ 38 (d := d_each_once) rfl
  have F38 : Fun K "each_once" "each_once" s_each_once (He.fAd K ("each_once", none)) fd38 := fun_ofD D38
  have b38 := F38.binds (ps := ["names"]) fun _ _ _ _ _ _ us hl => match us, hl with | [_], _ => rfl
  obtain ⟨fd39, D39⟩ := c.def_ 39 (d := d_Equation_init) rfl
  have F39 : Fun K "__init__" "Equation.__init__" s_Equation_init (He.fAd K ("Equation", some "__init__")) fd39 := fun_ofD D39
  have b39 := F39.binds (ps := ["self", "row"]) fun _ _ _ _ _ _ us hl => match us, hl with | [_, _], _ => rfl
  obtain ⟨fd40, D40⟩ := c.def_ 40 (d := d_Equation_told) rfl
  have F40 : Fun K "told" "Equation.told" s_Equation_told (He.fAd K ("Equation", some "told")) fd40 := fun_ofD D40
  have b40 := F40.binds (ps := ["self"]) fun _ _ _ _ _ _ us hl => match us, hl with | [_], _ => rfl
  obtain ⟨fd41, D41⟩ := c.def_ 41 (d := d_Equation_tells) rfl
  have F41 : Fun K "tells" "Equation.tells" s_Equation_tells (He.fAd K ("Equation", some "tells")) fd41 := fun_ofD D41
  have b41 := F41.binds (ps := ["self"]) fun _ _ _ _ _ _ us hl => match us, hl with | [_], _ => rfl
  obtain ⟨fd42, D42⟩ := c.def_ 42 (d := d_Equation_names) rfl
  have F42 : Fun K "names" "Equation.names" s_Equation_names (He.fAd K ("Equation", some "names")) fd42 := fun_ofD D42
  have b42 := F42.binds (ps := ["self"]) fun _ _ _ _ _ _ us hl => match us, hl with | [_], _ => rfl
  obtain ⟨fd43, D43⟩ := c.def_ 43 (d := d_Equation_term) rfl
  have F43 : Fun K "term" "Equation.term" s_Equation_term (He.fAd K ("Equation", some "term")) fd43 := fun_ofD D43
  have b43 := F43.binds (ps := ["self"]) fun _ _ _ _ _ _ us hl => match us, hl with | [_], _ => rfl
  obtain ⟨fd44, D44⟩ := c.def_ 44 (d := d_Plain_init) rfl
  have F44 : Fun K "__init__" "Plain.__init__" s_Plain_init (He.fAd K ("Plain", some "__init__")) fd44 := fun_ofD D44
  have b44 := F44.binds (ps := ["self", "row"]) fun _ _ _ _ _ _ us hl => match us, hl with | [_, _], _ => rfl
  obtain ⟨fd45, D45⟩ := c.def_ 45 (d := d_Plain_names) rfl
  have F45 : Fun K "names" "Plain.names" s_Plain_names (He.fAd K ("Plain", some "names")) fd45 := fun_ofD D45
  have b45 := F45.binds (ps := ["self"]) fun _ _ _ _ _ _ us hl => match us, hl with | [_], _ => rfl
  obtain ⟨fd46, D46⟩ := c.def_ 46 (d := d_Plain_term) rfl
  have F46 : Fun K "term" "Plain.term" s_Plain_term (He.fAd K ("Plain", some "term")) fd46 := fun_ofD D46
  have b46 := F46.binds (ps := ["self"]) fun _ _ _ _ _ _ us hl => match us, hl with | [_], _ => rfl
  obtain ⟨fd47, D47⟩ := c.def_ 47 (d := d_When_names) rfl
  have F47 : Fun K "names" "When.names" s_When_names (He.fAd K ("When", some "names")) fd47 := fun_ofD D47
  have b47 := F47.binds (ps := ["self"]) fun _ _ _ _ _ _ us hl => match us, hl with | [_], _ => rfl
  obtain ⟨fd48, D48⟩ := c.def_ 48 (d := d_Same_tells) rfl
  have F48 : Fun K "tells" "Same.tells" s_Same_tells (He.fAd K ("Same", some "tells")) fd48 := fun_ofD D48
  have b48 := F48.binds (ps := ["self"]) fun _ _ _ _ _ _ us hl => match us, hl with | [_], _ => rfl
  obtain ⟨fd49, D49⟩ := c.def_ 49 (d := d_Same_names) rfl
  have F49 : Fun K "names" "Same.names" s_Same_names (He.fAd K ("Same", some "names")) fd49 := fun_ofD D49
  have b49 := F49.binds (ps := ["self"]) fun _ _ _ _ _ _ us hl => match us, hl with | [_], _ => rfl
  obtain ⟨fd50, D50⟩ := c.def_ 50 (d := d_Call_tells) rfl
  have F50 : Fun K "tells" "Call.tells" s_Call_tells (He.fAd K ("Call", some "tells")) fd50 := fun_ofD D50
  have b50 := F50.binds (ps := ["self"]) fun _ _ _ _ _ _ us hl => match us, hl with | [_], _ => rfl
  obtain ⟨fd51, D51⟩ := c.def_ 51 (d := d_Call_names) rfl
  have F51 : Fun K "names" "Call.names" s_Call_names (He.fAd K ("Call", some "names")) fd51 := fun_ofD D51
  have b51 := F51.binds (ps := ["self"]) fun _ _ _ _ _ _ us hl => match us, hl with | [_], _ => rfl
  obtain ⟨fd52, D52⟩ := c.def_ 52 (d := d_are_pointed) rfl
  have F52 : Fun K "are_pointed" "are_pointed" s_are_pointed (He.fAd K ("are_pointed", none)) fd52 := fun_ofD D52
  have b52 := F52.binds (ps := ["thing", "least"]) fun _ _ _ _ _ _ us hl => match us, hl with | [_, _], _ => rfl
  obtain ⟨fd53, D53⟩ := c.def_ 53 (d := d_is_valued) rfl
  have F53 : Fun K "is_valued" "is_valued" s_is_valued (He.fAd K ("is_valued", none)) fd53 := fun_ofD D53
  have b53 := F53.binds (ps := ["row"]) fun _ _ _ _ _ _ us hl => match us, hl with | [_], _ => rfl
  obtain ⟨fd54, D54⟩ := c.def_ 54 (d := d_plain_of) rfl
  have F54 : Fun K "plain_of" "plain_of" s_plain_of (He.fAd K ("plain_of", none)) fd54 := fun_ofD D54
  have b54 := F54.binds (ps := ["row"]) fun _ _ _ _ _ _ us hl => match us, hl with | [_], _ => rfl
  obtain ⟨fd55, D55⟩ := c.def_ 55 (d := d_valued_of) rfl
  have F55 : Fun K "valued_of" "valued_of" s_valued_of (He.fAd K ("valued_of", none)) fd55 := fun_ofD D55
  have b55 := F55.binds (ps := ["row"]) fun _ _ _ _ _ _ us hl => match us, hl with | [_], _ => rfl
  obtain ⟨fd56, D56⟩ := c.def_ 56 (d := d_call_of) rfl
  have F56 : Fun K "call_of" "call_of" s_call_of (He.fAd K ("call_of", none)) fd56 := fun_ofD D56
  have b56 := F56.binds (ps := ["row"]) fun _ _ _ _ _ _ us hl => match us, hl with | [_], _ => rfl
  obtain ⟨fd57, D57⟩ := c.def_ 57 (d := d_made_of) rfl
  have F57 : Fun K "made_of" "made_of" s_made_of (He.fAd K ("made_of", none)) fd57 := fun_ofD D57
  have b57 := F57.binds (ps := ["row"]) fun _ _ _ _ _ _ us hl => match us, hl with | [_], _ => rfl
  obtain ⟨fd58, D58⟩ := c.def_ 58 (d := d_equation_of) rfl
  have F58 : Fun K "equation_of" "equation_of" s_equation_of (He.fAd K ("equation_of", none)) fd58 := fun_ofD D58
  have b58 := F58.binds (ps := ["told"]) fun _ _ _ _ _ _ us hl => match us, hl with | [_], _ => rfl
  obtain ⟨fd59, D59⟩ := c.def_ 59 (d := d_need_names) rfl
  have F59 : Fun K "need_names" "need_names" s_need_names (He.fAd K ("need_names", none)) fd59 := fun_ofD D59
  have b59 := F59.binds (ps := ["things"]) fun _ _ _ _ _ _ us hl => match us, hl with | [_], _ => rfl
  obtain ⟨fd60, D60⟩ := c.def_ 60 (d := d_equations_of) rfl
  have F60 : Fun K "equations_of" "equations_of" s_equations_of (He.fAd K ("equations_of", none)) fd60 := fun_ofD D60
  have b60 := F60.binds (ps := ["rows"]) fun _ _ _ _ _ _ us hl => match us, hl with | [_], _ => rfl
  obtain ⟨fd61, D61⟩ := c.def_ 61 (d := d_Node_init) rfl
  have F61 : Fun K "__init__" "Node.__init__" s_Node_init (He.fAd K ("Node", some "__init__")) fd61 := fun_ofD D61
  have b61 := F61.binds (ps := ["self", "name", "inputs", "outs", "rows"]) fun _ _ _ _ _ _ us hl => match us, hl with | [_, _, _, _, _], _ => rfl
  obtain ⟨fd62, D62⟩ := c.def_ 62 (d := d_Node_take_tellers) rfl
  have F62 : Fun K "take_tellers" "Node.take_tellers" s_Node_take_tellers (He.fAd K ("Node", some "take_tellers")) fd62 := fun_ofD D62
  have b62 := F62.binds (ps := ["self"]) fun _ _ _ _ _ _ us hl => match us, hl with | [_], _ => rfl
  obtain ⟨fd63, D63⟩ := c.def_ 63 (d := d_Node_need_told) rfl
  have F63 : Fun K "need_told" "Node.need_told" s_Node_need_told (He.fAd K ("Node", some "need_told")) fd63 := fun_ofD D63
  have b63 := F63.binds (ps := ["self"]) fun _ _ _ _ _ _ us hl => match us, hl with | [_], _ => rfl
  obtain ⟨fd64, D64⟩ := c.def_ 64 (d := d_Node_told) rfl
  have F64 : Fun K "told" "Node.told" s_Node_told (He.fAd K ("Node", some "told")) fd64 := fun_ofD D64
  have b64 := F64.binds (ps := ["self"]) fun _ _ _ _ _ _ us hl => match us, hl with | [_], _ => rfl
  obtain ⟨fd65, D65⟩ := c.def_ 65 (d := d_node_of) rfl
  have F65 : Fun K "node_of" "node_of" s_node_of (He.fAd K ("node_of", none)) fd65 := fun_ofD D65
  have b65 := F65.binds (ps := ["told"]) fun _ _ _ _ _ _ us hl => match us, hl with | [_], _ => rfl
  obtain ⟨fd66, D66⟩ := c.def_ 66 (d := d_cell_at_l) rfl
  have F66 : Fun K "_law_cell_at" "_law_cell_at" s_cell_at_l (He.fAd K ("_law_cell_at", none)) fd66 := fun_ofD D66
  have b66 := F66.binds (ps := ["_law_script", "_law_k"]) fun _ _ _ _ _ _ us hl => match us, hl with | [_, _], _ => rfl
  obtain ⟨fd67, D67⟩ := c.def_ 67 (d := d_box_l) rfl
  have F67 : Fun K "_law_box" "_law_box" s_box_l (He.fAd K ("_law_box", none)) fd67 := fun_ofD D67
  have b67 := F67.binds (ps := ["_law_cell"]) fun _ _ _ _ _ _ us hl => match us, hl with | [_], _ => rfl
  obtain ⟨fd68, D68⟩ := c.def_ 68 (d := d_take_l) rfl
  have F68 : Fun K "_law_take" "_law_take" s_take_l (He.fAd K ("_law_take", none)) fd68 := fun_ofD D68
  have b68 := F68.binds (ps := ["_law_box_here", "_law_many_here"]) fun _ _ _ _ _ _ us hl => match us, hl with | [_, _], _ => rfl
  obtain ⟨fd69, D69⟩ := c.def_ 69 (d := d_mixed_l) rfl
  have F69 : Fun K "_law_mixed" "_law_mixed" s_mixed_l (He.fAd K ("_law_mixed", none)) fd69 := fun_ofD D69
  have b69 := F69.binds (ps := ["_law_box_here", "_law_some_here"]) fun _ _ _ _ _ _ us hl => match us, hl with | [_, _], _ => rfl
  obtain ⟨fd70, D70⟩ := c.def_ 70 (d := d_names_l) rfl
  have F70 : Fun K "_law_names" "_law_names" s_names_l (He.fAd K ("_law_names", none)) fd70 := fun_ofD D70
  have b70 := F70.binds (ps := ["_law_box_here", "_law_many_here"]) fun _ _ _ _ _ _ us hl => match us, hl with | [_, _], _ => rfl
  obtain ⟨fd71, D71⟩ := c.def_ 71 (d := d_value_l) rfl
  have F71 : Fun K "_law_value" "_law_value" s_value_l (He.fAd K ("_law_value", none)) fd71 := fun_ofD D71
  have b71 := F71.binds (ps := ["_law_box_here"]) fun _ _ _ _ _ _ us hl => match us, hl with | [_], _ => rfl
  obtain ⟨fd72, D72⟩ := c.def_ 72 (d := d_term_l) rfl
  have F72 : Fun K "_law_term" "_law_term" s_term_l (He.fAd K ("_law_term", none)) fd72 := fun_ofD D72
  have b72 := F72.binds (ps := ["_law_box_here", "_law_one", "_law_other"]) fun _ _ _ _ _ _ us hl => match us, hl with | [_, _, _], _ => rfl
  obtain ⟨fd73, D73⟩ := c.def_ 73 (d := d_slower_l) rfl
  have F73 : Fun K "_law_slower" "_law_slower" s_slower_l (He.fAd K ("_law_slower", none)) fd73 := fun_ofD D73
  have b73 := F73.binds (ps := ["_law_box_here", "_law_left", "_law_clocks", "_law_base", "_law_mate"]) fun _ _ _ _ _ _ us hl => match us, hl with | [_, _, _, _, _], _ => rfl
  obtain ⟨fd74, D74⟩ := c.def_ 74 (d := d_round_l) rfl
  have F74 : Fun K "_law_round" "_law_round" s_round_l (He.fAd K ("_law_round", none)) fd74 := fun_ofD D74
  have b74 := F74.binds (ps := ["_law_box_here", "_law_left", "_law_clocks", "_law_base", "_law_ring"]) fun _ _ _ _ _ _ us hl => match us, hl with | [_, _, _, _, _], _ => rfl
  obtain ⟨fd75, D75⟩ := c.def_ 75 (d := d_back_l) rfl
  have F75 : Fun K "_law_back" "_law_back" s_back_l (He.fAd K ("_law_back", none)) fd75 := fun_ofD D75
  have b75 := F75.binds (ps := ["_law_box_here", "_law_left", "_law_clocks", "_law_base", "_law_loops"]) fun _ _ _ _ _ _ us hl => match us, hl with | [_, _, _, _, _], _ => rfl
  obtain ⟨fd76, D76⟩ := c.def_ 76 (d := d_some_l) rfl
  have F76 : Fun K "_law_some" "_law_some" s_some_l (He.fAd K ("_law_some", none)) fd76 := fun_ofD D76
  have b76 := F76.binds (ps := ["_law_box_here", "_law_left", "_law_clocks", "_law_loops"]) fun _ _ _ _ _ _ us hl => match us, hl with | [_, _, _, _], _ => rfl
  obtain ⟨fd77, D77⟩ := c.def_ 77 (d := d_told_by_l) rfl
  have F77 : Fun K "_law_told_by" "_law_told_by" s_told_by_l (He.fAd K ("_law_told_by", none)) fd77 := fun_ofD D77
  have b77 := F77.binds (ps := ["_law_row"]) fun _ _ _ _ _ _ us hl => match us, hl with | [_], _ => rfl
  obtain ⟨fd78, D78⟩ := c.def_ 78 (d := d_drawn_l) rfl
  have F78 : Fun K "_law_drawn" "_law_drawn" s_drawn_l (He.fAd K ("_law_drawn", none)) fd78 := fun_ofD D78
  have b78 := F78.binds (ps := ["_law_box_here", "_law_many_here", "_law_loops"]) fun _ _ _ _ _ _ us hl => match us, hl with | [_, _, _], _ => rfl
  obtain ⟨fd79, D79⟩ := c.def_ 79 (d := d_many_l) rfl
  have F79 : Fun K "_law_many" "_law_many" s_many_l (He.fAd K ("_law_many", none)) fd79 := fun_ofD D79
  have b79 := F79.binds (ps := ["_law_box_here"]) fun _ _ _ _ _ _ us hl => match us, hl with | [_], _ => rfl
  obtain ⟨fd80, D80⟩ := c.def_ 80 (d := d_within_l) rfl
  have F80 : Fun K "_law_within" "_law_within" s_within_l (He.fAd K ("_law_within", none)) fd80 := fun_ofD D80
  have b80 := F80.binds (ps := ["_law_term_here"]) fun _ _ _ _ _ _ us hl => match us, hl with | [_], _ => rfl
  obtain ⟨fd81, D81⟩ := c.def_ 81 (d := d_reads_l) rfl
  have F81 : Fun K "_law_reads" "_law_reads" s_reads_l (He.fAd K ("_law_reads", none)) fd81 := fun_ofD D81
  have b81 := F81.binds (ps := ["_law_told", "_law_clocks"]) fun _ _ _ _ _ _ us hl => match us, hl with | [_, _], _ => rfl
  obtain ⟨fd82, D82⟩ := c.def_ 82 (d := d_is_row_l) rfl
  have F82 : Fun K "_law_is_row" "_law_is_row" s_is_row_l (He.fAd K ("_law_is_row", none)) fd82 := fun_ofD D82
  have b82 := F82.binds (ps := ["_law_reads_here", "_law_thing"]) fun _ _ _ _ _ _ us hl => match us, hl with | [_, _], _ => rfl
  obtain ⟨fd83, D83⟩ := c.def_ 83 (d := d_far_l) rfl
  have F83 : Fun K "_law_far" "_law_far" s_far_l (He.fAd K ("_law_far", none)) fd83 := fun_ofD D83
  have b83 := F83.binds (ps := ["_law_reads_here", "_law_name"]) fun _ _ _ _ _ _ us hl => match us, hl with | [_, _], _ => rfl
  obtain ⟨fd84, D84⟩ := c.def_ 84 (d := d_refused_l) rfl
  have F84 : Fun K "_law_refused" "_law_refused" s_refused_l (He.fAd K ("_law_refused", none)) fd84 := fun_ofD D84
  have b84 := F84.binds (ps := ["_law_way", "_law_node", "_law_clocks", "_law_one", "_law_other", "_law_bad"]) fun _ _ _ _ _ _ us hl => match us, hl with | [_, _, _, _, _, _], _ => rfl
  obtain ⟨fd85, D85⟩ := c.def_ 85 (d := d_way_right_l) rfl
  have F85 : Fun K "_law_way_right" "_law_way_right" s_way_right_l (He.fAd K ("_law_way_right", none)) fd85 := fun_ofD D85
  have b85 := F85.binds (ps := ["_law_node", "_law_clocks", "_law_reads_here", "_law_far_here", "_law_one", "_law_other"]) fun _ _ _ _ _ _ us hl => match us, hl with | [_, _, _, _, _, _], _ => rfl
  obtain ⟨fd86, D86⟩ := c.def_ 86 (d := d_law) rfl
  have F86 : Fun K "law" "law" s_law (He.fAd K ("law", none)) fd86 := fun_ofD D86
  have b86 := F86.binds (ps := ["_law_script"]) fun _ _ _ _ _ _ us hl => match us, hl with | [_], _ => rfl
  obtain ⟨t_LETTERS, k_LETTERS⟩ := He.str_ok X G (c.fact 82 (f := .str "LETTERS" "abcdefghijklmnopqrstuvwxyz") rfl)
  obtain ⟨t_LONGEST, k_LONGEST⟩ := He.int_ok X G (c.fact 83 (f := .int "LONGEST" (8)) rfl)
  obtain ⟨t_MOST, k_MOST⟩ := He.int_ok X G (c.fact 84 (f := .int "MOST" (1000000000)) rfl)
  obtain ⟨t_MOST_LEVELS, k_MOST_LEVELS⟩ := He.int_ok X G (c.fact 85 (f := .int "MOST_LEVELS" (5)) rfl)
  obtain ⟨t_MOST_SIGNS, k_MOST_SIGNS⟩ := He.int_ok X G (c.fact 86 (f := .int "MOST_SIGNS" (80)) rfl)
  obtain ⟨t_TOLD_THINGS, k_TOLD_THINGS⟩ := He.int_ok X G (c.fact 89 (f := .int "TOLD_THINGS" (4)) rfl)
  have e := hfa.symm.trans (He.glo_ok X G (c.fact 51 (f := .glo "law") rfl))
  cases e
  have T : Txt K mg ⟨(He.fAd K ("Unknown", some "__init__")), fd0, (He.fAd K ("names_in", none)), fd1, (He.fAd K ("told_by", none)), fd2, (He.fAd K ("mentioned_now", none)), fd3, (He.fAd K ("names_of", none)), fd4, (He.fAd K ("reads_of", none)), fd5, (He.fAd K ("need_known", none)), fd6, (He.fAd K ("steps_from", none)), fd7, (He.fAd K ("reached_from", none)), fd8, (He.fAd K ("way_between", none)), fd9, (He.fAd K ("is_way", none)), fd10, (He.fAd K ("is_whole", none)), fd11, (He.fAd K ("is_within", none)), fd12, (He.fAd K ("is_name", none)), fd13, (He.fAd K ("is_pointed", none)), fd14, (He.fAd K ("is_value", none)), fd15, (He.fAd K ("ops_told", none)), fd16, (He.fAd K ("Term", some "parts")), fd17, (He.fAd K ("Term", some "names")), fd18, (He.fAd K ("Term", some "levels")), fd19, (He.fAd K ("need_term", none)), fd20, (He.fAd K ("Name", some "__init__")), fd21, (He.fAd K ("Name", some "names")), fd22, (He.fAd K ("Name", some "told")), fd23, (He.fAd K ("Value", some "__init__")), fd24, (He.fAd K ("Value", some "told")), fd25, (He.fAd K ("Two", some "__init__")), fd26, (He.fAd K ("Two", some "parts")), fd27, (He.fAd K ("Two", some "told")), fd28, (He.fAd K ("Not", some "__init__")), fd29, (He.fAd K ("Not", some "parts")), fd30, (He.fAd K ("Not", some "told")), fd31, (He.fAd K ("Pick", some "__init__")), fd32, (He.fAd K ("Pick", some "parts")), fd33, (He.fAd K ("Pick", some "told")), fd34, (He.fAd K ("simple_of", none)), fd35, (He.fAd K ("made_of_told", none)), fd36, (He.fAd K ("term_of", none)), fd37, (He.fAd K ("each_once", none)), fd38, (He.fAd K ("Equation", some "__init__")), fd39, (He.fAd K ("Equation", some "told")), fd40, (He.fAd K ("Equation", some "tells")), fd41, (He.fAd K ("Equation", some "names")), fd42, (He.fAd K ("Equation", some "term")), fd43, (He.fAd K ("Plain", some "__init__")), fd44, (He.fAd K ("Plain", some "names")), fd45, (He.fAd K ("Plain", some "term")), fd46, (He.fAd K ("When", some "names")), fd47, (He.fAd K ("Same", some "tells")), fd48, (He.fAd K ("Same", some "names")), fd49, (He.fAd K ("Call", some "tells")), fd50, (He.fAd K ("Call", some "names")), fd51, (He.fAd K ("are_pointed", none)), fd52, (He.fAd K ("is_valued", none)), fd53, (He.fAd K ("plain_of", none)), fd54, (He.fAd K ("valued_of", none)), fd55, (He.fAd K ("call_of", none)), fd56, (He.fAd K ("made_of", none)), fd57, (He.fAd K ("equation_of", none)), fd58, (He.fAd K ("need_names", none)), fd59, (He.fAd K ("equations_of", none)), fd60, (He.fAd K ("Node", some "__init__")), fd61, (He.fAd K ("Node", some "take_tellers")), fd62, (He.fAd K ("Node", some "need_told")), fd63, (He.fAd K ("Node", some "told")), fd64, (He.fAd K ("node_of", none)), fd65, (He.fAd K ("_law_cell_at", none)), fd66, (He.fAd K ("_law_box", none)), fd67, (He.fAd K ("_law_take", none)), fd68, (He.fAd K ("_law_mixed", none)), fd69, (He.fAd K ("_law_names", none)), fd70, (He.fAd K ("_law_value", none)), fd71, (He.fAd K ("_law_term", none)), fd72, (He.fAd K ("_law_slower", none)), fd73, (He.fAd K ("_law_round", none)), fd74, (He.fAd K ("_law_back", none)), fd75, (He.fAd K ("_law_some", none)), fd76, (He.fAd K ("_law_told_by", none)), fd77, (He.fAd K ("_law_drawn", none)), fd78, (He.fAd K ("_law_many", none)), fd79, (He.fAd K ("_law_within", none)), fd80, (He.fAd K ("_law_reads", none)), fd81, (He.fAd K ("_law_is_row", none)), fd82, (He.fAd K ("_law_far", none)), fd83, (He.fAd K ("_law_refused", none)), fd84, (He.fAd K ("_law_way_right", none)), fd85, (He.fAd K ("law", none)), fd86, (He.ga K "OPS"), (He.ga K "OWN"), (He.ga K "BeatError"), (He.ga K "Unknown"), (He.ga K "Term"), (He.ga K "Name"), (He.ga K "Value"), (He.ga K "Two"), (He.ga K "Not"), (He.ga K "Pick"), (He.ga K "Equation"), (He.ga K "Plain"), (He.ga K "Before"), (He.ga K "When"), (He.ga K "Hold"), (He.ga K "Like"), (He.ga K "Same"), (He.ga K "Call"), (He.ga K "Node")⟩ := ⟨F0,
    b0,
    F1,
    b1,
    (He.glo_ok X G (c.fact 0 (f := .glo "names_in") rfl)),
    F2,
    b2,
    (He.glo_ok X G (c.fact 1 (f := .glo "told_by") rfl)),
    F3,
    b3,
    (He.glo_ok X G (c.fact 2 (f := .glo "mentioned_now") rfl)),
    F4,
    b4,
    (He.glo_ok X G (c.fact 3 (f := .glo "names_of") rfl)),
    F5,
    b5,
    (He.glo_ok X G (c.fact 4 (f := .glo "reads_of") rfl)),
    F6,
    b6,
    (He.glo_ok X G (c.fact 5 (f := .glo "need_known") rfl)),
    F7,
    b7,
    (He.glo_ok X G (c.fact 6 (f := .glo "steps_from") rfl)),
    F8,
    b8,
    (He.glo_ok X G (c.fact 7 (f := .glo "reached_from") rfl)),
    F9,
    b9,
    (He.glo_ok X G (c.fact 8 (f := .glo "way_between") rfl)),
    F10,
    b10,
    (He.glo_ok X G (c.fact 9 (f := .glo "is_way") rfl)),
    F11,
    b11,
    (He.glo_ok X G (c.fact 10 (f := .glo "is_whole") rfl)),
    F12,
    b12,
    (He.glo_ok X G (c.fact 11 (f := .glo "is_within") rfl)),
    F13,
    b13,
    (He.glo_ok X G (c.fact 12 (f := .glo "is_name") rfl)),
    F14,
    b14,
    (He.glo_ok X G (c.fact 13 (f := .glo "is_pointed") rfl)),
    F15,
    b15,
    (He.glo_ok X G (c.fact 14 (f := .glo "is_value") rfl)),
    F16,
    b16,
    (He.glo_ok X G (c.fact 15 (f := .glo "ops_told") rfl)),
    F17,
    b17,
    (allAt hex 0 (b := PySem.W.isFn K (.ref (He.fAd K ("Term", some "parts")))) rfl),
    F18,
    b18,
    (allAt hex 1 (b := PySem.W.isFn K (.ref (He.fAd K ("Term", some "names")))) rfl),
    F19,
    b19,
    (allAt hex 2 (b := PySem.W.isFn K (.ref (He.fAd K ("Term", some "levels")))) rfl),
    F20,
    b20,
    (He.glo_ok X G (c.fact 16 (f := .glo "need_term") rfl)),
    F21,
    b21,
    (allAt hex 3 (b := PySem.W.isFn K (.ref (He.fAd K ("Name", some "__init__")))) rfl),
    F22,
    b22,
    (allAt hex 4 (b := PySem.W.isFn K (.ref (He.fAd K ("Name", some "names")))) rfl),
    F23,
    b23,
    (allAt hex 5 (b := PySem.W.isFn K (.ref (He.fAd K ("Name", some "told")))) rfl),
    F24,
    b24,
    (allAt hex 6 (b := PySem.W.isFn K (.ref (He.fAd K ("Value", some "__init__")))) rfl),
    F25,
    b25,
    (allAt hex 7 (b := PySem.W.isFn K (.ref (He.fAd K ("Value", some "told")))) rfl),
    F26,
    b26,
    (allAt hex 8 (b := PySem.W.isFn K (.ref (He.fAd K ("Two", some "__init__")))) rfl),
    F27,
    b27,
    (allAt hex 9 (b := PySem.W.isFn K (.ref (He.fAd K ("Two", some "parts")))) rfl),
    F28,
    b28,
    (allAt hex 10 (b := PySem.W.isFn K (.ref (He.fAd K ("Two", some "told")))) rfl),
    F29,
    b29,
    (allAt hex 11 (b := PySem.W.isFn K (.ref (He.fAd K ("Not", some "__init__")))) rfl),
    F30,
    b30,
    (allAt hex 12 (b := PySem.W.isFn K (.ref (He.fAd K ("Not", some "parts")))) rfl),
    F31,
    b31,
    (allAt hex 13 (b := PySem.W.isFn K (.ref (He.fAd K ("Not", some "told")))) rfl),
    F32,
    b32,
    (allAt hex 14 (b := PySem.W.isFn K (.ref (He.fAd K ("Pick", some "__init__")))) rfl),
    F33,
    b33,
    (allAt hex 15 (b := PySem.W.isFn K (.ref (He.fAd K ("Pick", some "parts")))) rfl),
    F34,
    b34,
    (allAt hex 16 (b := PySem.W.isFn K (.ref (He.fAd K ("Pick", some "told")))) rfl),
    F35,
    b35,
    (He.glo_ok X G (c.fact 17 (f := .glo "simple_of") rfl)),
    F36,
    b36,
    (He.glo_ok X G (c.fact 18 (f := .glo "made_of_told") rfl)),
    F37,
    b37,
    (He.glo_ok X G (c.fact 19 (f := .glo "term_of") rfl)),
    F38,
    b38,
    (He.glo_ok X G (c.fact 20 (f := .glo "each_once") rfl)),
    F39,
    b39,
    (allAt hex 17 (b := PySem.W.isFn K (.ref (He.fAd K ("Equation", some "__init__")))) rfl),
    F40,
    b40,
    (allAt hex 18 (b := PySem.W.isFn K (.ref (He.fAd K ("Equation", some "told")))) rfl),
    F41,
    b41,
    (allAt hex 19 (b := PySem.W.isFn K (.ref (He.fAd K ("Equation", some "tells")))) rfl),
    F42,
    b42,
    (allAt hex 20 (b := PySem.W.isFn K (.ref (He.fAd K ("Equation", some "names")))) rfl),
    F43,
    b43,
    (allAt hex 21 (b := PySem.W.isFn K (.ref (He.fAd K ("Equation", some "term")))) rfl),
    F44,
    b44,
    (allAt hex 22 (b := PySem.W.isFn K (.ref (He.fAd K ("Plain", some "__init__")))) rfl),
    F45,
    b45,
    (allAt hex 23 (b := PySem.W.isFn K (.ref (He.fAd K ("Plain", some "names")))) rfl),
    F46,
    b46,
    (allAt hex 24 (b := PySem.W.isFn K (.ref (He.fAd K ("Plain", some "term")))) rfl),
    F47,
    b47,
    (allAt hex 25 (b := PySem.W.isFn K (.ref (He.fAd K ("When", some "names")))) rfl),
    F48,
    b48,
    (allAt hex 26 (b := PySem.W.isFn K (.ref (He.fAd K ("Same", some "tells")))) rfl),
    F49,
    b49,
    (allAt hex 27 (b := PySem.W.isFn K (.ref (He.fAd K ("Same", some "names")))) rfl),
    F50,
    b50,
    (allAt hex 28 (b := PySem.W.isFn K (.ref (He.fAd K ("Call", some "tells")))) rfl),
    F51,
    b51,
    (allAt hex 29 (b := PySem.W.isFn K (.ref (He.fAd K ("Call", some "names")))) rfl),
    F52,
    b52,
    (He.glo_ok X G (c.fact 21 (f := .glo "are_pointed") rfl)),
    F53,
    b53,
    (He.glo_ok X G (c.fact 22 (f := .glo "is_valued") rfl)),
    F54,
    b54,
    (He.glo_ok X G (c.fact 23 (f := .glo "plain_of") rfl)),
    F55,
    b55,
    (He.glo_ok X G (c.fact 24 (f := .glo "valued_of") rfl)),
    F56,
    b56,
    (He.glo_ok X G (c.fact 25 (f := .glo "call_of") rfl)),
    F57,
    b57,
    (He.glo_ok X G (c.fact 26 (f := .glo "made_of") rfl)),
    F58,
    b58,
    (He.glo_ok X G (c.fact 27 (f := .glo "equation_of") rfl)),
    F59,
    b59,
    (He.glo_ok X G (c.fact 28 (f := .glo "need_names") rfl)),
    F60,
    b60,
    (He.glo_ok X G (c.fact 29 (f := .glo "equations_of") rfl)),
    F61,
    b61,
    (allAt hex 30 (b := PySem.W.isFn K (.ref (He.fAd K ("Node", some "__init__")))) rfl),
    F62,
    b62,
    (allAt hex 31 (b := PySem.W.isFn K (.ref (He.fAd K ("Node", some "take_tellers")))) rfl),
    F63,
    b63,
    (allAt hex 32 (b := PySem.W.isFn K (.ref (He.fAd K ("Node", some "need_told")))) rfl),
    F64,
    b64,
    (allAt hex 33 (b := PySem.W.isFn K (.ref (He.fAd K ("Node", some "told")))) rfl),
    F65,
    b65,
    (He.glo_ok X G (c.fact 30 (f := .glo "node_of") rfl)),
    F66,
    b66,
    (He.glo_ok X G (c.fact 31 (f := .glo "_law_cell_at") rfl)),
    F67,
    b67,
    (He.glo_ok X G (c.fact 32 (f := .glo "_law_box") rfl)),
    F68,
    b68,
    (He.glo_ok X G (c.fact 33 (f := .glo "_law_take") rfl)),
    F69,
    b69,
    (He.glo_ok X G (c.fact 34 (f := .glo "_law_mixed") rfl)),
    F70,
    b70,
    (He.glo_ok X G (c.fact 35 (f := .glo "_law_names") rfl)),
    F71,
    b71,
    (He.glo_ok X G (c.fact 36 (f := .glo "_law_value") rfl)),
    F72,
    b72,
    (He.glo_ok X G (c.fact 37 (f := .glo "_law_term") rfl)),
    F73,
    b73,
    (He.glo_ok X G (c.fact 38 (f := .glo "_law_slower") rfl)),
    F74,
    b74,
    (He.glo_ok X G (c.fact 39 (f := .glo "_law_round") rfl)),
    F75,
    b75,
    (He.glo_ok X G (c.fact 40 (f := .glo "_law_back") rfl)),
    F76,
    b76,
    (He.glo_ok X G (c.fact 41 (f := .glo "_law_some") rfl)),
    F77,
    b77,
    (He.glo_ok X G (c.fact 42 (f := .glo "_law_told_by") rfl)),
    F78,
    b78,
    (He.glo_ok X G (c.fact 43 (f := .glo "_law_drawn") rfl)),
    F79,
    b79,
    (He.glo_ok X G (c.fact 44 (f := .glo "_law_many") rfl)),
    F80,
    b80,
    (He.glo_ok X G (c.fact 45 (f := .glo "_law_within") rfl)),
    F81,
    b81,
    (He.glo_ok X G (c.fact 46 (f := .glo "_law_reads") rfl)),
    F82,
    b82,
    (He.glo_ok X G (c.fact 47 (f := .glo "_law_is_row") rfl)),
    F83,
    b83,
    (He.glo_ok X G (c.fact 48 (f := .glo "_law_far") rfl)),
    F84,
    b84,
    (He.glo_ok X G (c.fact 49 (f := .glo "_law_refused") rfl)),
    F85,
    b85,
    (He.glo_ok X G (c.fact 50 (f := .glo "_law_way_right") rfl)),
    F86,
    b86,
    (He.glo_ok X G (c.fact 51 (f := .glo "law") rfl)),
    (He.glo_ok X G (c.fact 52 (f := .glo "BeatError") rfl)),
    (allAt hex 34 (b := baseB K (He.ga K "BeatError")) rfl),
    (allAt hex 35 (b := PySem.W.excIn K (He.ga K "BeatError") [.type "ValueError", .type "Exception", .type "BaseException", .type "object"] "ValueError.__new__") rfl),
    (allAt hex 36 (b := PySem.W.keepIn K (.ref (He.ga K "BeatError"))) rfl),
    (allAt hex 37 (b := icB K (He.ga K "BeatError")) rfl),
    (He.glo_ok X G (c.fact 53 (f := .glo "Unknown") rfl)),
    (allAt hex 38 (b := exB K (He.ga K "Unknown") ["name"]) rfl),
    (of_decide_eq_true (allAt hex 39 (b := decide (PySem.W.findIn K (.ref (He.ga K "Unknown")) "__init__" = some (some (.ref (He.fAd K ("Unknown", some "__init__")))))) rfl)),
    (of_decide_eq_true (allAt hex 40 (b := decide (PySem.W.typeIn K (.ref (He.fAd K ("Unknown", some "__init__"))) = some (.type "function"))) rfl)),
    (He.glo_ok X G (c.fact 54 (f := .glo "Term") rfl)),
    (He.glo_ok X G (c.fact 55 (f := .glo "Name") rfl)),
    (allAt hex 41 (b := tcB K (He.ga K "Name") ["name"]) rfl),
    (of_decide_eq_true (allAt hex 42 (b := decide (PySem.W.findIn K (.ref (He.ga K "Name")) "__init__" = some (some (.ref (He.fAd K ("Name", some "__init__")))))) rfl)),
    (of_decide_eq_true (allAt hex 43 (b := decide (PySem.W.findIn K (.ref (He.ga K "Name")) "parts" = some (some (.ref (He.fAd K ("Term", some "parts")))))) rfl)),
    (of_decide_eq_true (allAt hex 44 (b := decide (PySem.W.findIn K (.ref (He.ga K "Name")) "names" = some (some (.ref (He.fAd K ("Name", some "names")))))) rfl)),
    (of_decide_eq_true (allAt hex 45 (b := decide (PySem.W.findIn K (.ref (He.ga K "Name")) "levels" = some (some (.ref (He.fAd K ("Term", some "levels")))))) rfl)),
    (of_decide_eq_true (allAt hex 46 (b := decide (PySem.W.findIn K (.ref (He.ga K "Name")) "told" = some (some (.ref (He.fAd K ("Name", some "told")))))) rfl)),
    (He.glo_ok X G (c.fact 56 (f := .glo "Value") rfl)),
    (allAt hex 47 (b := tcB K (He.ga K "Value") ["amount"]) rfl),
    (of_decide_eq_true (allAt hex 48 (b := decide (PySem.W.findIn K (.ref (He.ga K "Value")) "__init__" = some (some (.ref (He.fAd K ("Value", some "__init__")))))) rfl)),
    (of_decide_eq_true (allAt hex 49 (b := decide (PySem.W.findIn K (.ref (He.ga K "Value")) "parts" = some (some (.ref (He.fAd K ("Term", some "parts")))))) rfl)),
    (of_decide_eq_true (allAt hex 50 (b := decide (PySem.W.findIn K (.ref (He.ga K "Value")) "names" = some (some (.ref (He.fAd K ("Term", some "names")))))) rfl)),
    (of_decide_eq_true (allAt hex 51 (b := decide (PySem.W.findIn K (.ref (He.ga K "Value")) "levels" = some (some (.ref (He.fAd K ("Term", some "levels")))))) rfl)),
    (of_decide_eq_true (allAt hex 52 (b := decide (PySem.W.findIn K (.ref (He.ga K "Value")) "told" = some (some (.ref (He.fAd K ("Value", some "told")))))) rfl)),
    (He.glo_ok X G (c.fact 57 (f := .glo "Two") rfl)),
    (allAt hex 53 (b := tcB K (He.ga K "Two") ["op", "one", "second"]) rfl),
    (of_decide_eq_true (allAt hex 54 (b := decide (PySem.W.findIn K (.ref (He.ga K "Two")) "__init__" = some (some (.ref (He.fAd K ("Two", some "__init__")))))) rfl)),
    (of_decide_eq_true (allAt hex 55 (b := decide (PySem.W.findIn K (.ref (He.ga K "Two")) "parts" = some (some (.ref (He.fAd K ("Two", some "parts")))))) rfl)),
    (of_decide_eq_true (allAt hex 56 (b := decide (PySem.W.findIn K (.ref (He.ga K "Two")) "names" = some (some (.ref (He.fAd K ("Term", some "names")))))) rfl)),
    (of_decide_eq_true (allAt hex 57 (b := decide (PySem.W.findIn K (.ref (He.ga K "Two")) "levels" = some (some (.ref (He.fAd K ("Term", some "levels")))))) rfl)),
    (of_decide_eq_true (allAt hex 58 (b := decide (PySem.W.findIn K (.ref (He.ga K "Two")) "told" = some (some (.ref (He.fAd K ("Two", some "told")))))) rfl)),
    (He.glo_ok X G (c.fact 58 (f := .glo "Not") rfl)),
    (allAt hex 59 (b := tcB K (He.ga K "Not") ["one"]) rfl),
    (of_decide_eq_true (allAt hex 60 (b := decide (PySem.W.findIn K (.ref (He.ga K "Not")) "__init__" = some (some (.ref (He.fAd K ("Not", some "__init__")))))) rfl)),
    (of_decide_eq_true (allAt hex 61 (b := decide (PySem.W.findIn K (.ref (He.ga K "Not")) "parts" = some (some (.ref (He.fAd K ("Not", some "parts")))))) rfl)),
    (of_decide_eq_true (allAt hex 62 (b := decide (PySem.W.findIn K (.ref (He.ga K "Not")) "names" = some (some (.ref (He.fAd K ("Term", some "names")))))) rfl)),
    (of_decide_eq_true (allAt hex 63 (b := decide (PySem.W.findIn K (.ref (He.ga K "Not")) "levels" = some (some (.ref (He.fAd K ("Term", some "levels")))))) rfl)),
    (of_decide_eq_true (allAt hex 64 (b := decide (PySem.W.findIn K (.ref (He.ga K "Not")) "told" = some (some (.ref (He.fAd K ("Not", some "told")))))) rfl)),
    (He.glo_ok X G (c.fact 59 (f := .glo "Pick") rfl)),
    (allAt hex 65 (b := tcB K (He.ga K "Pick") ["by", "one", "second"]) rfl),
    (of_decide_eq_true (allAt hex 66 (b := decide (PySem.W.findIn K (.ref (He.ga K "Pick")) "__init__" = some (some (.ref (He.fAd K ("Pick", some "__init__")))))) rfl)),
    (of_decide_eq_true (allAt hex 67 (b := decide (PySem.W.findIn K (.ref (He.ga K "Pick")) "parts" = some (some (.ref (He.fAd K ("Pick", some "parts")))))) rfl)),
    (of_decide_eq_true (allAt hex 68 (b := decide (PySem.W.findIn K (.ref (He.ga K "Pick")) "names" = some (some (.ref (He.fAd K ("Term", some "names")))))) rfl)),
    (of_decide_eq_true (allAt hex 69 (b := decide (PySem.W.findIn K (.ref (He.ga K "Pick")) "levels" = some (some (.ref (He.fAd K ("Term", some "levels")))))) rfl)),
    (of_decide_eq_true (allAt hex 70 (b := decide (PySem.W.findIn K (.ref (He.ga K "Pick")) "told" = some (some (.ref (He.fAd K ("Pick", some "told")))))) rfl)),
    (He.glo_ok X G (c.fact 60 (f := .glo "Equation") rfl)),
    (allAt hex 71 (b := tcB K (He.ga K "Equation") ["told_row"]) rfl),
    (of_decide_eq_true (allAt hex 72 (b := decide (PySem.W.findIn K (.ref (He.ga K "Equation")) "__init__" = some (some (.ref (He.fAd K ("Equation", some "__init__")))))) rfl)),
    (of_decide_eq_true (allAt hex 73 (b := decide (PySem.W.findIn K (.ref (He.ga K "Equation")) "names" = some (some (.ref (He.fAd K ("Equation", some "names")))))) rfl)),
    (of_decide_eq_true (allAt hex 74 (b := decide (PySem.W.findIn K (.ref (He.ga K "Equation")) "told" = some (some (.ref (He.fAd K ("Equation", some "told")))))) rfl)),
    (of_decide_eq_true (allAt hex 75 (b := decide (PySem.W.findIn K (.ref (He.ga K "Equation")) "tells" = some (some (.ref (He.fAd K ("Equation", some "tells")))))) rfl)),
    (of_decide_eq_true (allAt hex 76 (b := decide (PySem.W.findIn K (.ref (He.ga K "Equation")) "term" = some (some (.ref (He.fAd K ("Equation", some "term")))))) rfl)),
    (He.glo_ok X G (c.fact 61 (f := .glo "Plain") rfl)),
    (allAt hex 77 (b := tcB K (He.ga K "Plain") ["told_row", "kept_term"]) rfl),
    (of_decide_eq_true (allAt hex 78 (b := decide (PySem.W.findIn K (.ref (He.ga K "Plain")) "__init__" = some (some (.ref (He.fAd K ("Plain", some "__init__")))))) rfl)),
    (of_decide_eq_true (allAt hex 79 (b := decide (PySem.W.findIn K (.ref (He.ga K "Plain")) "names" = some (some (.ref (He.fAd K ("Plain", some "names")))))) rfl)),
    (of_decide_eq_true (allAt hex 80 (b := decide (PySem.W.findIn K (.ref (He.ga K "Plain")) "told" = some (some (.ref (He.fAd K ("Equation", some "told")))))) rfl)),
    (of_decide_eq_true (allAt hex 81 (b := decide (PySem.W.findIn K (.ref (He.ga K "Plain")) "tells" = some (some (.ref (He.fAd K ("Equation", some "tells")))))) rfl)),
    (of_decide_eq_true (allAt hex 82 (b := decide (PySem.W.findIn K (.ref (He.ga K "Plain")) "term" = some (some (.ref (He.fAd K ("Plain", some "term")))))) rfl)),
    (He.glo_ok X G (c.fact 62 (f := .glo "Before") rfl)),
    (allAt hex 83 (b := tcB K (He.ga K "Before") ["told_row"]) rfl),
    (of_decide_eq_true (allAt hex 84 (b := decide (PySem.W.findIn K (.ref (He.ga K "Before")) "__init__" = some (some (.ref (He.fAd K ("Equation", some "__init__")))))) rfl)),
    (of_decide_eq_true (allAt hex 85 (b := decide (PySem.W.findIn K (.ref (He.ga K "Before")) "names" = some (some (.ref (He.fAd K ("Equation", some "names")))))) rfl)),
    (of_decide_eq_true (allAt hex 86 (b := decide (PySem.W.findIn K (.ref (He.ga K "Before")) "told" = some (some (.ref (He.fAd K ("Equation", some "told")))))) rfl)),
    (of_decide_eq_true (allAt hex 87 (b := decide (PySem.W.findIn K (.ref (He.ga K "Before")) "tells" = some (some (.ref (He.fAd K ("Equation", some "tells")))))) rfl)),
    (of_decide_eq_true (allAt hex 88 (b := decide (PySem.W.findIn K (.ref (He.ga K "Before")) "term" = some (some (.ref (He.fAd K ("Equation", some "term")))))) rfl)),
    (He.glo_ok X G (c.fact 63 (f := .glo "When") rfl)),
    (allAt hex 89 (b := tcB K (He.ga K "When") ["told_row"]) rfl),
    (of_decide_eq_true (allAt hex 90 (b := decide (PySem.W.findIn K (.ref (He.ga K "When")) "__init__" = some (some (.ref (He.fAd K ("Equation", some "__init__")))))) rfl)),
    (of_decide_eq_true (allAt hex 91 (b := decide (PySem.W.findIn K (.ref (He.ga K "When")) "names" = some (some (.ref (He.fAd K ("When", some "names")))))) rfl)),
    (of_decide_eq_true (allAt hex 92 (b := decide (PySem.W.findIn K (.ref (He.ga K "When")) "told" = some (some (.ref (He.fAd K ("Equation", some "told")))))) rfl)),
    (of_decide_eq_true (allAt hex 93 (b := decide (PySem.W.findIn K (.ref (He.ga K "When")) "tells" = some (some (.ref (He.fAd K ("Equation", some "tells")))))) rfl)),
    (of_decide_eq_true (allAt hex 94 (b := decide (PySem.W.findIn K (.ref (He.ga K "When")) "term" = some (some (.ref (He.fAd K ("Equation", some "term")))))) rfl)),
    (He.glo_ok X G (c.fact 64 (f := .glo "Hold") rfl)),
    (allAt hex 95 (b := tcB K (He.ga K "Hold") ["told_row"]) rfl),
    (of_decide_eq_true (allAt hex 96 (b := decide (PySem.W.findIn K (.ref (He.ga K "Hold")) "__init__" = some (some (.ref (He.fAd K ("Equation", some "__init__")))))) rfl)),
    (of_decide_eq_true (allAt hex 97 (b := decide (PySem.W.findIn K (.ref (He.ga K "Hold")) "names" = some (some (.ref (He.fAd K ("Equation", some "names")))))) rfl)),
    (of_decide_eq_true (allAt hex 98 (b := decide (PySem.W.findIn K (.ref (He.ga K "Hold")) "told" = some (some (.ref (He.fAd K ("Equation", some "told")))))) rfl)),
    (of_decide_eq_true (allAt hex 99 (b := decide (PySem.W.findIn K (.ref (He.ga K "Hold")) "tells" = some (some (.ref (He.fAd K ("Equation", some "tells")))))) rfl)),
    (of_decide_eq_true (allAt hex 100 (b := decide (PySem.W.findIn K (.ref (He.ga K "Hold")) "term" = some (some (.ref (He.fAd K ("Equation", some "term")))))) rfl)),
    (He.glo_ok X G (c.fact 65 (f := .glo "Like") rfl)),
    (allAt hex 101 (b := tcB K (He.ga K "Like") ["told_row"]) rfl),
    (of_decide_eq_true (allAt hex 102 (b := decide (PySem.W.findIn K (.ref (He.ga K "Like")) "__init__" = some (some (.ref (He.fAd K ("Equation", some "__init__")))))) rfl)),
    (of_decide_eq_true (allAt hex 103 (b := decide (PySem.W.findIn K (.ref (He.ga K "Like")) "names" = some (some (.ref (He.fAd K ("Equation", some "names")))))) rfl)),
    (of_decide_eq_true (allAt hex 104 (b := decide (PySem.W.findIn K (.ref (He.ga K "Like")) "told" = some (some (.ref (He.fAd K ("Equation", some "told")))))) rfl)),
    (of_decide_eq_true (allAt hex 105 (b := decide (PySem.W.findIn K (.ref (He.ga K "Like")) "tells" = some (some (.ref (He.fAd K ("Equation", some "tells")))))) rfl)),
    (of_decide_eq_true (allAt hex 106 (b := decide (PySem.W.findIn K (.ref (He.ga K "Like")) "term" = some (some (.ref (He.fAd K ("Equation", some "term")))))) rfl)),
    (He.glo_ok X G (c.fact 66 (f := .glo "Same") rfl)),
    (allAt hex 107 (b := tcB K (He.ga K "Same") ["told_row"]) rfl),
    (of_decide_eq_true (allAt hex 108 (b := decide (PySem.W.findIn K (.ref (He.ga K "Same")) "__init__" = some (some (.ref (He.fAd K ("Equation", some "__init__")))))) rfl)),
    (of_decide_eq_true (allAt hex 109 (b := decide (PySem.W.findIn K (.ref (He.ga K "Same")) "names" = some (some (.ref (He.fAd K ("Same", some "names")))))) rfl)),
    (of_decide_eq_true (allAt hex 110 (b := decide (PySem.W.findIn K (.ref (He.ga K "Same")) "told" = some (some (.ref (He.fAd K ("Equation", some "told")))))) rfl)),
    (of_decide_eq_true (allAt hex 111 (b := decide (PySem.W.findIn K (.ref (He.ga K "Same")) "tells" = some (some (.ref (He.fAd K ("Same", some "tells")))))) rfl)),
    (of_decide_eq_true (allAt hex 112 (b := decide (PySem.W.findIn K (.ref (He.ga K "Same")) "term" = some (some (.ref (He.fAd K ("Equation", some "term")))))) rfl)),
    (He.glo_ok X G (c.fact 67 (f := .glo "Call") rfl)),
    (allAt hex 113 (b := tcB K (He.ga K "Call") ["told_row"]) rfl),
    (of_decide_eq_true (allAt hex 114 (b := decide (PySem.W.findIn K (.ref (He.ga K "Call")) "__init__" = some (some (.ref (He.fAd K ("Equation", some "__init__")))))) rfl)),
    (of_decide_eq_true (allAt hex 115 (b := decide (PySem.W.findIn K (.ref (He.ga K "Call")) "names" = some (some (.ref (He.fAd K ("Call", some "names")))))) rfl)),
    (of_decide_eq_true (allAt hex 116 (b := decide (PySem.W.findIn K (.ref (He.ga K "Call")) "told" = some (some (.ref (He.fAd K ("Equation", some "told")))))) rfl)),
    (of_decide_eq_true (allAt hex 117 (b := decide (PySem.W.findIn K (.ref (He.ga K "Call")) "tells" = some (some (.ref (He.fAd K ("Call", some "tells")))))) rfl)),
    (of_decide_eq_true (allAt hex 118 (b := decide (PySem.W.findIn K (.ref (He.ga K "Call")) "term" = some (some (.ref (He.fAd K ("Equation", some "term")))))) rfl)),
    (He.glo_ok X G (c.fact 68 (f := .glo "Node") rfl)),
    (allAt hex 119 (b := tcB K (He.ga K "Node") ["name", "kept_inputs", "kept_outs", "kept_rows", "tellers"]) rfl),
    (of_decide_eq_true (allAt hex 120 (b := decide (PySem.W.findIn K (.ref (He.ga K "Node")) "__init__" = some (some (.ref (He.fAd K ("Node", some "__init__")))))) rfl)),
    (of_decide_eq_true (allAt hex 121 (b := decide (PySem.W.findIn K (.ref (He.ga K "Node")) "told" = some (some (.ref (He.fAd K ("Node", some "told")))))) rfl)),
    (of_decide_eq_true (allAt hex 122 (b := decide (PySem.W.findIn K (.ref (He.ga K "Node")) "take_tellers" = some (some (.ref (He.fAd K ("Node", some "take_tellers")))))) rfl)),
    (of_decide_eq_true (allAt hex 123 (b := decide (PySem.W.findIn K (.ref (He.ga K "Node")) "need_told" = some (some (.ref (He.fAd K ("Node", some "need_told")))))) rfl)),
    (allAt hex 124 (b := difB [(He.ga K "Name"), (He.ga K "Value"), (He.ga K "Two"), (He.ga K "Not"), (He.ga K "Pick")]) rfl),
    (allAt hex 125 (b := subB K (He.ga K "Name") (He.ga K "Term")) rfl),
    (allAt hex 126 (b := subB K (He.ga K "Value") (He.ga K "Term")) rfl),
    (allAt hex 127 (b := subB K (He.ga K "Two") (He.ga K "Term")) rfl),
    (allAt hex 128 (b := subB K (He.ga K "Not") (He.ga K "Term")) rfl),
    (allAt hex 129 (b := subB K (He.ga K "Pick") (He.ga K "Term")) rfl),
    (allAt hex 130 (b := difB [(He.ga K "Plain"), (He.ga K "Name"), (He.ga K "Value"), (He.ga K "Two"), (He.ga K "Not"), (He.ga K "Pick")]) rfl),
    (allAt hex 131 (b := difB [(He.ga K "Plain"), (He.ga K "Before"), (He.ga K "Hold"), (He.ga K "Like"), (He.ga K "When"), (He.ga K "Same"), (He.ga K "Call")]) rfl),
    (allAt hex 132 (b := difB [(He.ga K "Node"), (He.ga K "Name"), (He.ga K "Value"), (He.ga K "Two"), (He.ga K "Not"), (He.ga K "Pick")]) rfl),
    (allAt hex 133 (b := difB [(He.ga K "Node"), (He.ga K "Plain"), (He.ga K "Before"), (He.ga K "Hold"), (He.ga K "Like"), (He.ga K "When"), (He.ga K "Same"), (He.ga K "Call")]) rfl),
    (allAt hex 134 (b := kitTab K [(He.ga K "Plain"), (He.ga K "Before"), (He.ga K "Hold"), (He.ga K "Like"), (He.ga K "When"), (He.ga K "Same"), (He.ga K "Call")] (He.ga K "Equation")) rfl),
    (allAt hex 135 (b := cmB K (He.ga K "Equation") (He.fAd K ("Equation", some "__init__")) "__init__") rfl),
    (of_decide_eq_true (allAt hex 136 (b := decide (PySem.W.exmOne K (.ref (He.ga K "Unknown")) (.ref (He.ga K "Unknown")) = some true)) rfl)),
    (of_decide_eq_true (allAt hex 137 (b := decide (PySem.W.kitOne K (.ref (He.ga K "Unknown")) (.ref (He.ga K "BeatError")) = some true)) rfl)),
    (He.free_ok X G (c.fact 69 (f := .free "all") rfl)),
    (He.free_ok X G (c.fact 70 (f := .free "bool") rfl)),
    (He.free_ok X G (c.fact 71 (f := .free "dict") rfl)),
    (He.free_ok X G (c.fact 72 (f := .free "int") rfl)),
    (He.free_ok X G (c.fact 73 (f := .free "isinstance") rfl)),
    (He.free_ok X G (c.fact 74 (f := .free "len") rfl)),
    (He.free_ok X G (c.fact 75 (f := .free "list") rfl)),
    (He.free_ok X G (c.fact 76 (f := .free "max") rfl)),
    (He.free_ok X G (c.fact 77 (f := .free "min") rfl)),
    (He.free_ok X G (c.fact 78 (f := .free "range") rfl)),
    (He.free_ok X G (c.fact 79 (f := .free "repr") rfl)),
    (He.free_ok X G (c.fact 80 (f := .free "str") rfl)),
    (He.free_ok X G (c.fact 81 (f := .free "tuple") rfl)),
    ⟨_, k_LETTERS, ⟨_, rfl⟩⟩,
    ⟨_, k_LONGEST, ⟨_, rfl⟩⟩,
    ⟨_, k_MOST, ⟨_, rfl⟩⟩,
    ⟨_, k_MOST_LEVELS, ⟨_, rfl⟩⟩,
    ⟨_, k_MOST_SIGNS, ⟨_, rfl⟩⟩,
    ⟨_, He.glo_ok X G (c.fact 87 (f := .glo "OPS") rfl), rfl⟩,
    (tupB_ok (allAt hex 138 (b := tupB K (He.ga K "OPS") ["+", "-", "*", "/", "mod", "<", "=", "&", "|"]) rfl)),
    ⟨_, He.glo_ok X G (c.fact 88 (f := .glo "OWN") rfl), rfl⟩,
    (tupB_ok (allAt hex 139 (b := tupB K (He.ga K "OWN") ["node", "in", "out", "before", "when", "hold", "like", "same", "call", "true", "false", "mod", "beat", "desk"]) rfl)),
    ⟨_, k_TOLD_THINGS, ⟨_, rfl⟩⟩⟩
  have bb := FunD.bindsA (ps := ["_law_script"]) D86 fun _ _ _ _ _ _ us hl => match us, hl with | [_], _ => rfl
  exact ⟨_, fun s v => bb s [v] rfl, fun base _ _ => ok_law T⟩
end Toy
open PySem PySem.W PySem.Calls PyProof.Rows in
set_option maxHeartbeats 0 in
theorem PySem.Challenge.cw_beatrows_k64_ways_told_holds : PySem.Challenge.rw_beatrows_k64_ways_told.Holds := by
  w_on; o_law
  refine HandSHeadRun.head_any (r := Toy.RW) (q := view Toy.RW.prog [99]) (H := Toy.hk) (ob := Toy.ob) (M := 20000) (loose := Toy.loose) (d := HandSHeadRun.topDef Toy.RW.prog 99) (kwd := []) Toy.ob_eq
    (by kernel_rfl) (fun s => by kernel_rfl) Toy.run (by kernel_rfl) (by kernel_rfl) (by kernel_rfl) (by rfl)
    (by first | assumption | decide +kernel) (by decide +kernel) ⟨rfl, rfl, rfl, rfl, rfl, by decide +kernel⟩ ?hw ?hc
  case hw => w_witness2
  case hc =>
    refine L2.walk_ofEG (l := PySem.Challenge.rw_beatrows_k64_ways_told) (n := 63) (k := 35) (x := "_law_script") (CX := L2.CX0) rfl (by decide) (by kernel_rfl) ⟨rfl, by decide, by decide⟩ ?F (fun _ _ _ _ z => z)
    intro w mg fa h Y G hmg0
    obtain ⟨K, KX, c⟩ := Y
    have hmg : mg ("law" : PySem.Str) = some (.ref fa) := by
      have e : (HandSHeadRun.topDef Toy.RW.prog 99).name = ("law" : PySem.Str) := by kernel_rfl
      rw [← e]
      exact hmg0
    obtain ⟨fd, hb, hF⟩ := Toy.facts2 (P := PySem.Challenge.rw_beatrows_k64_ways_told.prog) (w := w) KX G hmg c.1 c.2
    exact ⟨K, fd, Toy.sp_law K, KX, hb, fun H a ns hl _ hS => ⟨a, ns, rfl, hS, hl, fun _ => rfl⟩, hF⟩
