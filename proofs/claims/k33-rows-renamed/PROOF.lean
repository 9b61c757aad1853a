import PyProof.Rows.All
import Wide.All
import OpenK.AllK
import Wide.FinOn
import KE.KExcIs
import HandS.ForMost
import HandS.IsInst
import HandS.Flow
import HandS.Evl
import HandS.Walk
import HandS.Replace
import HandS.Deep
import HandS.SortKw
import HandS.Wide
import HandS.ExcOwn
import HandS.WordsExc
import HandS.TryMany
import HandS.More
import KE.DatumOrd
import HandS.DeepEq
import KE.KEqDict
import HandS.Exc
import HandS.ExcField
import HandS.ExcInit
import HandS.ExcValue
import HandS.Defaults
import HandS.Head0
import HandS.Head1
import HandS.Head2
import HandS.HeadEnd
import HandS.HeadHook1
import HandS.HeadHook2
import HandS.HeadHook3
import HandS.HeadHook4
import PySem.Challenge.RW_beatrows_k33_rows_renamed
set_option Elab.async false
set_option linter.all false
set_option maxRecDepth 100000
set_option maxHeartbeats 4000000
/-! ### own small rules -/
namespace L2
open PySem PySem.Spec PyProof.Rows
section
variable {X : Cx}
theorem pe_gcst {x : Str} {v : V} {pos : Pos} (hg : Gl X x) (h : ∃ u, X.mg x = some u ∧ RelV v u) (hd : (x == ("__debug__" : Str)) = false := by decide) : PE X (.Name x pos) (tC v) :=
  let ⟨_, hm, r⟩ := h
  pe_glob hg hm r hd
/-- divmod by any divisor but nought, below 2^30 -/
theorem call_divmodN : CallR X (.builtin "divmod") (fun xs H Q => ∃ i j : Int, xs = [.int i, .int j] ∧ CDivN i j ∧ ∀ p, H p = none → Q (.ref p) (upd H p (.tup [.int (i.fdiv j), .int (i.fmod j)]))) := by
  intro pins s σ H xs us Q I r h
  obtain ⟨i, j, rfl, ⟨h1, h2⟩, q⟩ := h
  obtain ⟨u, w', rfl, ⟨t, rfl⟩, ⟨t', rfl⟩⟩ := vals2 r
  refine divmod_int h1 ?_ (.inl (PyProof.noPylong_small h2))
  have hn := I.hok.fresh (Nat.le_refl s.heap.objs.size)
  refine ⟨.ref s.heap.objs.size, upd H s.heap.objs.size (.tup [.int (i.fdiv j), .int (i.fmod j)]), ?_, rfl, q _ hn⟩
  refine I.laid (fun b o e => Heap.get?_push_of_some _ e) (Nat.le_refl _) ?_
  refine ⟨by show 2 ≤ sizeLine; decide, [.int (i.fdiv j) s.toks, .int (i.fmod j) (s.toks + 1)], ?_, ?_⟩
  · exact .cons ⟨_, rfl⟩ (.cons ⟨_, rfl⟩ .nil)
  · exact ⟨_, Heap.get?_push_size s.heap rfl, rfl, 0, rfl⟩
end
/-- a new tuple, a new list of these, all else kept -/
def RetT (xs : List V) (H : Hp) (Q : VK) : Prop := ∀ p H2, H p = none → Evl.Ex H H2 → H2 p = some (.tup xs) → Q (.ref p) H2
def RetL (xs : List V) (H : Hp) (Q : VK) : Prop := ∀ p H2, H p = none → Evl.Ex H H2 → H2 p = some (.lst xs) → Q (.ref p) H2
def RetV (v : V) (H : Hp) (Q : VK) : Prop := ∀ H2, Evl.Ex H H2 → Q v H2
theorem RetT.up {xs : List V} {H0 H : Hp} {Q : VK} (k : RetT xs H0 Q) (e : Evl.Ex H0 H) : RetT xs H Q := fun p H2 hp e2 h2 => k p H2 (Evl.fresh_back e hp) (e.trans e2) h2
theorem RetL.up {xs : List V} {H0 H : Hp} {Q : VK} (k : RetL xs H0 Q) (e : Evl.Ex H0 H) : RetL xs H Q := fun p H2 hp e2 h2 => k p H2 (Evl.fresh_back e hp) (e.trans e2) h2
theorem RetV.up {v : V} {H0 H : Hp} {Q : VK} (k : RetV v H0 Q) (e : Evl.Ex H0 H) : RetV v H Q := fun H2 e2 => k H2 (e.trans e2)
def NewT (xs : List V) (H : Hp) (Q : VK) : Prop := xs.length ≤ sizeLine ∧ ∀ p, H p = none → Q (.ref p) (upd H p (.tup xs))
def NewL (xs : List V) (H : Hp) (Q : VK) : Prop := xs.length ≤ sizeLine ∧ ∀ p, H p = none → Q (.ref p) (upd H p (.lst xs))
theorem newT {xs : List V} {H : Hp} {Q : VK} (k : RetT xs H Q) (hz : xs.length ≤ 100000 := by exact Nat.le_of_ble_eq_true rfl) : NewT xs H Q := ⟨Evl.sz_of hz, fun p hp => k p _ hp (Evl.Ex.new hp) upd_same⟩
theorem newL {xs : List V} {H : Hp} {Q : VK} (k : RetL xs H Q) (hz : xs.length ≤ 100000 := by exact Nat.le_of_ble_eq_true rfl) : NewL xs H Q := ⟨Evl.sz_of hz, fun p hp => k p _ hp (Evl.Ex.new hp) upd_same⟩
theorem if_tt {c : Bool} {A B : Prop} (hc : c = true) (h : A) : if c = true then A else B := by rw [if_pos hc]; exact h
theorem if_ff {c : Bool} {A B : Prop} (hc : c = false) (h : B) : if c = true then A else B := by rw [hc]; exact iteF h
theorem if_nt {A B : Prop} (h : B) : if (!true) = true then A else B := iteF h
theorem if_nf {A B : Prop} (h : A) : if (!false) = true then A else B := iteT h
theorem if_cs {c : Bool} {A B : Prop} (h1 : c = true → A) (h2 : c = false → B) : if c = true then A else B := by
  cases c with
  | true => exact iteT (h1 rfl)
  | false => exact iteF (h2 rfl)
theorem kb_ii : kitB "int" "int" = some true := by decide +kernel
theorem kb_bi : kitB "bool" "int" = some true := by decide +kernel
theorem kb_ib : kitB "int" "bool" = some false := by decide +kernel
theorem kb_bb : kitB "bool" "bool" = some true := by decide +kernel
theorem ty_int {K : PySem.W.Frag} {H : Hp} (i : Int) : TyX K H (.int i) (.type "int") := .base (.int i)
theorem ty_bl {K : PySem.W.Frag} {H : Hp} (b : Bool) : TyX K H (.bl b) (.type "bool") := .base (.bl b)
theorem ty_str {K : PySem.W.Frag} {H : Hp} (b : Str) : TyX K H (.str b) (.type "str") := .base (.str b)
theorem ty_non {K : PySem.W.Frag} {H : Hp} : TyX K H .non (.type "NoneType") := .base .non
theorem ty_tup {K : PySem.W.Frag} {H : Hp} {a : Addr} {xs : List V} (h : H a = some (.tup xs)) : TyX K H (.ref a) (.type "tuple") := .base (.tup h)
theorem ty_lst {K : PySem.W.Frag} {H : Hp} {a : Addr} {xs : List V} (h : H a = some (.lst xs)) : TyX K H (.ref a) (.type "list") := .base (.lst h)
/-- isinstance of a thing of a built-in type -/
theorem isi {K : PySem.W.Frag} {H : Hp} {Q : VK} {x : V} {a b : String} {r : Bool} (h : TyX K H x (.type a)) (e : kitB a b = some r) (q : Q (.bl r) H) : rIsi K [x, .ty b] H Q :=
  ⟨x, .ty b, .type a, .type b, r, rfl, .ty b, h, kit_ty e, q⟩
end L2

/-! ### readings, one step each (the goal's head tells which) -/
namespace L2
open PySem PySem.Spec PyProof.Rows
section
variable {K : PySem.W.Frag} {σ : St} {H : Hp} {Q : VK} {B : Bool → Hp → Prop} {ta tb tc te : TE} {t u : TT} {tA : TA} {D : Ends} {s1 s2 : TS} {g : TG} {gs : TGs} {v : V} {r : R2}
theorem c_var {i : Nat} (h : σ[i]? = some (some v)) (q : Q v H) : tVar i σ H Q := ⟨v, h, q⟩
theorem c_c (q : Q v H) : tC v σ H Q := q
theorem c_op (h : ta σ H fun x H1 => tb σ H1 fun y H2 => r x y H2 Q) : tOp r ta tb σ H Q := h
theorem c_un {f : V → Hp → VK → Prop} (h : ta σ H fun x H1 => f x H1 Q) : tUn f ta σ H Q := h
theorem c_test (h : te σ H fun x H1 => ∃ k, x = .bl k ∧ B k H1) : tTest te σ H B := h
theorem c_b (h : te σ H fun x H1 => ∃ k, x = .bl k ∧ B k H1) : tB te σ H B := h
theorem c_and (h : t σ H fun c H1 => if c = true then u σ H1 B else B false H1) : tAnd t u σ H B := h
theorem c_or (h : t σ H fun c H1 => if c = true then B true H1 else u σ H1 B) : tOr t u σ H B := h
theorem c_not (h : t σ H fun c H1 => B (!c) H1) : tNot t σ H B := h
theorem c_andV (h : ta σ H fun x H1 => ∃ c, x = .bl c ∧ if c = true then tb σ H1 Q else Q (.bl false) H1) : tAndV ta tb σ H Q := h
theorem c_orV (h : ta σ H fun x H1 => ∃ c, x = .bl c ∧ if c = true then Q (.bl true) H1 else tb σ H1 Q) : tOrV ta tb σ H Q := h
theorem c_notV (h : ta σ H fun x H1 => ∃ c, x = .bl c ∧ Q (.bl (!c)) H1) : tNotV ta σ H Q := h
theorem c_if (h : t σ H fun c H1 => if c = true then ta σ H1 Q else tb σ H1 Q) : tIf t ta tb σ H Q := h
theorem c_orT (h : ta σ H fun x H1 => ∃ k, TruV K x H1 k ∧ if k = true then Q x H1 else tb σ H1 Q) : tOrT K ta tb σ H Q := h
theorem c_andT (h : ta σ H fun x H1 => ∃ k, TruV K x H1 k ∧ if k = true then tb σ H1 Q else Q x H1) : tAndT K ta tb σ H Q := h
theorem c_notT (h : ta σ H fun x H1 => ∃ k, TruV K x H1 k ∧ Q (.bl (!k)) H1) : tNotT K ta σ H Q := h
theorem c_yes (h : B true H) : tYes σ H B := h
theorem c_nil {q : List V → Hp → Prop} (h : q [] H) : tNil σ H q := h
theorem c_cons {q : List V → Hp → Prop} (h : ta σ H fun x H1 => tA σ H1 fun xs H2 => q (x :: xs) H2) : tCons ta tA σ H q := h
theorem c_tup (h : tA σ H fun xs H1 => NewT xs H1 Q) : tTup tA σ H Q := h
theorem c_lst (h : tA σ H fun xs H1 => NewL xs H1 Q) : tLst tA σ H Q := h
theorem c_call {sp : Sp} {E : XK} (h : tA σ H fun vs H1 => sp vs H1 Q E) : tCall sp [] E tA σ H Q := by
  show tA σ H fun vs H1 => sp (vs ++ []) H1 Q E
  simp only [List.append_nil]
  exact h
theorem c_cb {f : List V → Hp → VK → Prop} (h : tA σ H fun vs H1 => f vs H1 Q) : tCB f tA σ H Q := h
theorem c_sl {f : V → Option Int → Option Int → Hp → VK → Prop} {tl th : TO} (h : te σ H fun x H1 => tl σ H1 fun l H2 => th σ H2 fun u H3 => f x l u H3 Q) : tSl f te tl th σ H Q := h
theorem c_noPart {q : Option Int → Hp → Prop} (h : q none H) : tNoPart σ H q := h
theorem c_part {q : Option Int → Hp → Prop} (h : te σ H fun x H1 => ∃ i, x = .int i ∧ q (some i) H1) : tPart te σ H q := h
theorem c_bm {T : String} {f : V → List V → Hp → VK → Prop} (h : te σ H fun x H1 => tyV K T x H1 ∧ tA σ H1 fun xs H2 => f x xs H2 Q) : tBM K T f te tA σ H Q := h
theorem c_bm0 {T : String} {f : V → List V → Hp → VK → Prop} (h : te σ H fun x H1 => tyV K T x H1 ∧ f x [] H1 Q) : tBM0 K T f te σ H Q := h
theorem c_m0 {f : V → List V → Hp → VK → Prop} (h : te σ H fun x H1 => (∃ a, x = .str a) ∧ f x [] H1 Q) : tM0 f te σ H Q := h
theorem c_m1 {f : V → List V → Hp → VK → Prop} (h : ta σ H fun x H1 => (∃ a, x = .str a) ∧ tb σ H1 fun y H2 => f x [y] H2 Q) : tM1 f ta tb σ H Q := h
theorem c_chain {r' : R2} (h : ta σ H fun x H1 => tb σ H1 fun y H2 => r x y H2 fun z H3 => ∃ k, z = .bl k ∧ (if k = true then tc σ H3 fun w' H4 => r' y w' H4 Q else Q (.bl false) H3)) : tChain r r' ta tb tc σ H Q := h
/-! statements -/
theorem c_next (h : D.nx σ H) : tNext D σ H := h
theorem c_seq (h : s1 { D with nx := s2 D } σ H) : tSeq s1 s2 D σ H := h
theorem c_asg (h : te σ H fun x H1 => g x σ H1 D.nx) : tAsg te g D σ H := h
theorem c_ret (h : te σ H D.rt) : tRet te D σ H := h
theorem c_retN (h : D.rt .non H) : tRetN D σ H := h
theorem c_ifS (h : t σ H fun b H1 => if b = true then s1 D σ H1 else s2 D σ H1) : tIfS t s1 s2 D σ H := h
theorem c_drop (h : te σ H fun _ H1 => D.nx σ H1) : tDrop te D σ H := h
theorem c_break (h : D.bk σ H) : tBreak D σ H := h
theorem c_cont (h : D.ct σ H) : tCont D σ H := h
theorem c_nx {nx : St → Hp → Prop} {rt : VK} {bk ct : St → Hp → Prop} (h : nx σ H) : Ends.nx ⟨nx, rt, bk, ct⟩ σ H := h
theorem c_rt {nx : St → Hp → Prop} {rt : VK} {bk ct : St → Hp → Prop} (h : rt v H) : Ends.rt ⟨nx, rt, bk, ct⟩ v H := h
theorem c_bk {nx : St → Hp → Prop} {rt : VK} {bk ct : St → Hp → Prop} (h : bk σ H) : Ends.bk ⟨nx, rt, bk, ct⟩ σ H := h
theorem c_ct {nx : St → Hp → Prop} {rt : VK} {bk ct : St → Hp → Prop} (h : ct σ H) : Ends.ct ⟨nx, rt, bk, ct⟩ σ H := h
theorem c_gName {i : Nat} {q : St → Hp → Prop} (h : q (σ.set i (some v)) H) : gName i v σ H q := h
theorem c_gTup {n : Nat} {a : Addr} {xs : List V} {q : St → Hp → Prop} (hs : SqT K H a xs) (hl : xs.length = n) (h : gs xs σ H q) : gTup K n gs (.ref a) σ H q := ⟨a, xs, rfl, hs, hl, h⟩
theorem c_gCons {vs : List V} {q : St → Hp → Prop} (h : g v σ H fun σ' H' => gs vs σ' H' q) : gCons g gs (v :: vs) σ H q := ⟨v, vs, rfl, h⟩
theorem c_gNil {q : St → Hp → Prop} (h : q σ H) : gNil [] σ H q := ⟨rfl, h⟩
theorem c_gSub {to ti : TE} {f : TSet} {q : St → Hp → Prop} (h : to σ H fun o H1 => ti σ H1 fun i H2 => f o i v H2 fun H3 => q σ H3) : gSub to ti f v σ H q := h
theorem c_cut {M : St → Hp → Prop} (h : s1 { D with nx := M } σ H) (k : ∀ σ' H', M σ' H' → s2 D σ' H') : Evl.tCut s1 s2 D σ H := ⟨M, h, k⟩
/-! operations on values -/
theorem c_I0 {f : Int → Int → V} {i j : Int} (q : Q (f i j) H) : rI0 f (.int i) (.int j) H Q := ⟨i, j, rfl, rfl, q⟩
theorem c_I {C : Int → Int → Prop} {f : Int → Int → V} {i j : Int} (hc : C i j) (q : Q (f i j) H) : rI C f (.int i) (.int j) H Q := ⟨i, j, rfl, rfl, hc, q⟩
theorem c_U {f : Int → V} {i : Int} (q : Q (f i) H) : rU f (.int i) H Q := ⟨i, rfl, q⟩
theorem c_eq {x y : V} (h : scal x y = true) (q : Q (.bl (decide (x = y))) H) : rEq x y H Q := ⟨h, q⟩
theorem c_ne {x y : V} (h : scal x y = true) (q : Q (.bl (!decide (x = y))) H) : rNe x y H Q := ⟨h, q⟩
theorem c_ixL {p : Addr} {xs : List V} {i : Int} (h : SqL K H p xs) (ha : atI xs i = some v) (q : Q v H) : rIxL K (.ref p) (.int i) H Q := ⟨p, xs, i, v, rfl, rfl, h, ha, q⟩
theorem c_ixT {p : Addr} {xs : List V} {i : Int} (h : SqT K H p xs) (ha : atI xs i = some v) (q : Q v H) : rIxT K (.ref p) (.int i) H Q := ⟨p, xs, i, v, rfl, rfl, h, ha, q⟩
theorem c_setL {p : Addr} {xs : List V} {k : Int} {j : Nat} {q : Hp → Prop} (h : H p = some (.lst xs)) (hj : ixN xs.length k = some j) (h2 : q (upd H p (.lst (xs.set j v)))) : rSetL (.ref p) (.int k) v H q := ⟨p, xs, k, j, rfl, rfl, h, hj, h2⟩
theorem c_in {x : V} {p : Addr} {xs : List V} (h : SqL K H p xs ∨ SqT K H p xs) (hx : flatV x = true) (ha : xs.all flatV = true) (q : Q (.bl (inV x xs)) H) : rIn K false x (.ref p) H Q := ⟨p, xs, rfl, h, hx, ha, q⟩
theorem c_notin {x : V} {p : Addr} {xs : List V} (h : SqL K H p xs ∨ SqT K H p xs) (hx : flatV x = true) (ha : xs.all flatV = true) (q : Q (.bl (!inV x xs)) H) : rIn K true x (.ref p) H Q := ⟨p, xs, rfl, h, hx, ha, q⟩
theorem c_cat {l b : Addr} {xs zs : List V} (h : H l = some (.lst xs)) (h' : H b = some (.lst zs)) (k : RetL (xs ++ zs) H Q) (hz : xs.length + zs.length ≤ 100000 := by exact Nat.le_of_ble_eq_true rfl) : rCat (.ref l) (.ref b) H Q :=
  ⟨l, b, xs, zs, rfl, rfl, h, h', Evl.sz_of hz, fun p hp => k p _ hp (Evl.Ex.new hp) upd_same⟩
end
end L2

/-! ### == of tuples and lists of flat things -/
namespace L2
open PySem PySem.Spec PyProof.Rows
def dOf : V → PyData
  | .non => .none
  | .bl b => .bool b
  | .int i => .int i
  | .str x => .str x
  | _ => .none
/-- flat, its signs within the line -/
def okV : V → Bool
  | .non => true
  | .bl _ => true
  | .int _ => true
  | .str x => PyData.strOk x
  | _ => false
theorem okV_flat {v : V} (h : okV v = true) : flatV v = true := by
  cases v <;> first | rfl | exact absurd h Bool.false_ne_true
theorem okL_flat {xs : List V} (h : xs.all okV = true) : xs.all flatV = true := by
  rw [List.all_eq_true] at h ⊢
  exact fun x hx => okV_flat (h x hx)
def eqL : List V → List V → Bool
  | [], [] => true
  | x :: xs, y :: ys => eqV x y && eqL xs ys
  | _, _ => false
theorem dp_flat {K : PySem.W.Frag} {H : Hp} {v : V} (h : flatV v = true) : Dp K H v (dOf v) := by
  cases v with
  | non => exact .non
  | bl b => exact .bl b
  | int i => exact .int i
  | str x => exact .str x
  | _ => exact absurd h Bool.false_ne_true
theorem dpAll_flat {K : PySem.W.Frag} {H : Hp} : ∀ {xs : List V}, xs.all flatV = true → DpAll K H xs (xs.map dOf)
  | [], _ => .nil
  | x :: xs, h => by
    rw [List.all_cons, Bool.and_eq_true] at h
    exact .cons (dp_flat h.1) (dpAll_flat h.2)
theorem eqv_flat {a b : V} (ha : flatV a = true) (hb : flatV b = true) : PyData.eqv (dOf a) (dOf b) = eqV a b := by
  cases a <;> first | exact absurd ha Bool.false_ne_true | (cases b <;> first | exact absurd hb Bool.false_ne_true | simp [dOf, PyData.eqv, eqV])
theorem eqvAll_flat : ∀ {xs ys : List V}, xs.all flatV = true → ys.all flatV = true → PyData.eqvAll (xs.map dOf) (ys.map dOf) = eqL xs ys
  | [], [], _, _ => by simp [PyData.eqvAll, eqL]
  | [], _ :: _, _, _ => by simp [PyData.eqvAll, eqL]
  | _ :: _, [], _, _ => by simp [PyData.eqvAll, eqL]
  | x :: xs, y :: ys, h, h' => by
    rw [List.all_cons, Bool.and_eq_true] at h h'
    rw [List.map_cons, List.map_cons, PyData.eqvAll, eqv_flat h.1 h'.1, eqvAll_flat h.2 h'.2] <;> rfl
theorem flat_lay {v : V} (ho : okV v = true) : (dOf v).canLay0 = true ∧ (dOf v).depth ≤ 1 := by
  cases v <;> first | exact absurd ho Bool.false_ne_true | (simp [okV] at ho; simp [dOf, PyData.canLay0, PyData.depth, ho]) | simp [dOf, PyData.canLay0, PyData.depth]
theorem flat_layAll : ∀ {xs : List V}, xs.all okV = true → PyData.canLayAll0 (xs.map dOf) = true ∧ PyData.depthAll (xs.map dOf) ≤ 1
  | [], _ => by simp [PyData.canLayAll0, PyData.depthAll]
  | x :: xs, ho => by
    rw [List.all_cons, Bool.and_eq_true] at ho
    have h := flat_lay (v := x) ho.1
    have h2 := flat_layAll (xs := xs) ho.2
    rw [List.map_cons, PyData.canLayAll0, PyData.depthAll, h.1, h2.1]
    refine ⟨rfl, ?_⟩
    have := h.2
    have := h2.2
    omega
theorem shaped_tup {xs : List V} (ho : xs.all okV = true) : SeqAt.shaped (.tuple (xs.map dOf)) = true := by
  have h := flat_layAll (xs := xs) ho
  have h2 := h.2
  unfold SeqAt.shaped
  rw [PyData.canLay0, PyData.depth, h.1, Bool.true_and, decide_eq_true_eq]
  omega
theorem shaped_lst {xs : List V} (ho : xs.all okV = true) : SeqAt.shaped (.list (xs.map dOf)) = true := by
  have h := flat_layAll (xs := xs) ho
  have h2 := h.2
  unfold SeqAt.shaped
  rw [PyData.canLay0, PyData.depth, h.1, Bool.true_and, decide_eq_true_eq]
  omega
section
variable {K : PySem.W.Frag} {H : Hp} {Q : VK} {p q : Addr} {xs ys : List V}
theorem c_eqT (h : SqT K H p xs) (h' : SqT K H q ys) (f : xs.all okV = true) (f' : ys.all okV = true) (k : Q (.bl (eqL xs ys)) H) : rEqD K (.ref p) (.ref q) H Q :=
  ⟨_, _, .tup h (dpAll_flat (okL_flat f)), .tup h' (dpAll_flat (okL_flat f')), shaped_tup f, shaped_tup f', by rw [PyData.eqv, eqvAll_flat (okL_flat f) (okL_flat f')]; exact k⟩
theorem c_neT (h : SqT K H p xs) (h' : SqT K H q ys) (f : xs.all okV = true) (f' : ys.all okV = true) (k : Q (.bl (!eqL xs ys)) H) : rNeD K (.ref p) (.ref q) H Q :=
  ⟨_, _, .tup h (dpAll_flat (okL_flat f)), .tup h' (dpAll_flat (okL_flat f')), shaped_tup f, shaped_tup f', by rw [PyData.eqv, eqvAll_flat (okL_flat f) (okL_flat f')]; exact k⟩
theorem c_eqLs (h : SqL K H p xs) (h' : SqL K H q ys) (f : xs.all okV = true) (f' : ys.all okV = true) (k : Q (.bl (eqL xs ys)) H) : rEqD K (.ref p) (.ref q) H Q :=
  ⟨_, _, .lst h (dpAll_flat (okL_flat f)), .lst h' (dpAll_flat (okL_flat f')), shaped_lst f, shaped_lst f', by rw [PyData.eqv, eqvAll_flat (okL_flat f) (okL_flat f')]; exact k⟩
theorem c_neLs (h : SqL K H p xs) (h' : SqL K H q ys) (f : xs.all okV = true) (f' : ys.all okV = true) (k : Q (.bl (!eqL xs ys)) H) : rNeD K (.ref p) (.ref q) H Q :=
  ⟨_, _, .lst h (dpAll_flat (okL_flat f)), .lst h' (dpAll_flat (okL_flat f')), shaped_lst f, shaped_lst f', by rw [PyData.eqv, eqvAll_flat (okL_flat f) (okL_flat f')]; exact k⟩
theorem eqV_refl {v : V} (h : flatV v = true) : eqV v v = true := by
  cases v <;> first | exact absurd h Bool.false_ne_true | simp [eqV]
theorem eqL_refl : ∀ {xs : List V}, xs.all flatV = true → eqL xs xs = true
  | [], _ => rfl
  | x :: xs, h => by
    rw [List.all_cons, Bool.and_eq_true] at h
    rw [eqL, eqV_refl h.1, eqL_refl h.2] <;> rfl
end
/-! ### the law's box -/
def BoxAt (H : Hp) (b : Addr) : Prop := ∃ x y z : Int, 0 ≤ x ∧ H b = some (.lst [.int x, .int y, .int z])
/-- all but b is kept -/
def ExB (b : Addr) (H H' : Hp) : Prop := ∀ a o, a ≠ b → H a = some o → H' a = some o
theorem ExB.refl (b : Addr) (H : Hp) : ExB b H H := fun _ _ _ h => h
theorem ExB.trans {b : Addr} {H H1 H2 : Hp} (e : ExB b H H1) (e2 : ExB b H1 H2) : ExB b H H2 := fun a o n h => e2 a o n (e a o n h)
theorem ExB.ex {b : Addr} {H H1 H2 : Hp} (e : ExB b H H1) (e2 : Evl.Ex H1 H2) : ExB b H H2 := fun a o n h => e2 a o (e a o n h)
theorem ExB.of {b : Addr} {H H1 : Hp} (e : Evl.Ex H H1) : ExB b H H1 := fun a o _ h => e a o h
theorem ExB.upd {b : Addr} {H : Hp} {o : HO} : ExB b H (upd H b o) := fun a u n h => by rw [upd_ne n]; exact h
theorem BoxAt.ex {H H' : Hp} {b : Addr} (h : BoxAt H b) (e : Evl.Ex H H') : BoxAt H' b := let ⟨x, y, z, p, q⟩ := h; ⟨x, y, z, p, e _ _ q⟩
/-- what did not stand before b was made is kept through ExB b -/
theorem ExB.tot {b : Addr} {H0 H H' : Hp} (e : Evl.Ex H0 H) (n : H0 b = none) (e2 : ExB b H H') : Evl.Ex H0 H' := fun a o h => e2 a o (ne_of_none h n) (e a o h)
theorem ExB.lst {K : PySem.W.Frag} {b a : Addr} {H H' : Hp} {xs : List V} (e : ExB b H H') (n : a ≠ b) (h : SqL K H a xs) : SqL K H' a xs := by
  rcases h with (h | ⟨o, h⟩) | h
  · exact .inl (.inl (e _ _ n h))
  · exact .inl (.inr ⟨o, e _ _ n h⟩)
  · exact .inr h
end L2
namespace L2
open PySem PySem.Spec PyProof.Rows
theorem shaped_flat {v : V} (h : okV v = true) : SeqAt.shaped (dOf v) = true := by
  have q := flat_lay h
  unfold SeqAt.shaped
  rw [q.1, Bool.true_and, decide_eq_true_eq]
  have := q.2
  omega
theorem c_eqF {K : PySem.W.Frag} {H : Hp} {Q : VK} {x y : V} (f : okV x = true) (f' : okV y = true) (k : Q (.bl (eqV x y)) H) : rEqD K x y H Q :=
  ⟨_, _, dp_flat (okV_flat f), dp_flat (okV_flat f'), shaped_flat f, shaped_flat f', by rw [eqv_flat (okV_flat f) (okV_flat f')]; exact k⟩
theorem c_neF {K : PySem.W.Frag} {H : Hp} {Q : VK} {x y : V} (f : okV x = true) (f' : okV y = true) (k : Q (.bl (!eqV x y)) H) : rNeD K x y H Q :=
  ⟨_, _, dp_flat (okV_flat f), dp_flat (okV_flat f'), shaped_flat f, shaped_flat f', by rw [eqv_flat (okV_flat f) (okV_flat f')]; exact k⟩
end L2
namespace L2
open PySem PySem.Spec PyProof.Rows
theorem dec_s {x y : Str} : decide (V.str x = V.str y) = decide (x = y) := by
  by_cases h : x = y
  · subst h; simp
  · rw [decide_eq_false h, decide_eq_false fun e => h (V.str.inj e)]
theorem str_ne {x y : Str} (h : x ≠ y) : decide (V.str x = V.str y) = false := by rw [dec_s]; exact decide_eq_false h
theorem str_eq {x y : Str} (h : x = y) : decide (V.str x = V.str y) = true := by rw [dec_s]; exact decide_eq_true h
end L2

/-! ### list.count of flat things -/
namespace L2
open PySem PySem.Spec PyProof.Rows
theorem countP_eqU {x : V} : ∀ {xs : List V} {us : List Value}, Vals xs us → xs.all flatV = true → us.countP (eqU x) = xs.countP fun y => eqV y x
  | _, _, .nil, _ => rfl
  | y :: xs, u :: us, .cons r t, h => by
    rw [List.all_cons, Bool.and_eq_true] at h
    rw [List.countP_cons, List.countP_cons, countP_eqU t h.2, eqU_of r h.1]
def rCntF (K : PySem.W.Frag) : V → List V → Hp → VK → Prop := fun x xs H Q => ∃ (p : Addr) (ys : List V) (y : V), x = .ref p ∧ xs = [y] ∧ SqL K H p ys ∧ flatV y = true ∧ ys.all flatV = true ∧ Q (.int ((ys.countP fun z => eqV z y : Nat) : Int)) H
theorem mt_countF {X : Cx} : MtR X "list.count" (rCntF X.K) := by
  intro pins s σ H x xs v us Q I rx rxs h
  obtain ⟨p, ys, y, rfl, rfl, hs, fy, fl, q⟩ := h
  cases rx
  obtain ⟨u, rfl, ru⟩ := rxs.one
  obtain ⟨its, rv, ⟨⟨cls, dd, data, sl⟩, n, ho, hc, hdn, hd⟩, hlen⟩ := I.list hs
  simp only at hc hd
  subst hc hd
  have ec : its.toArray.toList.countP (eqU y) = ys.countP fun z => eqV z y := countP_eqU rv fl
  refine call_meets PySem.F.slot_list_count ⟨_, ho, rfl⟩ PySem.F.entry_list_count (PySem.F.args_list_count_2 _ _)
    (SeqAt.list_countAt p its.toArray n dd sl u (eqU y)) ⟨ho, fun z hz => mem_eqAt ru fy rv fl z (by simpa using hz), ?_⟩
  refine ⟨.int ((ys.countP fun z => eqV z y : Nat) : Int), H, I.tok _, ⟨s.toks, ?_⟩, q⟩
  rw [ec]
end L2

/-! ### a list comprehension whose element and test are told by the turn -/
namespace L2
open PySem PySem.Spec PyProof.Rows
theorem range_fm {f : Nat → Option V} {n : Nat} : (List.range (n + 1)).filterMap f = (List.range n).filterMap f ++ (f n).toList := by
  rw [List.range_succ, List.filterMap_append]
  cases h : f n <;> simp [List.filterMap_cons, h]
theorem fm_len {f : Nat → Option V} {n : Nat} : ((List.range n).filterMap f).length ≤ n := by
  have h := List.length_filterMap_le f (List.range n)
  rw [List.length_range] at h
  exact h
section
variable {K : PySem.W.Frag} {σ : St} {H : Hp} {Q : VK} {g : TG} {tt : TT} {te : TE} {vs : List Nat}
/-- one turn: the target, the test, the element come to f i, all that stood kept -/
def LcTurn (g : TG) (tt : TT) (te : TE) (vs : List Nat) (σ : St) (H : Hp) (x : V) (y : Option V) : Prop :=
  ∀ H2, Evl.Ex H H2 → ∀ R : Option V → Hp → Prop, (∀ H3, Evl.Ex H2 H3 → R y H3) →
    g x (wipe σ vs) H2 fun σ2 H3 => wipe σ2 vs = wipe σ vs ∧ tt σ2 H3 fun b H4 => if b = true then te σ2 H4 fun y H5 => R (some y) H5 else R none H4
theorem lc_of {n : Nat} {D : Addr} {H1 : Hp} {f : Nat → Option V} {i : Nat} {H' : Hp} (hn : n ≤ 50000) (hi : i < n) (p1 : H1 D = none) (p2 : Evl.Ex H1 H') (p3 : H' D = some (.lst ((List.range i).filterMap f))) {x : V} (ht : LcTurn g tt te vs σ H1 x (f i)) :
    g x (wipe σ vs) H' fun σ2 H2 => wipe σ2 vs = wipe σ vs ∧ tt σ2 H2 fun b H3 =>
      if b = true then te σ2 H3 fun y H4 => ∃ acc, H4 D = some (.lst acc) ∧ acc.length < sizeLine ∧ (H1 D = none ∧ Evl.Ex H1 (upd H4 D (.lst (acc ++ [y]))) ∧ upd H4 D (.lst (acc ++ [y])) D = some (.lst ((List.range (i + 1)).filterMap f))) else (H1 D = none ∧ Evl.Ex H1 H3 ∧ H3 D = some (.lst ((List.range (i + 1)).filterMap f))) := by
  refine ht H' p2 (fun o H4 => match o with
    | some y => ∃ acc, H4 D = some (.lst acc) ∧ acc.length < sizeLine ∧ (H1 D = none ∧ Evl.Ex H1 (upd H4 D (.lst (acc ++ [y]))) ∧ upd H4 D (.lst (acc ++ [y])) D = some (.lst ((List.range (i + 1)).filterMap f)))
    | none => (H1 D = none ∧ Evl.Ex H1 H4 ∧ H4 D = some (.lst ((List.range (i + 1)).filterMap f)))) (fun H3 e3 => ?_)
  cases hf : f i with
  | some y =>
    refine ⟨_, e3 _ _ p3, ?_, p1, Evl.Ex.mut (p2.trans e3) p1, ?_⟩
    · have := fm_len (f := f) (n := i)
      exact Evl.sz_lt (by omega)
    · rw [upd_same, range_fm, hf] <;> rfl
  | none =>
    refine ⟨p1, p2.trans e3, ?_⟩
    rw [range_fm, hf]
    show H3 D = some (.lst (_ ++ []))
    rw [List.append_nil]
    exact e3 _ _ p3
end
end L2

/-! ### loops -/
namespace L2
open PySem PySem.Spec PyProof.Rows
/-- a loop over what is walked already -/
def ForI (J : It) (g : TG) (tb : TS) (D : Ends) (σ : St) (H : Hp) : Prop := tFor (fun _ H1 R => R J H1) g tb D σ H
section
variable {K : PySem.W.Frag} {σ : St} {H : Hp} {D : Ends} {g : TG} {tb : TS} {ta : TA} {tl : TE}
theorem c_forR1 (h : ta σ H fun vs H1 => ∃ j : Int, vs = [.int j] ∧ -(2 ^ 62) ≤ j ∧ j < 2 ^ 62 ∧ ForI (Itr 0 j.toNat) g tb D σ H1) : tFor (iRng1 ta) g tb D σ H := h
theorem c_forR2 (h : ta σ H fun vs H1 => ∃ i j : Int, vs = [.int i, .int j] ∧ (-(2 ^ 62) ≤ i ∧ i < 2 ^ 62 ∧ -(2 ^ 62) ≤ j ∧ j < 2 ^ 62) ∧ ForI (Itr i (j - i).toNat) g tb D σ H1) : tFor (iRng2 ta) g tb D σ H := h
theorem c_forL (h : tl σ H fun x H1 => ∃ a, x = .ref a ∧ (∃ xs, SqL K H1 a xs) ∧ ForI (Itl K a) g tb D σ H1) : tFor (iList K tl) g tb D σ H := h
theorem c_forT (h : tl σ H fun x H1 => ∃ a, x = .ref a ∧ (∃ xs, SqT K H1 a xs) ∧ ForI (Itt K a) g tb D σ H1) : tFor (iTup K tl) g tb D σ H := h
/-- range(n), n whole and not below 0 or below it -/
theorem forR {n : Nat} {j : Nat} (Pv : Nat → St → Hp → Prop) (h0 : Pv 0 σ H) (hs : ∀ (i : Nat) σ' H', i < n → Pv i σ' H' → tb { D with nx := Pv (i + 1), ct := Pv (i + 1), bk := D.nx } (σ'.set j (some (.int (i : Int)))) H') (hd : ∀ σ' H', Pv n σ' H' → D.nx σ' H') : ForI (Itr 0 n) (gName j) tb D σ H :=
  for_range (lo := 0) (n := n) Pv h0 (fun i σ' H' hi p => by
    have e0 : (0 : Int) + (i : Int) = (i : Int) := Int.zero_add _
    show tb { D with nx := Pv (i + 1), ct := Pv (i + 1), bk := D.nx } (σ'.set j (some (.int ((0 : Int) + (i : Int))))) H'
    rw [e0]
    exact hs i σ' H' hi p) hd
theorem forL {a : Addr} {xs : List V} {j : Nat} (Pv : Nat → St → Hp → Prop) (h0 : Pv 0 σ H) (hl : ∀ i σ' H', i ≤ xs.length → Pv i σ' H' → SqL K H' a xs)
    (hs : ∀ i x σ' H', xs[i]? = some x → Pv i σ' H' → tb { D with nx := Pv (i + 1), ct := Pv (i + 1), bk := D.nx } (σ'.set j (some x)) H') (hd : ∀ σ' H', Pv xs.length σ' H' → D.nx σ' H') : ForI (Itl K a) (gName j) tb D σ H := for_list Pv h0 hl hs hd
theorem forT {a : Addr} {xs : List V} {j : Nat} (Pv : Nat → St → Hp → Prop) (h0 : Pv 0 σ H) (hl : ∀ i σ' H', i ≤ xs.length → Pv i σ' H' → SqT K H' a xs)
    (hs : ∀ i x σ' H', xs[i]? = some x → Pv i σ' H' → tb { D with nx := Pv (i + 1), ct := Pv (i + 1), bk := D.nx } (σ'.set j (some x)) H') (hd : ∀ σ' H', Pv xs.length σ' H' → D.nx σ' H') : ForI (Itt K a) (gName j) tb D σ H := for_tup Pv h0 hl hs hd
end
/-- a comprehension over what is walked already -/
def LcI (J : It) (g : TG) (tt : TT) (te : TE) (vs : List Nat) (σ : St) (H : Hp) (Q : VK) : Prop := tLc (fun _ H1 R => R J H1) g tt te vs σ H Q
section
variable {K : PySem.W.Frag} {σ : St} {H : Hp} {Q : VK} {g : TG} {tt : TT} {te : TE} {vs : List Nat} {ta : TA} {tl : TE}
theorem c_lcR1 (h : ta σ H fun ws H1 => ∃ j : Int, ws = [.int j] ∧ -(2 ^ 62) ≤ j ∧ j < 2 ^ 62 ∧ LcI (Itr 0 j.toNat) g tt te vs σ H1 Q) : tLc (iRng1 ta) g tt te vs σ H Q := h
theorem c_lcLi (h : tl σ H fun x H1 => ∃ a, x = .ref a ∧ (∃ xs, SqL K H1 a xs) ∧ LcI (Itl K a) g tt te vs σ H1 Q) : tLc (iList K tl) g tt te vs σ H Q := h
theorem c_lcTi (h : tl σ H fun x H1 => ∃ a, x = .ref a ∧ (∃ xs, SqT K H1 a xs) ∧ LcI (Itt K a) g tt te vs σ H1 Q) : tLc (iTup K tl) g tt te vs σ H Q := h
theorem lcL {a : Addr} {xs : List V} (f : Nat → Option V) (hs : SqL K H a xs) (hl : xs.length ≤ 50000) (ht : ∀ (i : Nat) (x : V), xs[i]? = some x → LcTurn g tt te vs σ H x (f i)) (k : RetL ((List.range xs.length).filterMap f) H Q) : LcI (Itl K a) g tt te vs σ H Q := by
  refine fun D hD => ?_
  refine lc_list (xs := xs) (fun i H' => H D = none ∧ Evl.Ex H H' ∧ H' D = some (.lst ((List.range i).filterMap f))) ⟨hD, Evl.Ex.new hD, upd_same⟩ (fun i H' _ p => Evl.ex_l p.2.1 hs) (fun i x H' hi p => ?_) (fun H' p => k D H' p.1 p.2.1 p.2.2)
  exact lc_of hl (List.getElem?_eq_some_iff.mp hi).1 p.1 p.2.1 p.2.2 (ht i x hi)
theorem lcT {a : Addr} {xs : List V} (f : Nat → Option V) (hs : SqT K H a xs) (hl : xs.length ≤ 50000) (ht : ∀ (i : Nat) (x : V), xs[i]? = some x → LcTurn g tt te vs σ H x (f i)) (k : RetL ((List.range xs.length).filterMap f) H Q) : LcI (Itt K a) g tt te vs σ H Q := by
  refine fun D hD => ?_
  refine lc_tup (xs := xs) (fun i H' => H D = none ∧ Evl.Ex H H' ∧ H' D = some (.lst ((List.range i).filterMap f))) ⟨hD, Evl.Ex.new hD, upd_same⟩ (fun i H' _ p => Evl.ex_t p.2.1 hs) (fun i x H' hi p => ?_) (fun H' p => k D H' p.1 p.2.1 p.2.2)
  exact lc_of hl (List.getElem?_eq_some_iff.mp hi).1 p.1 p.2.1 p.2.2 (ht i x hi)
theorem lcR {n : Nat} (f : Nat → Option V) (hl : n ≤ 50000) (ht : ∀ (i : Nat), i < n → LcTurn g tt te vs σ H (.int (i : Int)) (f i)) (k : RetL ((List.range n).filterMap f) H Q) : LcI (Itr 0 n) g tt te vs σ H Q := by
  refine fun D hD => ?_
  refine lc_range (lo := 0) (n := n) (fun i H' => H D = none ∧ Evl.Ex H H' ∧ H' D = some (.lst ((List.range i).filterMap f))) ⟨hD, Evl.Ex.new hD, upd_same⟩ (fun i H' hi p => ?_) (fun H' p => k D H' p.1 p.2.1 p.2.2)
  have e0 : (0 : Int) + (i : Int) = (i : Int) := Int.zero_add _
  rw [e0]
  exact lc_of hl hi p.1 p.2.1 p.2.2 (ht i hi)
end
end L2

/-! ### texts -/
namespace L2
open PySem PySem.Spec PyProof.Rows
open TL (tl)
/-- x is b, x is not b, b True or False, x a flat thing -/
def rIsV : R2 := fun x y H Q => ∃ b : Bool, y = .bl b ∧ Q (.bl (decide (x = .bl b))) H
def rNotV : R2 := fun x y H Q => ∃ b : Bool, y = .bl b ∧ Q (.bl (!decide (x = .bl b))) H
section
variable {X : Cx}
theorem isV_plain {x : V} {v : Value} {b : Bool} (rx : RelV x v) : plainIs v (.bool b) = true ∧ (v == Value.bool b) = decide (x = .bl b) := by
  cases x with
  | non => cases (show v = Value.none from rx); exact ⟨rfl, rfl⟩
  | bl c =>
    cases (show v = Value.bool c from rx)
    refine ⟨rfl, ?_⟩
    cases c <;> cases b <;> rfl
  | int i => obtain ⟨t, e⟩ := (show ∃ t, v = Value.int i t from rx); cases e; exact ⟨rfl, rfl⟩
  | str z => obtain ⟨t, e⟩ := (show ∃ t, v = Value.str z t from rx); cases e; exact ⟨rfl, rfl⟩
  | byt z => obtain ⟨t, e⟩ := (show ∃ t, v = Value.bytes z t from rx); cases e; exact ⟨rfl, rfl⟩
  | flt z => obtain ⟨t, e⟩ := (show ∃ t, v = Value.float z t from rx); cases e; exact ⟨rfl, rfl⟩
  | ref a => cases (show v = Value.ref a from rx); exact ⟨rfl, rfl⟩
  | ty n => cases (show v = Value.type n from rx); exact ⟨rfl, rfl⟩
theorem op_isB : OpR X (compareOp .Is) rIsV := by
  intro pins s σ H x y v u Q I rx ry h
  obtain ⟨b, rfl, q⟩ := h
  cases (show u = Value.bool b from ry)
  have z := isV_plain (b := b) rx
  refine wpAny_is_plain z.1 ?_
  rw [z.2]
  exact ⟨.bl _, H, I, rfl, q⟩
theorem op_notB : OpR X (compareOp .IsNot) rNotV := by
  intro pins s σ H x y v u Q I rx ry h
  obtain ⟨b, rfl, q⟩ := h
  cases (show u = Value.bool b from ry)
  have z := isV_plain (b := b) rx
  refine wpAny_isNot_plain z.1 ?_
  rw [z.2]
  exact ⟨.bl _, H, I, rfl, q⟩
end
/-- s * n, n two at least -/
def repS (x : Str) (n : Nat) : Str := ⟨(List.replicate n x.cps).foldl (· ++ ·) #[]⟩
theorem rep_size (a : Array Nat) : ∀ (n : Nat) (acc : Array Nat), ((List.replicate n a).foldl (· ++ ·) acc).size = acc.size + n * a.size
  | 0, acc => by simp
  | n + 1, acc => by
    rw [List.replicate_succ, List.foldl_cons, rep_size a n, Array.size_append, Nat.succ_mul]
    omega
theorem repS_len (x : Str) (n : Nat) : (repS x n).length = n * x.length := by
  show ((List.replicate n x.cps).foldl (· ++ ·) #[]).size = _
  rw [rep_size]
  simp [Str.length]
section
variable {X : Cx}
theorem op_rep_str : OpR X (binaryOp .Mult) (fun x y H Q => ∃ (z : Str) (n : Int), x = .str z ∧ y = .int n ∧ 2 ≤ n ∧ n ≤ 100000 ∧ 0 < z.length ∧ z.length ≤ 100 ∧ Q (.str (repS z n.toNat)) H) := by
  intro pins s σ H x y v u Q I rx ry h
  obtain ⟨z, n, rfl, rfl, h2, h1, z0, z1, q⟩ := h
  obtain ⟨t, rfl⟩ := rx
  obtain ⟨t', rfl⟩ := ry
  have hs : sizeLine = 16777216 := sizeLine_eq
  have hp : z.length * n.toNat ≤ 100 * 100000 := Nat.mul_le_mul z1 (by omega)
  refine PySem.P.mul_str ?_ (fun _ _ => ?_) (fun _ _ => ?_) ?_
  · rw [decide_eq_false (by omega), decide_eq_false (by omega)]; rfl
  · have : (100 : Int) ≤ (2 ^ 63 - 1) / n := by
      rw [Int.le_ediv_iff_mul_le (by omega)]
      omega
    omega
  · unfold Builtin.Str.tooLong
    rw [decide_eq_false (by omega)]
  · rw [if_neg (by omega), if_neg (by
      rw [Bool.or_eq_true, beq_iff_eq, beq_iff_eq]
      omega)]
    refine ⟨?_, .str (repS z n.toNat), H, I.tok _, ⟨_, rfl⟩, q⟩
    have e := repS_len z n.toNat
    rw [Nat.mul_comm] at e
    show (repS z n.toNat).length ≤ sizeLine
    omega
end
/-! loops over a text -/
section
variable {K : PySem.W.Frag} {σ : St} {H : Hp} {D : Ends} {Q : VK} {g : TG} {tb : TS} {tl' : TE} {tt : TT} {te : TE} {vs : List Nat}
theorem c_forS (h : tl' σ H fun v H1 => ∃ x, v = .str x ∧ ForI (Its x) g tb D σ H1) : tFor (iStr tl') g tb D σ H := h
theorem c_lcSi (h : tl' σ H fun v H1 => ∃ x, v = .str x ∧ LcI (Its x) g tt te vs σ H1 Q) : tLc (iStr tl') g tt te vs σ H Q := h
theorem tl_get {x : Str} {i c : Nat} : x.cps[i]? = some c ↔ (tl x)[i]? = some c := by
  show _ ↔ x.cps.toList[i]? = some c
  rw [Array.getElem?_toList]
theorem tl_len (x : Str) : (tl x).length = x.length := by simp [tl, Str.length]
theorem forS {x : Str} {j : Nat} (Pv : Nat → St → Hp → Prop) (h0 : Pv 0 σ H)
    (hs : ∀ i c σ' H', (tl x)[i]? = some c → Pv i σ' H' → tb { D with nx := Pv (i + 1), ct := Pv (i + 1), bk := D.nx } (σ'.set j (some (.str ⟨#[c]⟩))) H') (hd : ∀ σ' H', Pv (tl x).length σ' H' → D.nx σ' H') : ForI (Its x) (gName j) tb D σ H :=
  for_it walk_str Pv h0 (fun _ _ _ _ _ => trivial) (fun i v σ' H' H'' hi p y => by
    obtain ⟨rfl, c, hc, rfl⟩ := y
    exact hs i c σ' H'' (tl_get.mp hc) p) (by
    have e : x.cps.size = (tl x).length := by simp [tl]
    rw [e]
    exact hd)
theorem fm_range {α : Type} {F : α → Option V} : ∀ {l : List α}, (List.range l.length).filterMap (fun i => (l[i]?).bind F) = l.filterMap F
  | [] => rfl
  | a :: l => by
    rw [List.length_cons, List.range_succ_eq_map, List.filterMap_cons, List.filterMap_map, List.filterMap_cons]
    have ih := fm_range (F := F) (l := l)
    rw [List.getElem?_cons_zero, Option.bind_some]
    have e : ((fun i => ((a :: l)[i]?).bind F) ∘ Nat.succ) = fun i => (l[i]?).bind F := by
      funext i
      simp
    rw [e, ih] <;> rfl
theorem lcS {x : Str} (F : Nat → Option V) (hl : x.length ≤ 50000) (ht : ∀ c, c ∈ tl x → LcTurn g tt te vs σ H (.str ⟨#[c]⟩) (F c)) (k : RetL ((tl x).filterMap F) H Q) : LcI (Its x) g tt te vs σ H Q := by
  refine fun D hD => ?_
  have e : x.cps.size = (tl x).length := by simp [tl]
  refine lc_it walk_str (fun i H' => H D = none ∧ Evl.Ex H H' ∧ H' D = some (.lst ((List.range i).filterMap fun i => ((tl x)[i]?).bind F))) ⟨hD, Evl.Ex.new hD, upd_same⟩ (fun _ _ _ _ => trivial) (fun i v H' H'' hi p y => ?_) (fun H' p => k D H' p.1 p.2.1 ?_)
  · obtain ⟨rfl, c, hc, rfl⟩ := y
    have hc2 := tl_get.mp hc
    refine lc_of (n := x.cps.size) (f := fun i => ((tl x)[i]?).bind F) hl hi p.1 p.2.1 p.2.2 ?_
    rw [hc2]
    exact ht c (List.mem_of_getElem? hc2)
  · have q := p.2.2
    rw [e, fm_range] at q
    exact q
/-- the same of a list, by what its things are -/
theorem lcLv {a : Addr} {xs : List V} (F : V → Option V) (hs : SqL K H a xs) (hl : xs.length ≤ 50000) (ht : ∀ x, x ∈ xs → LcTurn g tt te vs σ H x (F x)) (k : RetL (xs.filterMap F) H Q) : LcI (Itl K a) g tt te vs σ H Q := by
  refine lcL (fun i => (xs[i]?).bind F) hs hl (fun i x hi => ?_) ?_
  · rw [hi]
    exact ht x (List.mem_of_getElem? hi)
  · rw [fm_range]
    exact k
end
theorem fm_some {α : Type} {F : α → V} : ∀ (l : List α), l.filterMap (fun c => some (F c)) = l.map F
  | [] => rfl
  | a :: l => by rw [List.filterMap_cons, List.map_cons, fm_some l]
theorem tl_ext {x y : Str} : x = y ↔ tl x = tl y := ⟨fun h => by rw [h], TL.ext_tl⟩
theorem starts_is (x y : Str) : Txt.startswith x y = ((tl x).take (tl y).length == tl y) := by
  unfold Txt.startswith
  rw [StrLaws.subAt_eq]
  show (decide (0 + y.length ≤ x.length) && (((tl x).drop 0).take y.length == tl y)) = _
  rw [List.drop_zero, tl_len]
  cases h : (List.take y.length (tl x) == tl y) with
  | false => rw [Bool.and_false]
  | true =>
    rw [Bool.and_true, decide_eq_true_eq]
    have e := congrArg List.length (beq_iff_eq.mp h)
    rw [List.length_take, tl_len, tl_len] at e
    omega
theorem tl_cut (z : Str) (lo hi : Option Int) : tl (cutS z lo hi) = ((tl z).drop (HT.sIx z.length 0 lo)).take (HT.sIx z.length z.length hi - HT.sIx z.length 0 lo) := rfl
theorem tl_one (c : Nat) : tl ⟨#[c]⟩ = [c] := rfl
end L2
namespace L2
open PySem PySem.Spec PyProof.Rows
open TL (tl)
theorem c_ixS {H : Hp} {Q : VK} {z : Str} {i : Int} {c : Nat} (hz : z.length ≤ 100000) (ha : atI (tl z) i = some c) (q : Q (.str ⟨#[c]⟩) H) : rIxS (.str z) (.int i) H Q := ⟨z, i, c, rfl, rfl, Evl.sz_of hz, ha, q⟩
theorem c_slS {H : Hp} {Q : VK} {z : Str} {lo hi : Option Int} (hz : z.length ≤ 100000) (q : Q (.str (cutS z lo hi)) H) : rSlS (.str z) lo hi H Q := ⟨z, rfl, Evl.sz_of hz, q⟩
theorem sIx_le' (n d : Nat) (hd : d ≤ n) (o : Option Int) : HT.sIx n d o ≤ n := HT.sIx_le n d hd o
theorem add_len (a b : Str) : (a ++ b).length = a.length + b.length := by
  rw [← tl_len, TL.tl_append, List.length_append, tl_len, tl_len]
end L2
namespace L2
open PySem PySem.Spec PyProof.Rows
open TL (tl)
/-- a text whose signs lie within the line -/
def OkT (t : Str) : Prop := ∀ c, c ∈ tl t → c < 1114112
theorem okT_V {t : Str} (h : OkT t) : okV (.str t) = true := by
  show PyData.strOk t = true
  unfold PyData.strOk
  rw [Array.all_eq_true']
  intro c hc
  exact decide_eq_true (h c (Array.mem_toList_iff.mpr hc))
theorem okT_one {c : Nat} (h : c < 1114112) : okV (.str ⟨#[c]⟩) = true := okT_V fun d hd => by
  have : d = c := by simpa [tl] using hd
  omega
theorem OkT.app {a b : Str} (ha : OkT a) (hb : OkT b) : OkT (a ++ b) := fun c hc => by
  rw [TL.tl_append] at hc
  rcases List.mem_append.mp hc with h | h
  · exact ha c h
  · exact hb c h
theorem OkT.cut {a : Str} (ha : OkT a) (lo hi : Option Int) : OkT (cutS a lo hi) := fun c hc => ha c (List.mem_of_mem_drop (List.mem_of_mem_take hc))
theorem OkT.lit {t : Str} (h : (tl t).all (fun c => decide (c < 1114112)) = true) : OkT t := fun c hc => of_decide_eq_true (List.all_eq_true.mp h c hc)
end L2

/-! ### draws within a comprehension; joined texts -/
namespace L2
open PySem PySem.Spec PyProof.Rows
open TL (tl)
section
variable {K : PySem.W.Frag} {σ : St} {H : Hp} {Q : VK} {g : TG} {tt : TT} {te : TE} {vs : List Nat}
theorem BoxAt.some {H : Hp} {b : Addr} (h : BoxAt H b) : ∃ o, H b = Option.some o := let ⟨_, _, _, _, q⟩ := h; ⟨_, q⟩
theorem lcRB {n : Nat} {b : Addr} (good : V → Prop) (hn : n ≤ 1000) (hB : BoxAt H b)
    (ht : ∀ (i : Nat), i < n → ∀ H2, BoxAt H2 b → ExB b H H2 → ∀ (R : V → Hp → Prop) (N : Hp → Prop), (∀ y H3, good y → BoxAt H3 b → ExB b H2 H3 → R y H3) →
      g (.int (i : Int)) (wipe σ vs) H2 fun σ2 H3 => wipe σ2 vs = wipe σ vs ∧ tt σ2 H3 fun c H4 => if c = true then te σ2 H4 fun y H5 => R y H5 else N H4)
    (k : ∀ ys p H2, ys.length = n → (∀ y ∈ ys, good y) → H p = none → ExB b H H2 → BoxAt H2 b → H2 p = some (.lst ys) → Q (.ref p) H2) : LcI (Itr 0 n) g tt te vs σ H Q := by
  refine fun D hD => ?_
  obtain ⟨ob, hob⟩ := hB.some
  have nDb : D ≠ b := (ne_of_none hob hD).symm
  have bx : ∀ {G : Hp} {o : HO}, BoxAt G b → BoxAt (upd G D o) b := fun ⟨x, y, z, p, q⟩ => ⟨x, y, z, p, by rw [upd_ne nDb.symm]; exact q⟩
  have ex : ∀ {G : Hp} {o : HO}, ExB b H G → ExB b H (upd G D o) := fun e a u na ha => by rw [upd_ne (ne_of_none ha hD)]; exact e a u na ha
  refine lc_range (lo := 0) (n := n) (fun i H' => i ≤ n ∧ ExB b H H' ∧ BoxAt H' b ∧ ∃ ys, ys.length = i ∧ (∀ y ∈ ys, good y) ∧ H' D = some (.lst ys)) ⟨Nat.zero_le _, ex (ExB.refl _ _), bx hB, [], rfl, (fun _ h => by cases h), upd_same⟩ (fun i H' hi p => ?_) (fun H' p => ?_)
  · obtain ⟨_, e1, b1, ys, hl, hg, hy⟩ := p
    have e0 : (0 : Int) + (i : Int) = (i : Int) := Int.zero_add _
    rw [e0]
    refine ht i hi H' b1 e1 (fun y H4 => ∃ acc, H4 D = some (.lst acc) ∧ acc.length < sizeLine ∧ (i + 1 ≤ n ∧ ExB b H (upd H4 D (.lst (acc ++ [y]))) ∧ BoxAt (upd H4 D (.lst (acc ++ [y]))) b ∧ ∃ zs, zs.length = i + 1 ∧ (∀ y ∈ zs, good y) ∧ upd H4 D (.lst (acc ++ [y])) D = some (.lst zs))) _ (fun y H3 gy b3 e3 => ?_)
    refine ⟨ys, e3 D _ nDb hy, Evl.sz_lt (by omega), hi, ex (e1.trans e3), bx b3, ys ++ [y], by rw [List.length_append, hl]; rfl, fun z hz => ?_, upd_same⟩
    rcases List.mem_append.mp hz with h | h
    · exact hg z h
    · have : z = y := by simpa using h
      rw [this]
      exact gy
  · obtain ⟨_, e1, b1, ys, hl, hg, hy⟩ := p
    exact k ys D H' hl hg hD e1 b1 hy
end
theorem strs_of {P : Str → Prop} : ∀ {l : List V}, (∀ y ∈ l, ∃ s, y = .str s ∧ P s) → ∃ ss : List Str, l = ss.map V.str ∧ ∀ s ∈ ss, P s
  | [], _ => ⟨[], rfl, fun _ h => by cases h⟩
  | y :: l, h => by
    obtain ⟨s, rfl, hs⟩ := h y List.mem_cons_self
    obtain ⟨ss, rfl, hss⟩ := strs_of fun z hz => h z (List.mem_cons_of_mem _ hz)
    exact ⟨s :: ss, rfl, fun z hz => (List.mem_cons.mp hz).elim (fun e => e ▸ hs) (hss z)⟩
theorem joinL_in {S : List Nat} : ∀ {ps : List (List Nat)} {c : Nat}, c ∈ TL.joinL S ps → c ∈ S ∨ ∃ p ∈ ps, c ∈ p
  | [], c, h => by cases h
  | [p], c, h => .inr ⟨p, List.mem_cons_self, h⟩
  | p :: q :: ps, c, h => by
    have h' : c ∈ p ++ S ++ TL.joinL S (q :: ps) := by first | exact h | simpa [TL.joinL] using h
    rcases List.mem_append.mp h' with h | h
    · rcases List.mem_append.mp h with h | h
      · exact .inr ⟨p, List.mem_cons_self, h⟩
      · exact .inl h
    · rcases joinL_in h with h | ⟨r, hr, hc⟩
      · exact .inl h
      · exact .inr ⟨r, List.mem_cons_of_mem _ hr, hc⟩
theorem joinL_len {S : List Nat} {m : Nat} : ∀ {ps : List (List Nat)}, (∀ p ∈ ps, p.length ≤ m) → (TL.joinL S ps).length ≤ ps.length * (m + S.length)
  | [], _ => by simp [TL.joinL]
  | [p], h => by
    have := h p List.mem_cons_self
    show p.length ≤ _
    simp
    omega
  | p :: q :: ps, h => by
    have h1 := h p List.mem_cons_self
    have ih := joinL_len (S := S) (ps := q :: ps) fun r hr => h r (List.mem_cons_of_mem _ hr)
    have e : TL.joinL S (p :: q :: ps) = p ++ S ++ TL.joinL S (q :: ps) := by first | rfl | simp [TL.joinL]
    rw [e, List.length_append, List.length_append, List.length_cons, Nat.succ_mul]
    omega
theorem join_ok {sep : Str} {ss : List Str} {m : Nat} (ho : OkT sep) (hs : ∀ s ∈ ss, OkT s ∧ s.length ≤ m) : OkT (Txt.join sep ss) ∧ (Txt.join sep ss).length ≤ ss.length * (m + sep.length) := by
  rw [TL.join_eq]
  constructor
  · intro c hc
    rw [TL.tl_join] at hc
    rcases joinL_in hc with h | ⟨p, hp, h⟩
    · exact ho c h
    · obtain ⟨s, hs', rfl⟩ := List.mem_map.mp hp
      exact (hs s hs').1 c h
  · rw [← tl_len, TL.tl_join, ← tl_len sep]
    have := joinL_len (S := tl sep) (m := m) (ps := ss.map tl) fun p hp => by
      obtain ⟨s, hs', rfl⟩ := List.mem_map.mp hp
      rw [tl_len]
      exact (hs s hs').2
    rw [List.length_map] at this
    exact this
theorem sum_len {ss : List Str} {m : Nat} (h : ∀ s ∈ ss, s.length ≤ m) : (ss.map (·.length)).sum ≤ ss.length * m := by
  induction ss with
  | nil => simp
  | cons a l ih =>
    rw [List.map_cons, List.sum_cons, List.length_cons, Nat.succ_mul]
    have := h a List.mem_cons_self
    have := ih fun s hs => h s (List.mem_cons_of_mem _ hs)
    omega
end L2
namespace L2
open PySem PySem.Spec PyProof.Rows
theorem forLg {K : PySem.W.Frag} {σ : St} {H : Hp} {D : Ends} {g : TG} {tb : TS} {a : Addr} {xs : List V} (Pv : Nat → St → Hp → Prop) (h0 : Pv 0 σ H) (hl : ∀ i σ' H', i ≤ xs.length → Pv i σ' H' → SqL K H' a xs)
    (hs : ∀ i x σ' H', xs[i]? = some x → Pv i σ' H' → g x σ' H' fun σ2 H2 => tb { D with nx := Pv (i + 1), ct := Pv (i + 1), bk := D.nx } σ2 H2) (hd : ∀ σ' H', Pv xs.length σ' H' → D.nx σ' H') : ForI (Itl K a) g tb D σ H := for_list Pv h0 hl hs hd
theorem hu65 {A : Around} {k : Nat} (hr : Room k A) : A.units + 65 < cLine := by have := hr.un; omega
end L2

/-! ### own errors: made, held as values, read, asked for their class -/
namespace L2
open PySem PySem.Spec PyProof.Rows
def cBody (st : Stmt) : List Stmt := match st with
  | .ClassDef (body := l) .. => l
  | _ => []
/-- the class at C is an own error class over ValueError -/
def xcB (K : PySem.W.Frag) (C : Addr) : Bool := match K.lookup C with
  | some ⟨.type "type", _, .cls cd, sl⟩ => (match cd.mro, sl.toList with
    | .ref D :: bm, [_, _, _, _, some (.builtin n), _] => (D == C && n == "ValueError.__new__") && ((!cd.hasDel && cd.hasDict) && PySem.HandSPX.refsVE bm)
    | _, _ => false)
  | _ => false
def oxB (K : PySem.W.Frag) (C : Addr) : Bool :=
  (xcB K C && PySem.W.keepIn K (.ref C)) && (decide (PySem.W.findIn K (.ref C) "__setattr__" = some (some (.builtin "object.__setattr__"))) && decide (PySem.W.typeIn K (.ref C) = some (.type "type")))
def icB (K : PySem.W.Frag) (C : Addr) : Bool :=
  ((PySem.W.clsIn K C).isSome && xfB K C) && ((decide (PySem.W.findIn K (.ref C) "__class__" = some (some (.builtin "object.__class__"))) && decide (PySem.W.specialIn K (.builtin "object.__class__") "__get__" = some (some (.builtin "getset_descriptor.__get__")))) &&
    (decide (PySem.W.takesIn K (.builtin "object.__class__") = some true) && decide (PySem.W.mroIn K C (.type "object") = some true)))
def exB (K : PySem.W.Frag) (C : Addr) (fs : List Str) : Bool := (oxB K C && icB K C) && fs.all fun f => decide (PySem.W.findIn K (.ref C) f = some none)
structure IcC (K : PySem.W.Frag) (C : Addr) : Prop where
  cl : (PySem.W.clsIn K C).isSome = true
  xf : XfC K C
  ha : PySem.W.findIn K (.ref C) "__class__" = some (some (.builtin "object.__class__"))
  hn : PySem.W.specialIn K (.builtin "object.__class__") "__get__" = some (some (.builtin "getset_descriptor.__get__"))
  ht : PySem.W.takesIn K (.builtin "object.__class__") = some true
  hm : PySem.W.mroIn K C (.type "object") = some true
theorem icB_ok {K : PySem.W.Frag} {C : Addr} (h : icB K C = true) : IcC K C := by
  unfold icB at h
  simp only [Bool.and_eq_true, decide_eq_true_eq] at h
  obtain ⟨⟨h1, h2⟩, ⟨h3, h4⟩, h5, h6⟩ := h
  exact ⟨h1, xfB_ok h2, h3, h4, h5, h6⟩
structure ExF (K : PySem.W.Frag) (C : Addr) (fs : List Str) : Prop where
  ox : OexC K C
  ic : IcC K C
  no : ∀ f ∈ fs, PySem.W.findIn K (.ref C) f = some none
theorem exB_ok {K : PySem.W.Frag} {C : Addr} {fs : List Str} (h : exB K C fs = true) : ExF K C fs := by
  unfold exB at h
  rw [Bool.and_eq_true, Bool.and_eq_true] at h
  obtain ⟨⟨h1, h2⟩, h3⟩ := h
  have I := icB_ok h2
  refine ⟨?_, I, fun f hf => of_decide_eq_true (List.all_eq_true.mp h3 f hf)⟩
  unfold oxB at h1
  simp only [Bool.and_eq_true, decide_eq_true_eq] at h1
  obtain ⟨⟨q, hk⟩, hs, ht⟩ := h1
  refine ⟨?_, hs, I.xf.exC, ht, hk⟩
  unfold xcB at q
  split at q
  · rename_i dd cd sl ho
    split at q
    · rename_i D bm m0 m1 m2 m3 n m5 hm hl
      simp only [Bool.and_eq_true, beq_iff_eq, Bool.not_eq_true'] at q
      obtain ⟨⟨rfl, rfl⟩, ⟨hdel, hdct⟩, hr⟩ := q
      obtain ⟨nm, bs, mro, ns, qn, hd, sn, sub, ab, col, del⟩ := cd
      dsimp only at hm hdel hdct
      subst hm hdel hdct
      have e : sl = #[m0, m1, m2, m3, some (.builtin "ValueError.__new__"), m5] := by
        obtain ⟨l⟩ := sl
        simp only at hl
        rw [hl]
      subst e
      exact ⟨nm, qn, ns, bs, bm, sn, sub, ab, col, dd, m0, m1, m2, m3, m5, ho, hr⟩
    · cases q
  · cases q
/-- the class at B over which they stand -/
structure BaseC (K : PySem.W.Frag) (B : Addr) : Prop where
  rd : PySem.W.readsIn K B (.type "type") = true
  ga : PySem.W.specialIn K (.ref B) "__getattribute__" = some (some (.builtin "type.__getattribute__"))
  at_ : PySem.W.findCls K (.ref B) (.type "type") "__init__" = some (.val (.builtin "ValueError.__init__"))
def baseB (K : PySem.W.Frag) (B : Addr) : Bool := PySem.W.readsIn K B (.type "type") && (decide (PySem.W.specialIn K (.ref B) "__getattribute__" = some (some (.builtin "type.__getattribute__"))) && (match PySem.W.findCls K (.ref B) (.type "type") "__init__" with | some (.val (.builtin n)) => n == "ValueError.__init__" | _ => false))
theorem baseB_ok {K : PySem.W.Frag} {B : Addr} (h : baseB K B = true) : BaseC K B := by
  unfold baseB at h
  simp only [Bool.and_eq_true, decide_eq_true_eq] at h
  obtain ⟨h1, h2, h3⟩ := h
  split at h3
  · rename_i n e
    rw [beq_iff_eq] at h3
    subst h3
    exact ⟨h1, h2, e⟩
  · cases h3
section
variable {X : Cx} {a1 : Expr} {ar : List Expr} {ta : TA} {x : Str} {q1 q2 qc : Pos} {B : Addr}
theorem pe_binit {pl : Sem Bool} (hg : Gl X x) (hm : X.mg x = some (.ref B)) (T : BaseC X.K B) (ha : PA X (a1 :: ar) ta)
    (hcal : eval (.Call (.Attribute (.Name x q1) "__init__" q2) (a1 :: ar) [] qc) X.env = (eval (.Name x q1) X.env >>= fun ov => standAt q2.atName >>= fun _ => holding [ov] (getMethod ov "__init__" pl) >>= fun r => callWith qc r.1 r.2 (backTo qc (starEach (a1 :: ar) X.env)) (backToKw qc (keywordEach [] X.env))) := by rfl)
    (hst : starEach (a1 :: ar) X.env = (false, eval a1 X.env) :: starEach ar X.env := by rfl) (hps : (backTo qc (starEach ar X.env)).any (·.1) = false := by rfl) (hdb : (x == ("__debug__" : Str)) = false := by decide) :
    PE X (.Call (.Attribute (.Name x q1) "__init__" q2) (a1 :: ar) [] qc) (tVeI X.K ta) := by
  refine ⟨fun pins s σ H Q I h => ?_⟩
  refine PySem.W.methodCall_KW (ld_glob I hg hm ?_ hdb) hcal
  refine PySem.W.method_cls I.kIn T.ga (PySem.W.cls_value I.kIn T.rd T.at_ (by decide +kernel) ?_)
  show wpAny _ _ (callWith qc (Value.builtin "ValueError.__init__") [] (backTo qc (starEach (a1 :: ar) X.env)) []) _ _ _
  refine PyProof.Rows.callWith_method1 (thn (ha.run qc pins _ σ H _ (I.tok _) h) fun us s1 hh => ?_) hst hps
  obtain ⟨vs, H1, I1, r1, a, C, ws, ev, hl, OC, ea, q⟩ := hh
  subst ev
  cases r1 with
  | @cons _ u0 _ ur ra rr =>
    obtain rfl : u0 = Value.ref a := ra
    exact oinit_ok OC I1 ea (by rw [← Paired.length rr, sizeLine_eq]; omega) fun s' J => ⟨.non, H1, J, rfl, q⟩
/-- C(e, ..) as a value, its own __init__ keeping sp -/
def tMkV (C : Addr) (sp : Sp) (ta : TA) : TE := fun σ H Q => ta σ H fun vs H1 => vs.length ≤ 1000 ∧ ∀ a, H1 a = none → sp (.ref a :: vs) (upd H1 a (exo a C none)) (fun v H2 => v = .non ∧ Q (.ref a) H2) (fun _ _ _ => False)
theorem pe_mkv {CX : CXT} {C fI : Addr} {k : Nat} {fd : FuncData} {ps : List Str} {sp : Sp} (T : OexC X.K C) (iC : PySem.W.findIn X.K (.ref C) "__init__" = some (some (.ref fI))) (tI : PySem.W.typeIn X.K (.ref fI) = some (.type "function"))
    (F1 : FnOk X.prog X.w X.K X.mg X.base CX k fI fd ps sp) (hr : Room (k + 1) X.A) (hb : Binds X.K fd ps []) (hx : Passes CX X (fun _ _ _ => False)) (hg : Gl X x) (hm : X.mg x = some (.ref C)) (ha : PA X (a1 :: ar) ta)
    (hdb : (x == ("__debug__" : Str)) = false := by decide) (hst : starEach (a1 :: ar) X.env = (false, eval a1 X.env) :: starEach ar X.env := by rfl) (hps : (backTo qc (starEach ar X.env)).any (·.1) = false := by rfl) :
    PE X (.Call (.Name x q1) (a1 :: ar) [] qc) (tMkV C sp ta) := by
  refine ⟨fun pins s σ H Q I h => ?_⟩
  obtain ⟨nm, q, N, bs, bm, sn, sub, ab, col, dd, k0, k1, k2, k3, k5, hC, hbm⟩ := T.cls
  refine wpAny_Call_Name_kw (ld_glob I hg hm ?_ hdb)
  refine PySem.W.callWith_K (h₀ := X.base) I.ok.mod.kin T.kC (thn (ha.run qc pins s σ H _ I h) fun us s1 hh => ?_) hst hps
  obtain ⟨vs, H1, I1, r1, hz, qq⟩ := hh
  refine ⟨I1.kIn, ?_⟩
  show wpAny _ _ (call (.ref C) us) _ _ _
  obtain ⟨hp, g, dr, tk, os⟩ := s1
  have le1 : hp.objs.size ≤ hp.objs.size + 1 := Nat.le_succ _
  have hn : H1 (hp.objs.size + 1) = none := I1.hok.fresh le1
  have hq := qq (hp.objs.size + 1) hn
  have kep : ∀ b o, hp.get? b = some o → ((hp.push (PySem.W.kdv_tup us)).push (PySem.HandSPX.excO C hp.objs.size)).get? b = some o := fun b o z => Heap.get?_push_of_some _ (Heap.get?_push_of_some _ z)
  have hget : ((hp.push (PySem.W.kdv_tup us)).push (PySem.HandSPX.excO C hp.objs.size)).get? (hp.objs.size + 1) = some (PySem.HandSPX.excO C hp.objs.size) := by heap_get
  have J2 : Inv X pins σ (upd H1 (hp.objs.size + 1) (exo (hp.objs.size + 1) C none)) ⟨(hp.push (PySem.W.kdv_tup us)).push (PySem.HandSPX.excO C hp.objs.size), g, dr, tk, os⟩ :=
    I1.laid (t' := tk) (a := hp.objs.size + 1) (o := exo (hp.objs.size + 1) C none) (h' := (hp.push (PySem.W.kdv_tup us)).push (PySem.HandSPX.excO C hp.objs.size)) kep le1 (exo_ok hget)
  have rv2 : Vals (V.ref (hp.objs.size + 1) :: vs) (Value.ref (hp.objs.size + 1) :: us) := .cons rfl r1
  have hlen : (Value.ref (hp.objs.size + 1) :: us ++ []).length = ps.length := by
    have z := rv2.length
    rw [F1.len _ _ _ _ hq] at z
    rw [List.append_nil]
    exact z.symm
  have hus : us.length ≤ sizeLine := by
    rw [← Paired.length r1, sizeLine_eq]
    omega
  refine wpAny_call (PySem.HandSPX.call_own F.excBase_ValueError (fun Y => PySem.HandSPX.refsVE_contains Y bm hbm) (I1.kIn _ _ hC) (PySem.W.looks_findIn I1.kIn iC) (fun self => PySem.W.bind_fn I1.kIn self tI) hus ?_)
  have hbb := hb _ (Value.ref (hp.objs.size + 1) :: us) J2.kIn hlen
  rw [List.append_nil] at hbb
  refine codeAny_mono (F1.run _ X.stack _ _ ⟨Value.ref (hp.objs.size + 1) :: us, []⟩ (Value.ref (hp.objs.size + 1) :: us) _ _ (fun _ _ _ => False) (hr.make C us []) (J2.env0.make C us []) hbb rv2 hq) fun r s' hq' => ?_
  cases r with
  | error er => exact hx pins σ _ _ er s' J2 hq'
  | ok fl =>
    cases fl with
    | ret u =>
      obtain ⟨v, H2, os2, bare2, un2, hok2, rv, ev, q2⟩ := hq'
      subst ev
      exact ⟨rv, .ref _, H2, J2.call' (ch := []) os2 un2 hok2 bare2 (fun b z => absurd z (by simp)), rfl, q2⟩
    | next => exact False.elim hq'
    | brk => exact False.elim hq'
    | cont => exact False.elim hq'
/-- an error of the class at D stands at a -/
def ErrAt (H : Hp) (a D : Addr) : Prop := (∃ (d : Addr) (fs : List (Str × V)), H a = some (exo a D (some d)) ∧ H d = some (exd d fs)) ∨ H a = some (ExO (.ref D) a)
theorem err_inst {pins : List (Addr × Obj)} {σ : St} {H : Hp} {s : Shared} {a D : Addr} (I : Inv X pins σ H s) (h : ErrAt H a D) : ∃ ox od, PySem.W.InstAt s.heap a ox D od := by
  rcases h with ⟨d, fs, h1, h2⟩ | h1
  · obtain ⟨t1, ho⟩ := exo_at I.hok h1
    obtain ⟨mA, hns, _⟩ := exd_at I.hok h2
    obtain ⟨od, hod, _⟩ := lookIn_ns hns
    exact ⟨_, some od, ho, rfl, rfl, hod⟩
  · have z : ObjOk X.prog X.w H s.heap a (ExO (.ref D) a) := I.hok a _ h1
    obtain ⟨⟨oe, vs, e, zc, d, _⟩, _⟩ := z
    refine ⟨oe, none, e, zc.1, by unfold PySem.W.notCls; rw [d] <;> rfl, ?_⟩
    rw [zc.2]
    trivial
/-- isinstance(e, c) of such an error -/
def rIsX (K : PySem.W.Frag) : List V → Hp → VK → Prop := fun xs H Q => ∃ (a D : Addr) (c : V) (cv : Value) (b : Bool), xs = [.ref a, c] ∧ ClsV c cv ∧ IcC K D ∧ ErrAt H a D ∧ PySem.W.kitOne K (.ref D) cv = some b ∧ Q (.bl b) H
theorem call_isX : CallR X (.builtin "isinstance") (rIsX X.K) := by
  intro pins s σ H xs us Q I r h
  obtain ⟨a, D, c, cv, b, rfl, hcv, C, he, e, q⟩ := h
  cases r with
  | cons rx rr =>
    cases rr with
    | cons rt rn =>
      cases rn
      cases rx
      have ec := hcv.eq rt
      subst ec
      obtain ⟨ox, od, J⟩ := err_inst I he
      exact PySem.W.kia_one (PySem.W.kitx_exc C.cl C.xf.ga C.xf.gg C.xf.exC C.ha C.hn C.ht C.hm) I.kIn J e (fun z => nomatch z) fun tk => ⟨.bl b, H, I.kept (t' := tk) fun _ _ z => z, rfl, q⟩
/-- e.f of such an error -/
def tXfV (K : PySem.W.Frag) (f : Str) (te : TE) : TE := fun σ H Q => te σ H fun x H1 => ∃ (a C d : Addr) (fs : List (Str × V)) (v : V), x = .ref a ∧ XfC K C ∧ PySem.W.findIn K (.ref C) f = some none ∧ H1 a = some (exo a C (some d)) ∧ H1 d = some (exd d fs) ∧ fs.lookup f = some v ∧ Q v H1
theorem pe_xfv {e : Expr} {te : TE} {f : Str} (he : PE X e te) (hb : attributeBase e f X.env (eval e X.env) = eval e X.env := by rfl) : PE X (.Attribute e f qc) (tXfV X.K f te) := by
  refine ⟨fun pins s σ H Q I h => ?_⟩
  refine attr_of hb (thn (he.run pins s σ H _ I h) fun u s1 hh => ?_)
  obtain ⟨x, H1, I1, rx, a, C, d, fs, v, rfl, T, hno, ea, ed, l, q⟩ := hh
  obtain rfl : u = Value.ref a := rx
  obtain ⟨t1, ho⟩ := exo_at I1.hok ea
  obtain ⟨mA, hns, hr⟩ := exd_at I1.hok ed
  obtain ⟨od, hod, hl⟩ := lookIn_ns hns
  obtain ⟨u, hu, ru⟩ := RelO.some_of (v := v) (o := mA f) (by rw [← l]; exact hr f)
  have J : PySem.W.InstAt s1.heap a _ C (some od) := ⟨ho, rfl, rfl, hod⟩
  exact HandSPX.exc_get I1.kIn J T.ga T.gg T.exC (PySem.W.findObj_own T.hdC hno rfl (by rw [hl, hu])) (handed_of ru) ⟨v, H1, I1.tok _, ru, q⟩
/-- one rule or the other -/
theorem op_or2 {f : Value → Value → Sem Value} {r r' : R2} (h : OpR X f r) (h' : OpR X f r') : OpR X f (fun x y H Q => r x y H Q ∨ r' x y H Q) := by
  intro pins s σ H x y v u Q I rx ry q
  rcases q with q | q
  · exact h pins s σ H x y v u Q I rx ry q
  · exact h' pins s σ H x y v u Q I rx ry q
end
end L2
namespace L2
open PySem PySem.Spec PyProof.Rows
/-- what __init__ of such a class keeps: one field, two fields -/
def sp_err1 (C : Addr) (f : Str) : Sp := fun vs H Q _ => ∃ (a : Addr) (v : V), vs = [.ref a, v] ∧ H a = some (exo a C none) ∧ ∀ d H2, H d = none → d ≠ a → (∀ b, b ≠ a → b ≠ d → H2 b = H b) → H2 a = some (exo a C (some d)) → H2 d = some (exd d [(f, v)]) → Q .non H2
def sp_err2 (C : Addr) (f g : Str) : Sp := fun vs H Q _ => ∃ (a : Addr) (v w : V), vs = [.ref a, v, w] ∧ H a = some (exo a C none) ∧ ∀ d H2, H d = none → d ≠ a → (∀ b, b ≠ a → b ≠ d → H2 b = H b) → H2 a = some (exo a C (some d)) → H2 d = some (exd d [(g, w), (f, v)]) → Q .non H2
section
variable {K : PySem.W.Frag} {C a : Addr} {f g z : Str} {v w : V} {H : Hp} {Q : VK}
theorem err1_run (T : OexC K C) (n1 : PySem.W.findIn K (.ref C) f = some none) (ha : H a = some (exo a C none)) (k : ∀ d H2, H d = none → d ≠ a → (∀ b, b ≠ a → b ≠ d → H2 b = H b) → H2 a = some (exo a C (some d)) → H2 d = some (exd d [(f, v)]) → Q .non H2) :
    tSeq (tDrop (tVeI K (tCons (tVar 0) (tCons (tC (.str z)) tNil)))) (tOst K f (tVar 0) (tVar 1)) { nx := fun _ H' => Q .non H', rt := Q } [some (.ref a), some v] H := by
  refine ⟨_, rfl, a, C, _, rfl, (by show 1 ≤ 1000; omega), T, ha, _, rfl, _, rfl, a, C, rfl, T, n1, .inl ⟨ha, fun d hd hne => ?_⟩⟩
  refine k d _ hd hne (fun b h1 h2 => by rw [upd_ne h1, upd_ne h2]) upd_same ?_
  rw [upd_ne hne, upd_same]
theorem err2_run (T : OexC K C) (n1 : PySem.W.findIn K (.ref C) f = some none) (n2 : PySem.W.findIn K (.ref C) g = some none) (ha : H a = some (exo a C none)) (k : ∀ d H2, H d = none → d ≠ a → (∀ b, b ≠ a → b ≠ d → H2 b = H b) → H2 a = some (exo a C (some d)) → H2 d = some (exd d [(g, w), (f, v)]) → Q .non H2) :
    tSeq (tDrop (tVeI K (tCons (tVar 0) (tCons (tC (.str z)) tNil)))) (tSeq (tOst K f (tVar 0) (tVar 1)) (tOst K g (tVar 0) (tVar 2))) { nx := fun _ H' => Q .non H', rt := Q } [some (.ref a), some v, some w] H := by
  refine ⟨_, rfl, a, C, _, rfl, (by show 1 ≤ 1000; omega), T, ha, _, rfl, _, rfl, a, C, rfl, T, n1, .inl ⟨ha, fun d hd hne => ?_⟩⟩
  have e1 : upd (upd H d (exd d [(f, v)])) a (exo a C (some d)) d = some (exd d [(f, v)]) := by rw [upd_ne hne, upd_same]
  refine ⟨_, rfl, _, rfl, a, C, rfl, T, n2, .inr ⟨d, _, upd_same, e1, (by show 1 ≤ 900; omega), ?_⟩⟩
  refine k d _ hd hne (fun b h1 h2 => by rw [upd_ne h2, upd_ne h1, upd_ne h2]) ?_ upd_same
  rw [upd_ne hne.symm, upd_same]
theorem c_xfv {te : TE} {σ : St} (h : te σ H fun x H1 => ∃ (a C d : Addr) (fs : List (Str × V)) (v : V), x = .ref a ∧ XfC K C ∧ PySem.W.findIn K (.ref C) f = some none ∧ H1 a = some (exo a C (some d)) ∧ H1 d = some (exd d fs) ∧ fs.lookup f = some v ∧ Q v H1) : tXfV K f te σ H Q := h
/-- the same, what is asked told by one word -/
def MkE (C : Addr) (sp : Sp) (vs : List V) (H : Hp) (Q : VK) : Prop := vs.length ≤ 1000 ∧ ∀ a, H a = none → sp (.ref a :: vs) (upd H a (exo a C none)) (fun v H2 => v = .non ∧ Q (.ref a) H2) (fun _ _ _ => False)
theorem c_mkv {sp : Sp} {ta : TA} {σ : St} (h : ta σ H fun vs H1 => MkE C sp vs H1 Q) : tMkV C sp ta σ H Q := h
/-- an error of the class at C with these fields, at a, its dict at d -/
def Er (H : Hp) (a C d : Addr) (fs : List (Str × V)) : Prop := H a = some (exo a C (some d)) ∧ H d = some (exd d fs)
theorem Er.up {H H2 : Hp} {a C d : Addr} {fs : List (Str × V)} (h : Er H a C d fs) (e : Evl.Ex H H2) : Er H2 a C d fs := ⟨e _ _ h.1, e _ _ h.2⟩
theorem Er.at {H : Hp} {a C d : Addr} {fs : List (Str × V)} (h : Er H a C d fs) : ErrAt H a C := .inl ⟨d, fs, h.1, h.2⟩
theorem mkv1 (k : ∀ a d H2, H a = none → H d = none → Evl.Ex H H2 → Er H2 a C d [(f, v)] → Q (.ref a) H2) : MkE C (sp_err1 C f) [v] H Q := by
  refine ⟨by show 1 ≤ 1000; omega, fun a ha => ⟨a, v, rfl, upd_same, fun d H2 hd hne hk h1 h2 => ⟨rfl, ?_⟩⟩⟩
  rw [upd_ne hne] at hd
  refine k a d H2 ha hd (fun b o hb => ?_) ⟨h1, h2⟩
  have nb := ne_of_none hb ha
  rw [hk b nb (ne_of_none hb hd), upd_ne nb]
  exact hb
theorem mkv2 (k : ∀ a d H2, H a = none → H d = none → Evl.Ex H H2 → Er H2 a C d [(g, w), (f, v)] → Q (.ref a) H2) : MkE C (sp_err2 C f g) [v, w] H Q := by
  refine ⟨by show 2 ≤ 1000; omega, fun a ha => ⟨a, v, w, rfl, upd_same, fun d H2 hd hne hk h1 h2 => ⟨rfl, ?_⟩⟩⟩
  rw [upd_ne hne] at hd
  refine k a d H2 ha hd (fun b o hb => ?_) ⟨h1, h2⟩
  have nb := ne_of_none hb ha
  rw [hk b nb (ne_of_none hb hd), upd_ne nb]
  exact hb
end
end L2
namespace L2
open PySem PySem.Spec PyProof.Rows
/-- of the error classes Cs each is of itself alone, of B, of ValueError -/
def kinB (K : PySem.W.Frag) (Cs : List Addr) : Bool := (List.range Cs.length).all fun i => (List.range Cs.length).all fun j => match Cs[i]?, Cs[j]? with
  | some D, some C => decide (PySem.W.kitOne K (.ref D) (.ref C) = some (decide (i = j)))
  | _, _ => true
def famB (K : PySem.W.Frag) (B : Addr) (Cs : List Addr) : Bool := (Cs.all fun D => decide (PySem.W.kitOne K (.ref D) (.ref B) = some true) && (decide (PySem.W.kitOne K (.ref D) (.type "ValueError") = some true) && decide (PySem.W.kitOne K (.ref B) (.ref D) = some false))) && (decide (PySem.W.kitOne K (.ref B) (.type "ValueError") = some true) && kinB K Cs)
structure Fam (K : PySem.W.Frag) (B : Addr) (Cs : List Addr) : Prop where
  b : ∀ D ∈ Cs, PySem.W.kitOne K (.ref D) (.ref B) = some true
  v : ∀ D ∈ Cs, PySem.W.kitOne K (.ref D) (.type "ValueError") = some true
  n : ∀ D ∈ Cs, PySem.W.kitOne K (.ref B) (.ref D) = some false
  bv : PySem.W.kitOne K (.ref B) (.type "ValueError") = some true
  k : ∀ (i j : Nat) (D C : Addr), Cs[i]? = some D → Cs[j]? = some C → PySem.W.kitOne K (.ref D) (.ref C) = some (decide (i = j))
theorem famB_ok {K : PySem.W.Frag} {B : Addr} {Cs : List Addr} (h : famB K B Cs = true) : Fam K B Cs := by
  unfold famB at h
  rw [Bool.and_eq_true, Bool.and_eq_true] at h
  obtain ⟨h1, h2, h3⟩ := h
  have h1' := List.all_eq_true.mp h1
  simp only [Bool.and_eq_true, decide_eq_true_eq] at h1'
  refine ⟨fun D hD => (h1' D hD).1, fun D hD => (h1' D hD).2.1, fun D hD => (h1' D hD).2.2, of_decide_eq_true h2, fun i j D C hi hj => ?_⟩
  unfold kinB at h3
  have q := List.all_eq_true.mp (List.all_eq_true.mp h3 i (List.mem_range.mpr (List.getElem?_eq_some_iff.mp hi).1)) j (List.mem_range.mpr (List.getElem?_eq_some_iff.mp hj).1)
  rw [hi, hj] at q
  exact of_decide_eq_true q
theorem ErrAt.up {H H2 : Hp} {a D : Addr} (h : ErrAt H a D) (e : Evl.Ex H H2) : ErrAt H2 a D := by
  rcases h with ⟨d, fs, h1, h2⟩ | h1
  · exact .inl ⟨d, fs, e _ _ h1, e _ _ h2⟩
  · exact .inr (e _ _ h1)
theorem is_x {K : PySem.W.Frag} {H : Hp} {Q : VK} {a D : Addr} {c : V} {cv : Value} {b : Bool} (hc : ClsV c cv) (ic : IcC K D) (h : ErrAt H a D) (e : PySem.W.kitOne K (.ref D) cv = some b) (q : Q (.bl b) H) : rIsX K [.ref a, c] H Q := ⟨a, D, c, cv, b, rfl, hc, ic, h, e, q⟩
end L2

/-! ### more loops, more comparisons -/
namespace L2
open PySem PySem.Spec PyProof.Rows
section
variable {K : PySem.W.Frag} {σ : St} {H : Hp} {D : Ends} {Q : VK} {g : TG} {tb : TS} {tt : TT} {te : TE} {vs : List Nat} {ta : TA}
theorem c_forE (h : ta σ H fun ws H1 => ∃ a xs, ws = [.ref a] ∧ SqL K H1 a xs ∧ ForI (Ite K a) g tb D σ H1) : tFor (iEnum K ta) g tb D σ H := h
theorem c_lcZi (h : ta σ H fun ws H1 => ∃ a b xs ys, ws = [.ref a, .ref b] ∧ SqL K H1 a xs ∧ SqL K H1 b ys ∧ LcI (Itz K a b) g tt te vs σ H1 Q) : tLc (iZip K ta) g tt te vs σ H Q := h
/-- for i, x in enumerate(l) -/
theorem forE {a : Addr} {xs : List V} (Pv : Nat → St → Hp → Prop) (h0 : Pv 0 σ H) (hl : ∀ i σ' H', i ≤ xs.length → Pv i σ' H' → SqL K H' a xs)
    (hs : ∀ i x T σ' H', xs[i]? = some x → Pv i σ' H' → H' T = none → g (.ref T) σ' (upd H' T (.tup [.int (i : Nat), x])) fun σ2 H2 => tb { D with nx := Pv (i + 1), ct := Pv (i + 1), bk := D.nx } σ2 H2)
    (hd : ∀ σ' H', Pv xs.length σ' H' → D.nx σ' H') : ForI (Ite K a) g tb D σ H :=
  for_it walk_enum Pv h0 (fun i σ' H' hi p => hl i σ' H' hi p) (fun i v σ' H' H'' hi p y => by
    obtain ⟨T, x, z, rfl, hT, rfl, ex, ez⟩ := y
    cases ex
    exact hs i z T σ' H' ez p hT) hd
/-- [.. for x in l], each thing made so that P holds of it, whatever is done to the list or made behind it -/
theorem lcLP {a : Addr} {xs : List V} (P : Addr → Nat → V → Hp → Prop) (hst : ∀ D i y G G2, ExB D G G2 → P D i y G → P D i y G2) (hs : SqL K H a xs) (hn : xs.length ≤ 1000)
    (ht : ∀ (D : Addr) (i : Nat) (x : V), H D = none → xs[i]? = some x → ∀ H2, Evl.Ex H H2 → (∃ o, H2 D = some o) → ∀ (R : V → Hp → Prop) (N : Hp → Prop), (∀ y H3, Evl.Ex H2 H3 → P D i y H3 → R y H3) →
      g x (wipe σ vs) H2 fun σ2 H3 => wipe σ2 vs = wipe σ vs ∧ tt σ2 H3 fun c H4 => if c = true then te σ2 H4 fun y H5 => R y H5 else N H4)
    (k : ∀ ys p H2, ys.length = xs.length → (∀ i y, ys[i]? = some y → P p i y H2) → H p = none → Evl.Ex H H2 → H2 p = some (.lst ys) → Q (.ref p) H2) : LcI (Itl K a) g tt te vs σ H Q := by
  refine fun D hD => ?_
  have ex : ∀ {G : Hp} {o : HO}, Evl.Ex H G → Evl.Ex H (upd G D o) := fun e b u hb => by rw [upd_ne (ne_of_none hb hD)]; exact e b u hb
  refine lc_list (xs := xs) (fun i H' => i ≤ xs.length ∧ Evl.Ex H H' ∧ ∃ ys, ys.length = i ∧ (∀ j y, ys[j]? = some y → P D j y H') ∧ H' D = some (.lst ys))
    ⟨Nat.zero_le _, ex (Evl.Ex.refl _), [], rfl, (fun j y h => by simp at h), upd_same⟩ (fun i H' _ p => Evl.ex_l p.2.1 hs) (fun i x H' hi p => ?_) (fun H' p => ?_)
  · obtain ⟨_, e1, ys, hl, hy, hD'⟩ := p
    have hil := (List.getElem?_eq_some_iff.mp hi).1
    refine ht D i x hD hi H' e1 ⟨_, hD'⟩ (fun y H4 => ∃ acc, H4 D = some (.lst acc) ∧ acc.length < sizeLine ∧ (i + 1 ≤ xs.length ∧ Evl.Ex H (upd H4 D (.lst (acc ++ [y]))) ∧ ∃ zs, zs.length = i + 1 ∧ (∀ j y2, zs[j]? = some y2 → P D j y2 (upd H4 D (.lst (acc ++ [y])))) ∧ upd H4 D (.lst (acc ++ [y])) D = some (.lst zs))) _ (fun y H3 e3 py => ?_)
    have eD : ExB D H3 (upd H3 D (.lst (ys ++ [y]))) := fun b o nb hb => by rw [upd_ne nb]; exact hb
    refine ⟨ys, e3 _ _ hD', Evl.sz_lt (by omega), hil, ex (e1.trans e3), ys ++ [y], by rw [List.length_append, hl]; rfl, fun j y2 hj => ?_, upd_same⟩
    rcases Nat.lt_or_ge j ys.length with h | h
    · rw [List.getElem?_append_left h] at hj
      exact hst _ _ _ _ _ eD (hst _ _ _ _ _ (fun b o _ hb => e3 b o hb) (hy j y2 hj))
    · rw [List.getElem?_append_right h] at hj
      have hj0 : j - ys.length = 0 := by
        have := (List.getElem?_eq_some_iff.mp hj).1
        rw [List.length_singleton] at this
        omega
      rw [hj0] at hj
      have hyy : y = y2 := by simpa using hj
      subst hyy
      have : j = i := by omega
      subst this
      exact hst _ _ _ _ _ eD py
  · obtain ⟨_, e1, ys, hl, hy, hD'⟩ := p
    exact k ys D H' hl hy hD e1 hD'
/-- what stands outside of S stays -/
def ExS (S : Addr → Prop) (H H2 : Hp) : Prop := ∀ a o, ¬ S a → H a = some o → H2 a = some o
theorem ExS.refl {S : Addr → Prop} (H : Hp) : ExS S H H := fun _ _ _ h => h
theorem ExS.trans {S : Addr → Prop} {H H2 H3 : Hp} (h : ExS S H H2) (k : ExS S H2 H3) : ExS S H H3 := fun a o n q => k a o n (h a o n q)
theorem ExS.of {S : Addr → Prop} {H H2 : Hp} (h : Evl.Ex H H2) : ExS S H H2 := fun a o _ q => h a o q
/-- [f(x, y) for x, y in zip(l, m)], where each answer is True, and only what is in S may change -/
theorem lcZ {S : Addr → Prop} {a b : Addr} {xs ys : List V} (J : Nat → Hp → Prop) (hab : xs.length = ys.length) (hn : xs.length ≤ 1000) (ha : ∀ G, ExS S H G → SqL K G a xs) (hb : ∀ G, ExS S H G → SqL K G b ys) (h0 : J 0 H) (hJ : ∀ i G D o, H D = none → J i G → J i (upd G D o)) (hS : ∀ z, S z → H z ≠ none)
    (ht : ∀ (i : Nat) (x y : V), xs[i]? = some x → ys[i]? = some y → ∀ H2 T, ExS S H H2 → J i H2 → H2 T = none → ∀ (R : V → Hp → Prop) (N : Hp → Prop), (∀ H3, ExS S (upd H2 T (.tup [x, y])) H3 → J (i + 1) H3 → R (.bl true) H3) →
      g (.ref T) (wipe σ vs) (upd H2 T (.tup [x, y])) fun σ2 H3 => wipe σ2 vs = wipe σ vs ∧ tt σ2 H3 fun c H4 => if c = true then te σ2 H4 fun y H5 => R y H5 else N H4)
    (k : ∀ p H2, H p = none → ExS S H H2 → J xs.length H2 → H2 p = some (.lst (List.replicate xs.length (.bl true))) → Q (.ref p) H2) : LcI (Itz K a b) g tt te vs σ H Q := by
  refine fun D hD => ?_
  have nSD : ¬ S D := fun z => hS D z hD
  have ex : ∀ {G : Hp} {o : HO}, ExS S H G → ExS S H (upd G D o) := fun e c u nc hc => by rw [upd_ne (ne_of_none hc hD)]; exact e c u nc hc
  refine lc_it (walk_zip (xs := xs) (ys := ys) (n := xs.length) (by omega)) (fun i H' => i ≤ xs.length ∧ ExS S H H' ∧ J i H' ∧ H' D = some (.lst (List.replicate i (.bl true)))) ⟨Nat.zero_le _, ex (ExS.refl _), hJ _ _ _ _ hD h0, upd_same⟩ (fun i H' _ p => ⟨ha _ p.2.1, hb _ p.2.1⟩) (fun i v H' H'' hi p y => ?_) (fun H' p => k D H' hD p.2.1 p.2.2.1 p.2.2.2)
  obtain ⟨T, x, z, rfl, hT, rfl, ex1, ez⟩ := y
  obtain ⟨_, e1, j1, hD'⟩ := p
  have nTD : D ≠ T := ne_of_none hD' hT
  refine ht i x z ex1 ez H' T e1 j1 hT (fun y H4 => ∃ acc, H4 D = some (.lst acc) ∧ acc.length < sizeLine ∧ (i + 1 ≤ xs.length ∧ ExS S H (upd H4 D (.lst (acc ++ [y]))) ∧ J (i + 1) (upd H4 D (.lst (acc ++ [y]))) ∧ upd H4 D (.lst (acc ++ [y])) D = some (.lst (List.replicate (i + 1) (.bl true))))) _ (fun H3 e3 j3 => ?_)
  refine ⟨_, e3 D _ nSD (by rw [upd_ne nTD]; exact hD'), ?_, hi, ex ?_, hJ _ _ _ _ hD j3, ?_⟩
  · rw [List.length_replicate]
    exact Evl.sz_lt (by omega)
  · refine fun c o nc hc => e3 c o nc ?_
    have h1 := e1 c o nc hc
    rw [upd_ne (ne_of_none h1 hT)]
    exact h1
  · rw [upd_same, List.replicate_succ'] <;> rfl
end
/-! == and != of dicts of flat things -/
def eqK (ks ls : List (Key × V)) : Bool := ks.length == ls.length && ks.all fun p => match valV ls p.1 with
  | some u => eqV p.2 u
  | none => false
section
variable {X : Cx} {pins : List (Addr × Obj)} {σ : St} {H : Hp} {s : Shared}
theorem hitsK (I : Inv X pins σ H s) (hu : X.A.units + 66 < cLine) {ls : List (Key × V)} {vb : List (Key × Value)} (rb : KV ls vb) (fl : ∀ k u, valV ls k = some u → okV u = true) {ks : List (Key × V)} {va : List (Key × Value)} (ra : KV ks va) (fk : ∀ p ∈ ks, okV p.2 = true) :
    PySem.W.KeqHits X.A.in1 s vb va (ks.all fun p => match valV ls p.1 with | some u => eqV p.2 u | none => false) := by
  unfold KV at ra
  induction ra with
  | nil => exact .nil
  | @cons p q ps qs h t ih =>
    obtain ⟨key, v⟩ := q
    obtain ⟨h1, h2⟩ := h
    have h1' : p.1 = key := h1
    have ih' := ih fun p' hm => fk p' (List.mem_cons_of_mem _ hm)
    rw [List.all_cons]
    have rr : RelO (valV ls p.1) (PySem.valueAt vb p.1) := rb.val p.1
    rw [h1'] at rr ⊢
    cases e : valV ls key with
    | none =>
      rw [e] at rr
      cases e2 : PySem.valueAt vb key with
      | none => exact .miss e2
      | some y =>
        rw [e2] at rr
        exact rr.elim
    | some u =>
      rw [e] at rr
      obtain ⟨y, hy, ry⟩ := rr.some_of
      have fp := fk p List.mem_cons_self
      have fu := fl key u e
      obtain ⟨as, r1⟩ := Dp.reads I (dOf p.2) p.2 v (dp_flat (okV_flat fp)) h2
      obtain ⟨bs, r2⟩ := Dp.reads I (dOf u) u y (dp_flat (okV_flat fu)) ry
      have z := PySem.W.keq_at (A := X.A) r1 r2 (shaped_flat fp) (shaped_flat fu) (by show X.A.units + 1 + 64 < cLine; omega)
      rw [eqv_flat (okV_flat fp) (okV_flat fu)] at z
      exact .hit hy z ih'
def rEqK : R2 := fun x y H Q => ∃ (a b : Addr) (ks ls : List (Key × V)), x = .ref a ∧ y = .ref b ∧ H a = some (.dK ks) ∧ H b = some (.dK ls) ∧ (∀ p ∈ ks, okV p.2 = true) ∧ (∀ k u, valV ls k = some u → okV u = true) ∧ Q (.bl (eqK ks ls)) H
def rNeK : R2 := fun x y H Q => ∃ (a b : Addr) (ks ls : List (Key × V)), x = .ref a ∧ y = .ref b ∧ H a = some (.dK ks) ∧ H b = some (.dK ls) ∧ (∀ p ∈ ks, okV p.2 = true) ∧ (∀ k u, valV ls k = some u → okV u = true) ∧ Q (.bl (!eqK ks ls)) H
theorem op_eqK (hu : X.A.units + 66 < cLine) : OpR X (compareOp .Eq) rEqK := by
  intro pins s σ H x y v u Q I rx ry h
  obtain ⟨a, b, ks, ls, rfl, rfl, ha, hb, fk, fl, q⟩ := h
  cases (show v = Value.ref a from rx)
  cases (show u = Value.ref b from ry)
  obtain ⟨_, ya, va, ra, da⟩ := (show ObjOk X.prog X.w H s.heap a (.dK ks) from I.hok a _ ha)
  obtain ⟨_, yb, vb, rb, db⟩ := (show ObjOk X.prog X.w H s.heap b (.dK ls) from I.hok b _ hb)
  refine PySem.W.keq_eq (knd := mixKind X.prog X.w) ya yb da db (by omega) (fun _ => hitsK I hu rb fl ra fk) ?_
  rw [← ra.length, ← rb.length]
  exact ⟨.bl _, H, I, rfl, q⟩
theorem op_neK (hu : X.A.units + 66 < cLine) : OpR X (compareOp .NotEq) rNeK := by
  intro pins s σ H x y v u Q I rx ry h
  obtain ⟨a, b, ks, ls, rfl, rfl, ha, hb, fk, fl, q⟩ := h
  cases (show v = Value.ref a from rx)
  cases (show u = Value.ref b from ry)
  obtain ⟨_, ya, va, ra, da⟩ := (show ObjOk X.prog X.w H s.heap a (.dK ks) from I.hok a _ ha)
  obtain ⟨_, yb, vb, rb, db⟩ := (show ObjOk X.prog X.w H s.heap b (.dK ls) from I.hok b _ hb)
  refine PySem.W.keq_ne (knd := mixKind X.prog X.w) ya yb da db (by omega) (fun _ => hitsK I hu rb fl ra fk) ?_
  rw [← ra.length, ← rb.length]
  exact ⟨.bl _, H, I, rfl, q⟩
end
theorem hu66 {A : Around} {k : Nat} (hr : Room k A) : A.units + 66 < cLine := by have := hr.un; omega
end L2

/-! ### defs that may show things by repr: no repr stands above them -/
namespace L2
open PySem PySem.Spec PyProof.Rows
/-- FnOk where nothing is being shown yet -/
structure FnG (P : Program) (w : World) (K : PySem.W.Frag) (mg : Str → Option Value) (base : Heap) (CX : CXT) (k : Nat) (f : Addr) (fd : FuncData) (ps : List Str) (sp : Sp) : Prop where
  len : ∀ vs H Q E, sp vs H Q E → vs.length = ps.length
  run : ∀ (A : Around) (outer : List Env) (s : Shared) (H : Hp) (args : Args) (us : List Value) (vs : List V) (Q : VK) (E : XK), A.guards = some [] → Room k A → Env0 P w K mg base A outer s H → BindsTo s fd args (ps.zip us) → Vals vs us → sp vs H Q E →
    codeAny (model P w) A (.call (.ref f) args) (CR CX outer P w H s Q E) s
section
variable {P : Program} {w : World} {K : PySem.W.Frag} {mg : Str → Option Value} {base : Heap} {CX : CXT} {k : Nat} {f : Addr} {fd : FuncData} {ps : List Str} {sp : Sp}
theorem FnOk.g (F : FnOk P w K mg base CX k f fd ps sp) : FnG P w K mg base CX k f fd ps sp := ⟨F.len, fun A o s H ar us vs Q E _ => F.run A o s H ar us vs Q E⟩
theorem deeper_guards {A : Around} {env : Env} : (A.deeper env).guards = A.guards := by
  first
    | rfl
    | simp [Around.deeper]
end
section
variable {P : Program} {w : World} {K : PySem.W.Frag} {mg : Str → Option Value} {base : Heap}
/-- a def by its body, as Fun.ok, the body told that nothing is being shown -/
theorem Fun.okG {x qual : Str} {st : Stmt} {f : Addr} {fd : FuncData} {N ps : List Str} {k : Nat} {sp : Sp} (F : Fun K x qual st f fd) (S : FnScope N ps (defScope st)) (len : ∀ vs H Q E, sp vs H Q E → vs.length = ps.length)
    (hb : ∀ (cdv : Value) (A : Around) (outer : List Env) (s : Shared) (H : Hp) (vs : List V) (Q : VK) (E : XK), A.guards = some [] → Room k (A.deeper (envOfC qual (defScope st) s.heap.objs.size f cdv)) → sp vs H Q E →
      ∃ t, PSs (cxOf CX0 P w K mg base N qual (defScope st) f cdv A outer s H E).nox (defBody st) t ∧ t { nx := fun _ H' => Q .non H', rt := Q } (start N vs) H) : FnG P w K mg base CX0 (k + 1) f fd ps sp := by
  obtain ⟨oc, od, kV, doc, pm, an, cdv, ct, osl, rfl, lk, hcd⟩ := F.ex
  refine ⟨len, fun A outer s H args us vs Q E hgd hr env0 bnd rel hsp => ?_⟩
  have hlv := len _ _ _ _ hsp
  have kin : K.In s.heap := env0.mod.kin.keeps fun b o z => (env0.bs b o z).1
  have nol : s.heap.NoLimit := env0.mod.nolimit.keeps fun b o z => (env0.bs b o z).1
  have knd : ∀ y ∈ ps.zip us, (defScope st).names.lookup y.1 = some .local ∨ ((defScope st).names.lookup y.1 = some .cell ∧ ((cellsFrom (s.heap.objs.size + 1) (defScope st).names []).lookup y.1).isSome = true) := by
    rintro ⟨n, v⟩ hy
    rcases S.par n (List.of_mem_zip hy).1 with q | q
    · exact .inl q
    · exact .inr ⟨q, PySem.W.cellsFrom_some _ _ _ (.inl q)⟩
  refine codeAny_call_function hr.depth (kin _ _ lk) rfl S.co S.gen rfl (PySem.W.codeRec_of kin hcd) (bnd _ _ _ _ ?_)
  refine wpAny_newFunctionEnv_cells S.kind knd fun env henv s1 ic => ?_
  subst henv
  refine ⟨nol.keeps ic.toInCall.keep, codeAny_func ?_⟩
  obtain ⟨t, ht0, hq⟩ := hb cdv A outer s H vs Q E hgd (hr.deeper _) hsp
  have ht := ht0.nox
  have J0 : Inv (cxOf CX0 P w K mg base N qual (defScope st) f cdv A outer s H E) [] (start N vs) H s1 := inv_start S hr.hd env0 hlv rel ic
  refine wpAny_mono (ht.run [] s1 (start N vs) H _ J0 hq) (fun fl s' hs => ?_) fun _ _ z => z
  have done : ∀ {σ' : St} {H' : Hp} {v : V} {u : Value}, Inv (cxOf CX0 P w K mg base N qual (defScope st) f cdv A outer s H E) [] σ' H' s' → RelV v u → Q v H' → CE outer P w H s Q u s' :=
    fun {σ' H' v u} J r q => ⟨v, H', J.os, J.bare, J.base, J.hok, r, q⟩
  cases fl with
  | ret u => obtain ⟨v, σ', H', J, r, q⟩ := hs; exact done J r q
  | next => obtain ⟨σ', H', J, q⟩ := hs; exact done (v := V.non) (u := Value.none) J rfl q
  | brk => obtain ⟨_, _, _, q⟩ := hs; exact False.elim q
  | cont => obtain ⟨_, _, _, q⟩ := hs; exact False.elim q
end
section
variable {X : Cx} {CX : CXT} {k : Nat} {f : Addr} {fd : FuncData} {ps : List Str} {sp : Sp} {E : XK} {x : Str} {a1 : Expr} {ar : List Expr} {ta : TA} {q1 qc : Pos}
theorem run_fnG {pins : List (Addr × Obj)} {σ : St} {H : Hp} {s : Shared} {Q : VK} {us : List Value} {vs : List V} (hgd : X.A.guards = some []) (F : FnG X.prog X.w X.K X.mg X.base CX k f fd ps sp) (hr : Room k X.A) (hb : Binds X.K fd ps []) (hx : Passes CX X E)
    (I : Inv X pins σ H s) (r : Vals vs us) (h : sp vs H Q E) : wpAny (model X.prog X.w) X.A (call (.ref f) us) (EP X pins σ Q) X.xe s := by
  have hl : (us ++ []).length = ps.length := by
    rw [List.append_nil, ← r.length]
    exact F.len _ _ _ _ h
  have bb := hb s us I.kIn hl
  rw [List.append_nil] at bb
  refine wpAny_call (codeAny_mono (F.run X.A X.stack s H ⟨us, []⟩ us vs Q E hgd hr I.env0 bb r h) fun rs s' hq => ?_)
  cases rs with
  | error er => exact hx pins σ H s er s' I hq
  | ok fl =>
    cases fl with
    | ret u => exact I.after hq
    | next => exact False.elim hq
    | brk => exact False.elim hq
    | cont => exact False.elim hq
theorem pe_callG (hgd : X.A.guards = some []) (F : FnG X.prog X.w X.K X.mg X.base CX k f fd ps sp) (hr : Room k X.A) (hg : Gl X x) (hm : X.mg x = some (.ref f)) (hk : PySem.W.keepIn X.K (.ref f) = true) (hb : Binds X.K fd ps []) (hx : Passes CX X E) (ha : PA X (a1 :: ar) ta)
    (hdb : (x == ("__debug__" : Str)) = false := by decide) (hst : starEach (a1 :: ar) X.env = (false, eval a1 X.env) :: starEach ar X.env := by rfl) (hps : (backTo qc (starEach ar X.env)).any (·.1) = false := by rfl) :
    PE X (.Call (.Name x q1) (a1 :: ar) [] qc) (tCall sp [] E ta) := by
  refine ⟨fun pins s σ H Q I h => ?_⟩
  refine wpAny_Call_Name_kw (ld_glob I hg hm ?_ hdb)
  refine PySem.W.callWith_K (h₀ := X.base) I.ok.mod.kin hk (thn (ha.run qc pins s σ H _ I h) fun us s1 hh => ?_) hst hps
  obtain ⟨vs, H1, I1, r, q⟩ := hh
  rw [List.append_nil] at q
  exact ⟨I1.kIn, run_fnG hgd F hr hb hx I1 r q⟩
/-- repr of a thing made of flat things, lists, tuples -/
def rRepr (K : PySem.W.Frag) : List V → Hp → VK → Prop := fun xs H Q => ∃ (a : Addr) (d : PyData), xs = [.ref a] ∧ Dp K H (.ref a) d ∧ d.showable = true ∧ d.hasDict = false ∧ d.depth ≤ 60 ∧ d.shown.length ≤ sizeLine ∧ Q (.str d.shown) H
theorem call_reprD {n : Nat} (hgd : X.A.guards = some []) (hr : Room n X.A) : CallR X (.builtin "repr") (rRepr X.K) := by
  intro pins s σ H xs us Q I r h
  obtain ⟨a, d, rfl, hd, hs, hnd, hdp, hz, q⟩ := h
  cases r with
  | cons ra rr =>
    cases rr
    rename_i u
    cases (show u = Value.ref a from ra)
    obtain ⟨as, rd⟩ := Dp.reads I d _ _ hd rfl
    have hun := hr.un
    refine repr_of_reads' rd hs (fun z => by rw [hnd] at z; cases z) hgd (by omega) (fun _ _ z => z) (fun h' u tk hk => ?_) hz
    exact ⟨.str d.shown, H, I.kept (t' := tk) hk, ⟨_, rfl⟩, q⟩
end
end L2
namespace L2
open PySem PySem.Spec PyProof.Rows
theorem caller_guards : callerA.guards = some [] := rfl
/-- the law's call, as law_call, the promise over A with nothing shown -/
theorem law_callG {P : Program} {w : World} {K : PySem.W.Frag} {mg mb : Str → Option Value} {CX : CXT} {k : Nat} {fa a : Addr} {fd : FuncData} {x : Str} {sp : Sp} {z1 : Shared} {vs : List Value} {ns : List Int}
    (kin : K.In z1.heap) (hns : z1.heap.Ns mainGlobals mg) (hbn : z1.heap.Ns builtinsNs mb) (hbb : ∀ y : Str, y ≠ "__name__" → mb y = bootBuiltins y) (hlim : z1.heap.NoLimit) (hgen : z1.gens = #[])
    (hscr : z1.heap.get? a = some { cls := .type "list", data := .seq vs.toArray }) (hi : IntsAre vs ns) (hl : ns.length ≤ sizeLine) (hr : Room k callerA)
    (F : ∀ base : Heap, K.In base → base.Ns mainGlobals mg → FnG P w K mg base CX k fa fd [x] sp) (hbind : ∀ (s : Shared) (u : Value), BindsTo s fd ⟨[u], []⟩ [(x, u)])
    (hsp : ∀ H : Hp, Only H → SqL K H a (ns.map V.int) → sp [.ref a] H (fun v _ => v = .bl true) fun _ _ _ => False) (hCX : ∀ H e s', CX [] H z1 (fun _ _ _ => False) e s' → False) :
    codeAny (model P w) callerA (.call (.ref fa) ⟨[.ref a], []⟩) (fun r s' => r = .ok (.ret (.bool true)) ∧ OldK z1.heap s'.heap ∧ s'.os = z1.os ∧ AllBare s'.gens) z1 := by
  have rel := vals_ints hi
  have lenV := hi.length
  have core : ∀ H : Hp, Only H → SqL K H a (ns.map V.int) → HOk P w H z1.heap → (∀ b, H b ≠ none → b = a) → (H a ≠ none → K.lookup a = none) →
      codeAny (model P w) callerA (.call (.ref fa) ⟨[.ref a], []⟩) (fun r s' => r = .ok (.ret (.bool true)) ∧ OldK z1.heap s'.heap ∧ s'.os = z1.os ∧ AllBare s'.gens) z1 := by
    intro H hO hS hok hA hK
    have below : ∀ {b : Addr} {o : Obj}, z1.heap.get? b = some o → H b = none → (hidT z1.heap H).get? b = some o := fun q n => hidT_get q n
    have noDict : ∀ {b : Addr} {o : Obj} {es : Array DictEntry} {ep : Nat}, z1.heap.get? b = some o → o.data = .dict es ep → H b = none := by
      intro b o es ep q d
      cases hq : H b with
      | none => rfl
      | some u =>
        obtain rfl : b = a := hA b (by rw [hq]; simp)
        rw [hscr] at q
        cases q
        cases (show Data.seq vs.toArray _ = Data.dict es ep from d)
    have nsUp : ∀ {b : Addr} {m : Str → Option Value}, z1.heap.Ns b m → (hidT z1.heap H).Ns b m := by
      rintro b m ⟨o, es, ep, q, d, r⟩
      exact ⟨o, es, ep, below q (noDict q d), d, r⟩
    have kinB : K.In (hidT z1.heap H) := by
      intro b o q
      refine below (kin b o q) ?_
      cases hq : H b with
      | none => rfl
      | some u =>
        obtain rfl : b = a := hA b (by rw [hq]; simp)
        rw [hK (by rw [hq]; simp)] at q
        cases q
    have md : Mod K mg (hidT z1.heap H) := ⟨kinB, nsUp hns, ⟨mb, nsUp hbn, hbb⟩, let ⟨mc, h1, h2⟩ := hlim; ⟨mc, nsUp h1, h2⟩⟩
    have en0 : Env0 P w K mg (hidT z1.heap H) callerA [] z1 H := ⟨rfl, md, fun b o q => of_hidT q, Nat.le_of_eq (hidT_size _ _), trivial, fun b hb => absurd (show b ∈ ([] : List Addr) from hb) (by simp), hok, .of_eq hgen⟩
    refine codeAny_mono ((F _ kinB (nsUp hns)).run callerA [] z1 H ⟨[.ref a], []⟩ [.ref a] [.ref a] _ _ caller_guards hr en0 (hbind z1 (.ref a)) (.cons rfl .nil) (hsp H hO hS)) fun r s' h => ?_
    cases r with
    | error er => exact (hCX H er s' h).elim
    | ok fl =>
      cases fl with
      | next => exact False.elim h
      | brk => exact False.elim h
      | cont => exact False.elim h
      | ret u =>
        obtain ⟨v, H', hos, bare, un, hok', r', hv⟩ := h
        obtain rfl : v = .bl true := hv
        obtain rfl : u = Value.bool true := r'
        refine ⟨rfl, OldK.of_keep fun b o q => ?_, hos, bare⟩
        cases hq : H b with
        | none => exact un.keep b o q hq (fun z => absurd (show b ∈ ([] : List Addr) from z) (by simp)) (by simp)
        | some u =>
          rcases hO b with z | ⟨ob, xs, z⟩
          · rw [hq] at z
            cases z
          · obtain ⟨e1, _⟩ := hok b _ z
            obtain ⟨e2, _⟩ := hok' b _ (un.frzs b ob _ z)
            rw [q] at e1
            cases e1
            exact e2
  cases hk : K.lookup a with
  | some o =>
    have q := kin a o hk
    rw [hscr] at q
    cases q
    exact core (fun _ => none) (fun _ => .inl rfl) (.inr ⟨_, vs.toArray, _, hk, rfl, rfl, rfl, by rw [List.size_toArray, lenV]; exact hl, by simpa using rel⟩) (fun b u z => nomatch (show (none : Option HO) = some u from z)) (fun b z => absurd rfl z) (fun z => absurd rfl z)
  | none =>
    have hH : ∀ b, (if b = a then some (HO.frz { cls := .type "list", data := .seq vs.toArray } (.lst (ns.map V.int))) else none) ≠ none → b = a := fun b z => by
      by_cases hb : b = a
      · exact hb
      · exact absurd (if_neg hb) z
    refine core (fun b => if b = a then some (.frz { cls := .type "list", data := .seq vs.toArray } (.lst (ns.map V.int))) else none) (fun b => ?_) (.inl (.inr ⟨{ cls := .type "list", data := .seq vs.toArray }, if_pos rfl⟩)) (fun b u z => ?_) hH (fun _ => hk)
    · by_cases hb : b = a
      · exact .inr ⟨_, _, if_pos hb⟩
      · exact .inl (if_neg hb)
    · by_cases hb : b = a
      · cases (if_pos hb).symm.trans z
        subst hb
        exact ⟨hscr, by rw [List.length_map]; exact hl, vs, _, rel, hscr⟩
      · cases (if_neg hb).symm.trans z
theorem walk_ofG {l : PySem.W.OpenLaw} {n k : Nat} {q : Program} {loose : List Str} {XP : (Str → Option Value) → Heap → Prop} {YP : World → Heap → Prop} {d : DefRec} {K : Params → PySem.W.Frag} {CX : CXT} {sp : PySem.W.Frag → Sp} {x : Str}
    (hn : l.most = some n) (hn2 : n ≤ sizeLine) (hdf : d.params.defaults = []) (hr : Room k callerA) (hY : ∀ (w : World) (h : Heap), YP w h → (K w.params).In h)
    (F : ∀ (w : World) (mg : Str → Option Value) (fa : Addr) (h : Heap), (K w.params).In h → h.Ns mainGlobals mg → mg d.name = some (.ref fa) → ∃ fd : FuncData, (∀ (s : Shared) (u : Value), BindsTo s fd ⟨[u], []⟩ [(x, u)]) ∧
        ∀ base : Heap, (K w.params).In base → base.Ns mainGlobals mg → FnG l.prog w (K w.params) mg base CX k fa fd [x] (sp (K w.params)))
    (hsp : ∀ (K : PySem.W.Frag) (H : Hp) (a : Addr) (ns : List Int), ns.length ≤ n → Only H → SqL K H a (ns.map V.int) → sp K [.ref a] H (fun v _ => v = .bl true) fun _ _ _ => False) (hCX : ∀ (H : Hp) (s : Shared) (e : Value) (s' : Shared), CX [] H s (fun _ _ _ => False) e s' → False) :
    PySem.W.WalkO q loose XP YP l.row.toRowW d [] (fun f vs => PySem.call f vs) := by
  refine Att.attach_call hn hdf fun w s0 z1 mg mb fa o pm cd doc a vs ns G Y ho hd hcd hmg hobj hints hlen hg => ?_
  obtain ⟨fd, hb, hF⟩ := F w mg fa _ (hY w _ Y) G.T.g hmg
  exact law_callG (hY w _ Y) G.T.g G.T.b G.T.builtins G.T.nolimit hg hobj hints (Nat.le_trans hlen hn2) hr hF hb (fun H hO hS => hsp (K w.params) H a ns hlen hO hS) fun H e s' => hCX H z1 e s'
end L2

/-! ### own objects whose class is found by the object -/
namespace L2
open PySem PySem.Spec PyProof.Rows
/-- the method m of the class at C keeps sp, by a def of level k -/
structure MOk (P : Program) (w : World) (K : PySem.W.Frag) (mg : Str → Option Value) (base : Heap) (CX : CXT) (k : Nat) (C : Addr) (m : Str) (sp : Sp) : Prop where
  cl : Cls K C
  ex : ∃ (f : Addr) (fd : FuncData) (ps : List Str), Meth K C m f ∧ FnOk P w K mg base CX k f fd ps sp ∧ Binds K fd ps []
section
variable {X : Cx} {CX : CXT} {k : Nat} {sp : Addr → Sp} {E : XK} {m : Str} {o a1 : Expr} {ar : List Expr} {te : TE} {ta : TA} {qa qc : Pos} {M : Addr → Prop}
/-- o.m(), o of one of the classes M -/
def tMP (M : Addr → Prop) (m : Str) (sp : Addr → Sp) (E : XK) (te : TE) (ta : TA) : TE := fun σ H Q => te σ H fun x H1 => ∃ a C dx fs, x = .ref a ∧ H1 a = some (.ins C dx fs) ∧ M C ∧ fs.lookup m = none ∧ ta σ H1 fun vs H2 => sp C (x :: vs) H2 Q E
theorem pe_methP0 {pl : Sem Bool} (he : PE X o te) (hM : ∀ C, M C → MOk X.prog X.w X.K X.mg X.base CX k C m (sp C)) (hr : Room k X.A) (hx : Passes CX X E)
    (hcal : eval (.Call (.Attribute o m qa) [] [] qc) X.env = (eval o X.env >>= fun ov => standAt qa.atName >>= fun _ => holding [ov] (getMethod ov m pl) >>= fun r => callWith qc r.1 r.2 (backTo qc (starEach [] X.env)) (backToKw qc (keywordEach [] X.env))) := by rfl) :
    PE X (.Call (.Attribute o m qa) [] [] qc) (tMP M m sp E te tNil) := by
  refine ⟨fun pins s σ H Q I h => ?_⟩
  refine PySem.W.methodCall_KW (pl := pl) (thn (he.run pins s σ H _ I h) fun u s1 hh => ?_) hcal
  obtain ⟨x, H1, I1, rx, a, C, dx, fs, rfl, ea, hC, l, q⟩ := hh
  obtain rfl : u = Value.ref a := rx
  obtain ⟨cl, f, fd, ps, hm, F, hb⟩ := hM C hC
  refine getmeth_ok I1 ea cl hm l ?_
  exact PySem.W.callWith_K0 (first := [.ref a]) I1.kIn hm.kp (run_fn (us := [.ref a]) (vs := [.ref a]) (dvs := []) F hr hb .nil hx I1 (.cons rfl .nil) q)
theorem pe_methP {pl : Sem Bool} (he : PE X o te) (hM : ∀ C, M C → MOk X.prog X.w X.K X.mg X.base CX k C m (sp C)) (hr : Room k X.A) (hx : Passes CX X E) (ha : PA X (a1 :: ar) ta)
    (hst : starEach (a1 :: ar) X.env = (false, eval a1 X.env) :: starEach ar X.env := by rfl) (hps : (backTo qc (starEach ar X.env)).any (·.1) = false := by rfl)
    (hcal : eval (.Call (.Attribute o m qa) (a1 :: ar) [] qc) X.env = (eval o X.env >>= fun ov => standAt qa.atName >>= fun _ => holding [ov] (getMethod ov m pl) >>= fun r => callWith qc r.1 r.2 (backTo qc (starEach (a1 :: ar) X.env)) (backToKw qc (keywordEach [] X.env))) := by rfl) :
    PE X (.Call (.Attribute o m qa) (a1 :: ar) [] qc) (tMP M m sp E te ta) := by
  refine ⟨fun pins s σ H Q I h => ?_⟩
  refine PySem.W.methodCall_KW (pl := pl) (thn (he.run pins s σ H _ I h) fun u s1 hh => ?_) hcal
  obtain ⟨x, H1, I1, rx, a, C, dx, fs, rfl, ea, hC, l, q⟩ := hh
  obtain rfl : u = Value.ref a := rx
  obtain ⟨cl, f, fd, ps, hm, F, hb⟩ := hM C hC
  refine getmeth_ok I1 ea cl hm l ?_
  refine PySem.W.callWith_K (first := [.ref a]) (h₀ := X.base) I.ok.mod.kin hm.kp (thn (ha.run qc pins s1 σ H1 _ I1 q) fun us s2 h2 => ?_) hst hps
  obtain ⟨vs, H2, I2, r, q2⟩ := h2
  exact ⟨I2.kIn, run_fn (us := .ref a :: us) (vs := .ref a :: vs) (dvs := []) F hr hb .nil hx I2 (.cons rfl r) (by rw [List.append_nil]; exact q2)⟩
theorem c_mp {σ : St} {H : Hp} {Q : VK} (h : te σ H fun x H1 => ∃ a C dx fs, x = .ref a ∧ H1 a = some (.ins C dx fs) ∧ M C ∧ fs.lookup m = none ∧ ta σ H1 fun vs H2 => sp C (x :: vs) H2 Q E) : tMP M m sp E te ta σ H Q := h
def tNeverE : TE := fun _ _ _ => False
theorem pe_never {e : Expr} : PE X e tNeverE := ⟨fun _ _ _ _ _ _ h => h.elim⟩
end
end L2
namespace L2
open PySem PySem.Spec PyProof.Rows
section
variable {X : Cx}
theorem dpAll_int {K : PySem.W.Frag} {H : Hp} : ∀ ns : List Int, DpAll K H (ns.map V.int) (ns.map PyData.int)
  | [] => .nil
  | n :: ns => .cons (.int n) (dpAll_int ns)
/-- the greatest of these, and of the last one -/
def maxL : List Int → Int
  | [] => 0
  | y :: ys => PySem.W.maxOf y ys
/-- max(l, default=z), l of whole numbers -/
theorem call_maxD {n : Nat} (hr : Room n X.A) : CallRK X (.builtin "max") ["default"] (fun xs zs H Q => ∃ (a : Addr) (ns : List Int) (z : V), xs = [.ref a] ∧ zs = [z] ∧ SqL X.K H a (ns.map V.int) ∧ (ns = [] → Q z H) ∧ ∀ y ys, ns = y :: ys → Q (.int (PySem.W.maxOf y ys)) H) := by
  intro pins s σ H xs zs us ws Q I r rz h
  obtain ⟨a, ns, z, rfl, rfl, hS, h0, h1⟩ := h
  cases r with
  | cons ra rr =>
    cases rr
    rename_i u
    cases (show u = Value.ref a from ra)
    cases rz with
    | cons rz1 rzz =>
      cases rzz
      rename_i zu
      obtain ⟨its, rv, hp, hlen⟩ := I.list hS
      obtain ⟨as, rds⟩ := Dp.readsAll I _ _ its (dpAll_int ns) rv
      have hun := hr.un
      have hD : PySem.W.HoldAll s.heap its.toArray.toList ns := ⟨as, rds⟩
      refine PySem.W.max_list_datum_default (α := Int) hr.hd hp.isList hD (by show X.A.units + 1 + 0 < cLine; omega) (fun e h' tk hk => ?_) (fun y ys i v h' tk e hi hv hk => ?_)
      · exact ⟨z, H, I.kept (t' := tk) hk, rz1, h0 e⟩
      · obtain ⟨bs, rd⟩ := hv
        have hv2 : ∃ t, v = Value.int (PySem.W.maxOf y ys) t := by
          have rd' : Reads h' v (.int (PySem.W.maxOf y ys)) bs := rd
          cases rd' with
          | int i t => exact ⟨t, rfl⟩
        exact ⟨.int (PySem.W.maxOf y ys), H, I.kept (t' := tk) hk, hv2, h1 y ys e⟩
end
end L2
namespace L2
open PySem PySem.Spec PyProof.Rows
/-- a plain class with these fields, that can be made -/
def tcB (K : PySem.W.Frag) (C : Addr) (fs : List Str) : Bool :=
  ((PySem.W.plainGet K C Str.empty && PySem.W.hasDictIn K C) && (PySem.W.plainOver K C && (PySem.W.makesIn K C && PySem.W.keepIn K (.ref C)))) &&
  ((decide (PySem.W.findIn K (.ref C) "__setattr__" = some (some (.builtin "object.__setattr__"))) && decide (PySem.W.findIn K (.ref C) "__class__" = some (some (.builtin "object.__class__")))) &&
  ((decide (PySem.W.specialIn K (.builtin "object.__class__") "__get__" = some (some (.builtin "getset_descriptor.__get__"))) && decide (PySem.W.takesIn K (.builtin "object.__class__") = some true)) &&
  (decide (PySem.W.mroIn K C (.type "object") = some true) && fs.all fun f => decide (PySem.W.findIn K (.ref C) f = some none))))
structure TcC (K : PySem.W.Frag) (C : Addr) (fs : List Str) : Prop where
  cl : Cls K C
  makes : PySem.W.makesIn K C = true
  kp : PySem.W.keepIn K (.ref C) = true
  ty : ∀ {H : Hp} {a dx : Addr} {gs : List (Str × V)}, H a = some (.ins C dx gs) → TyX K H (.ref a) (.ref C)
  no : ∀ f ∈ fs, NoAttr K C f
theorem tcB_ok {K : PySem.W.Frag} {C : Addr} {fs : List Str} (h : tcB K C fs = true) : TcC K C fs := by
  unfold tcB at h
  simp only [Bool.and_eq_true, decide_eq_true_eq, List.all_eq_true] at h
  obtain ⟨⟨⟨h1, h2⟩, h3, h4, h5⟩, ⟨h6, h7⟩, ⟨h8, h9⟩, h10, h11⟩ := h
  have cl : Cls K C := ⟨h1, h2, h3, h6⟩
  exact ⟨cl, h4, h5, fun e => .base (.ins e cl h7 h8 h9 h10), h11⟩
section
variable {K : PySem.W.Frag} {σ : St} {H : Hp} {Q : VK} {D : Ends} {te tv : TE} {f : Str} {ta tk : TA} {C : Addr} {sp : Sp} {E : XK}
theorem c_fld (h : te σ H fun x H1 => ∃ a C dx fs v, x = .ref a ∧ H1 a = some (.ins C dx fs) ∧ Cls K C ∧ NoAttr K C f ∧ fs.lookup f = some v ∧ Q v H1) : tFld K te f σ H Q := h
theorem c_sfld (h : tv σ H fun y H1 => te σ H1 fun x H2 => ∃ a C dx fs, x = .ref a ∧ H2 a = some (.ins C dx fs) ∧ Cls K C ∧ NoAttr K C f ∧ fs.length < 1000 ∧ D.nx σ (upd H2 a (.ins C dx (putF f y fs)))) : sFld K te tv f D σ H := h
/-- C(..): what is asked, by one word -/
def MkP2 (C : Addr) (sp : Sp) (vs : List V) (H : Hp) (Q : VK) (E : XK) : Prop := ∀ x dx, H x = none → H dx = none → dx ≠ x → sp (.ref x :: vs) (upd (upd H dx (.own x)) x (.ins C dx [])) (fun v H2 => v = .non ∧ Q (.ref x) H2) E
theorem c_make (h : ta σ H fun vs H1 => MkP2 C sp vs H1 Q E) : tMake C sp [] E ta σ H Q := by
  show ta σ H fun vs H1 => ∀ x dx, H1 x = none → H1 dx = none → dx ≠ x → sp (.ref x :: (vs ++ [])) (upd (upd H1 dx (.own x)) x (.ins C dx [])) (fun v H2 => v = .non ∧ Q (.ref x) H2) E
  simp only [List.append_nil]
  exact h
theorem c_ckw {r : List V → List V → Hp → VK → Prop} (h : ta σ H fun vs H1 => tk σ H1 fun zs H2 => r vs zs H2 Q) : tCKw r ta tk σ H Q := h
end
end L2

/-! facts of classes, as truths -/
namespace L2
open PySem
def difB : List Addr → Bool
  | [] => true
  | a :: as => as.all (fun b => !decide (a = b)) && difB as
theorem difB_ne {a b : Addr} : ∀ {l : List Addr} {i j : Nat}, difB l = true → l[i]? = some a → l[j]? = some b → i < j → a ≠ b
  | [], i, j, _, h, _, _ => by simp at h
  | c :: l, i, j, h, hi, hj, hij => by
    rw [difB, Bool.and_eq_true, List.all_eq_true] at h
    cases j with
    | zero => omega
    | succ j =>
      rw [List.getElem?_cons_succ] at hj
      cases i with
      | zero =>
        have : c = a := by simpa using hi
        subst this
        have := h.1 b (List.mem_of_getElem? hj)
        intro e
        subst e
        simp at this
      | succ i =>
        rw [List.getElem?_cons_succ] at hi
        exact difB_ne h.2 hi hj (by omega)
/-- of class c, and with the plain == -/
def subB (K : PySem.W.Frag) (C c : Addr) : Bool := decide (PySem.W.kitOne K (.ref C) (.ref c) = some true) && (decide (PySem.W.mroIn K C (.type "object") = some true) && decide (PySem.W.findIn K (.ref C) "__eq__" = some (some (.builtin "object.__eq__"))))
end L2
namespace L2
open PySem
/-- each of these is of its own class and of E alone -/
def kitTab (K : PySem.W.Frag) (cs : List Addr) (E : Addr) : Bool := cs.all fun c => decide (PySem.W.kitOne K (.ref c) (.ref E) = some true) && (decide (PySem.W.mroIn K c (.type "object") = some true) && (decide (PySem.W.findIn K (.ref c) "__eq__" = some (some (.builtin "object.__eq__"))) && cs.all fun c' => decide (PySem.W.kitOne K (.ref c) (.ref c') = some (decide (c = c')))))
end L2

/-! ### repr of nested things: the bounds; comprehensions that make things -/
namespace L2
open PySem PySem.Spec PyProof.Rows
open TL (tl)
/-- may be shown: nested at most D deep, its signs and things at most B -/
def RpOk (D B : Nat) (d : PyData) : Prop := d.showable = true ∧ d.canLay0 = true ∧ d.leavesShort 13 = true ∧ d.depth ≤ D ∧ d.bulk ≤ B
def RpAll (D B : Nat) (ds : List PyData) : Prop := PyData.showableAll ds = true ∧ PyData.canLayAll0 ds = true ∧ PyData.leavesShortAll 13 ds = true ∧ PyData.depthAll ds ≤ D ∧ PyData.bulkAll ds ≤ B
theorem RpOk.mono {D B D2 B2 : Nat} {d : PyData} (h : RpOk D B d) (hD : D ≤ D2) (hB : B ≤ B2) : RpOk D2 B2 d := ⟨h.1, h.2.1, h.2.2.1, Nat.le_trans h.2.2.2.1 hD, Nat.le_trans h.2.2.2.2 hB⟩
theorem rp_non : RpOk 0 0 .none := ⟨by simp only [PyData.showable], by simp only [PyData.canLay0], by simp only [PyData.leavesShort], by simp only [PyData.depth]; omega, by simp only [PyData.bulk]; omega⟩
theorem rp_bl (b : Bool) : RpOk 0 0 (.bool b) := ⟨by simp only [PyData.showable], by simp only [PyData.canLay0], by simp only [PyData.leavesShort], by simp only [PyData.depth]; omega, by simp only [PyData.bulk]; omega⟩
theorem rp_int {i : Int} (h : i.natAbs < 10 ^ 12) : RpOk 0 0 (.int i) := by
  refine ⟨?_, by simp only [PyData.canLay0], ?_, by simp only [PyData.depth]; omega, by simp only [PyData.bulk]; omega⟩
  · simp only [PyData.showable, decide_eq_true_eq]
    by_cases h0 : i.natAbs = 0
    · rw [h0]; decide
    · have h1 : i.natAbs.log2 < 40 := (Nat.log2_lt h0).mpr (Nat.lt_trans h (by decide))
      omega
  · simp only [PyData.leavesShort, decide_eq_true_eq]
    exact PyData.shown_int_le h
theorem rp_str {x : Str} (h : OkT x) : RpOk 0 x.length (.str x) := by
  refine ⟨by simp only [PyData.showable], by simp only [PyData.canLay0]; exact okT_V h, ?_, by simp only [PyData.depth]; omega, by simp only [PyData.bulk]; exact Nat.le_refl _⟩
  simp only [PyData.leavesShort, List.all_eq_true, decide_eq_true_eq]
  exact fun c hc => Nat.lt_trans (h c hc) (by decide)
theorem rp_nil : RpAll 0 0 [] := ⟨by simp only [PyData.showableAll], by simp only [PyData.canLayAll0], by simp only [PyData.leavesShortAll], by simp only [PyData.depthAll]; omega, by simp only [PyData.bulkAll]; omega⟩
theorem rp_cons {D B D2 B2 : Nat} {d : PyData} {ds : List PyData} (h : RpOk D B d) (k : RpAll D2 B2 ds) : RpAll (max D D2) (B + 1 + B2) (d :: ds) := by
  obtain ⟨h1, h2, h3, h4, h5⟩ := h
  obtain ⟨k1, k2, k3, k4, k5⟩ := k
  refine ⟨by simp only [PyData.showableAll, h1, k1, Bool.and_self], by simp only [PyData.canLayAll0, h2, k2, Bool.and_self], by simp only [PyData.leavesShortAll, h3, k3, Bool.and_self], by simp only [PyData.depthAll]; omega, by simp only [PyData.bulkAll]; omega⟩
theorem rp_tup {D B : Nat} {ds : List PyData} (h : RpAll D B ds) : RpOk (D + 1) B (.tuple ds) := by
  obtain ⟨h1, h2, h3, h4, h5⟩ := h
  exact ⟨by simp only [PyData.showable, h1], by simp only [PyData.canLay0, h2], by simp only [PyData.leavesShort, h3], by simp only [PyData.depth]; omega, by simp only [PyData.bulk]; omega⟩
theorem rp_lst {D B : Nat} {ds : List PyData} (h : RpAll D B ds) : RpOk (D + 1) B (.list ds) := by
  obtain ⟨h1, h2, h3, h4, h5⟩ := h
  exact ⟨by simp only [PyData.showable, h1], by simp only [PyData.canLay0, h2], by simp only [PyData.leavesShort, h3], by simp only [PyData.depth]; omega, by simp only [PyData.bulk]; omega⟩
theorem rp_all {D B : Nat} : ∀ {ds : List PyData}, (∀ d ∈ ds, RpOk D B d) → RpAll D (ds.length * (B + 1)) ds
  | [], _ => ⟨by simp only [PyData.showableAll], by simp only [PyData.canLayAll0], by simp only [PyData.leavesShortAll], by simp only [PyData.depthAll]; omega, by simp only [PyData.bulkAll]; omega⟩
  | d :: ds, h => by
    obtain ⟨h1, h2, h3, h4, h5⟩ := rp_cons (h d List.mem_cons_self) (rp_all (ds := ds) fun e he => h e (List.mem_cons_of_mem _ he))
    refine ⟨h1, h2, h3, by omega, ?_⟩
    rw [List.length_cons, Nat.succ_mul]
    omega
theorem c_repr {K : PySem.W.Frag} {H : Hp} {Q : VK} {a : Addr} {d : PyData} {D B : Nat} (h : Dp K H (.ref a) d) (r : RpOk D B d) (q : Q (.str d.shown) H) (hD : D ≤ 60 := by decide) (hB : B ≤ 2 ^ 20 := by decide) : rRepr K [.ref a] H Q :=
  ⟨a, d, rfl, h, r.1, PyData.hasDict_of_canLay d r.2.1, Nat.le_trans r.2.2.2.1 hD, PyData.shown_fits_bulk (B := 13) (by decide) (by decide) r.2.2.1 (Nat.le_trans r.2.2.2.2 hB), q⟩
theorem BoxAt.up {H H2 : Hp} {b : Addr} (h : BoxAt H b) (e : Evl.Ex H H2) : BoxAt H2 b := let ⟨x, y, z, p, q⟩ := h; ⟨x, y, z, p, e _ _ q⟩
theorem RpOk.shaped {D B : Nat} {d : PyData} (h : RpOk D B d) (hD : D ≤ 64 := by decide) : SeqAt.shaped d = true := by
  unfold SeqAt.shaped
  rw [h.2.1, Bool.true_and, decide_eq_true_eq]
  exact Nat.le_trans h.2.2.2.1 hD
/-- s * n, n nought or one -/
theorem op_rep_str01 {X : Cx} : OpR X (binaryOp .Mult) (fun x y H Q => ∃ (z : Str) (n : Int), x = .str z ∧ y = .int n ∧ ((n = 0 ∧ Q (.str Str.empty) H) ∨ (n = 1 ∧ Q (.str z) H))) := by
  intro pins s σ H x y v u Q I rx ry h
  obtain ⟨z, n, rfl, rfl, h⟩ := h
  obtain ⟨t, rfl⟩ := rx
  obtain ⟨t', rfl⟩ := ry
  rcases h with ⟨rfl, q⟩ | ⟨rfl, q⟩
  · exact PySem.P.mul_str_none (by decide) (by decide) ⟨.str Str.empty, H, I.tok _, ⟨_, rfl⟩, q⟩
  · refine PySem.P.mul_str (by decide) (fun _ h2 => absurd h2 (by simp)) (fun _ h2 => absurd h2 (by simp)) ?_
    rw [if_neg (by decide), if_pos (by rfl)]
    exact ⟨.str z, H, I, ⟨_, rfl⟩, q⟩
/-- all that is no list stays -/
def NL (H H2 : Hp) : Prop := ∀ a o, (∀ ys, o ≠ HO.lst ys) → H a = some o → H2 a = some o
theorem NL.of {H H2 : Hp} (e : Evl.Ex H H2) : NL H H2 := fun a o _ h => e a o h
theorem NL.trans {H H2 H3 : Hp} (e : NL H H2) (e2 : NL H2 H3) : NL H H3 := fun a o n h => e2 a o n (e a o n h)
theorem NL.upd {H : Hp} {f : Addr} {xs ys : List V} (h : H f = some (.lst xs)) : NL H (upd H f (.lst ys)) := fun a o n ha => by
  rw [upd_ne (ne_of ha h (n xs))]
  exact ha
theorem NL.box {H H2 : Hp} {b : Addr} (e : ExB b H H2) (h : BoxAt H b) : NL H H2 := fun a o n ha => by
  obtain ⟨x, y, z, _, q⟩ := h
  exact e a o (ne_of ha q (n _)) ha
section
variable {K : PySem.W.Frag} {σ : St} {H : Hp} {Q : VK} {g : TG} {tt : TT} {te : TE} {vs : List Nat}
theorem lcTN {a : Addr} {xs : List V} (P : Nat → V → Hp → Prop) (hst : ∀ i y G G2, NL G G2 → P i y G → P i y G2) (hs : SqT K H a xs) (hn : xs.length ≤ 1000)
    (ht : ∀ (i : Nat) (x : V), xs[i]? = some x → ∀ H2, Evl.Ex H H2 → ∀ (R : V → Hp → Prop) (N : Hp → Prop), (∀ y H3, Evl.Ex H2 H3 → P i y H3 → R y H3) →
      g x (wipe σ vs) H2 fun σ2 H3 => wipe σ2 vs = wipe σ vs ∧ tt σ2 H3 fun c H4 => if c = true then te σ2 H4 fun y H5 => R y H5 else N H4)
    (k : ∀ ys p H2, ys.length = xs.length → (∀ i y, ys[i]? = some y → P i y H2) → H p = none → Evl.Ex H H2 → H2 p = some (.lst ys) → Q (.ref p) H2) : LcI (Itt K a) g tt te vs σ H Q := by
  refine fun D hD => ?_
  have ex : ∀ {G : Hp} {o : HO}, Evl.Ex H G → Evl.Ex H (upd G D o) := fun e b u hb => by rw [upd_ne (ne_of_none hb hD)]; exact e b u hb
  refine lc_tup (xs := xs) (fun i H' => i ≤ xs.length ∧ Evl.Ex H H' ∧ ∃ ys, ys.length = i ∧ (∀ j y, ys[j]? = some y → P j y H') ∧ H' D = some (.lst ys))
    ⟨Nat.zero_le _, ex (Evl.Ex.refl _), [], rfl, (fun j y h => by simp at h), upd_same⟩ (fun i H' _ p => Evl.ex_t p.2.1 hs) (fun i x H' hi p => ?_) (fun H' p => ?_)
  · obtain ⟨_, e1, ys, hl, hy, hD'⟩ := p
    have hil := (List.getElem?_eq_some_iff.mp hi).1
    refine ht i x hi H' e1 (fun y H4 => ∃ acc, H4 D = some (.lst acc) ∧ acc.length < sizeLine ∧ (i + 1 ≤ xs.length ∧ Evl.Ex H (upd H4 D (.lst (acc ++ [y]))) ∧ ∃ zs, zs.length = i + 1 ∧ (∀ j y2, zs[j]? = some y2 → P j y2 (upd H4 D (.lst (acc ++ [y])))) ∧ upd H4 D (.lst (acc ++ [y])) D = some (.lst zs))) _ (fun y H3 e3 py => ?_)
    have hD3 := e3 _ _ hD'
    have eD : NL H3 (upd H3 D (.lst (ys ++ [y]))) := NL.upd hD3
    refine ⟨ys, hD3, Evl.sz_lt (by omega), hil, ex (e1.trans e3), ys ++ [y], by rw [List.length_append, hl]; rfl, fun j y2 hj => ?_, upd_same⟩
    rcases Nat.lt_or_ge j ys.length with h | h
    · rw [List.getElem?_append_left h] at hj
      exact hst _ _ _ _ eD (hst _ _ _ _ (NL.of e3) (hy j y2 hj))
    · rw [List.getElem?_append_right h] at hj
      have hj0 : j - ys.length = 0 := by
        have := (List.getElem?_eq_some_iff.mp hj).1
        rw [List.length_singleton] at this
        omega
      rw [hj0] at hj
      have hyy : y = y2 := by simpa using hj
      subst hyy
      have : j = i := by omega
      subst this
      exact hst _ _ _ _ eD py
  · obtain ⟨_, e1, ys, hl, hy, hD'⟩ := p
    exact k ys D H' hl hy hD e1 hD'
/-- the same over range(n), with draws -/
theorem lcRN {n : Nat} {b : Addr} (P : Nat → V → Hp → Prop) (hst : ∀ i y G G2, NL G G2 → P i y G → P i y G2) (hn : n ≤ 1000) (hB : BoxAt H b)
    (ht : ∀ (i : Nat), i < n → ∀ H2, BoxAt H2 b → ExB b H H2 → ∀ (R : V → Hp → Prop) (N : Hp → Prop), (∀ y H3, ExB b H2 H3 → BoxAt H3 b → P i y H3 → R y H3) →
      g (.int (i : Int)) (wipe σ vs) H2 fun σ2 H3 => wipe σ2 vs = wipe σ vs ∧ tt σ2 H3 fun c H4 => if c = true then te σ2 H4 fun y H5 => R y H5 else N H4)
    (k : ∀ ys p H2, ys.length = n → (∀ i y, ys[i]? = some y → P i y H2) → H p = none → ExB b H H2 → BoxAt H2 b → H2 p = some (.lst ys) → Q (.ref p) H2) : LcI (Itr 0 n) g tt te vs σ H Q := by
  refine fun D hD => ?_
  obtain ⟨ob, hob⟩ := hB.some
  have nDb : D ≠ b := (ne_of_none hob hD).symm
  have bx : ∀ {G : Hp} {o : HO}, BoxAt G b → BoxAt (upd G D o) b := fun ⟨x, y, z, p, q⟩ => ⟨x, y, z, p, by rw [upd_ne nDb.symm]; exact q⟩
  have ex : ∀ {G : Hp} {o : HO}, ExB b H G → ExB b H (upd G D o) := fun e a u na ha => by rw [upd_ne (ne_of_none ha hD)]; exact e a u na ha
  refine lc_range (lo := 0) (n := n) (fun i H' => i ≤ n ∧ ExB b H H' ∧ BoxAt H' b ∧ ∃ ys, ys.length = i ∧ (∀ j y, ys[j]? = some y → P j y H') ∧ H' D = some (.lst ys))
    ⟨Nat.zero_le _, ex (ExB.refl _ _), bx hB, [], rfl, (fun j y h => by simp at h), upd_same⟩ (fun i H' hi p => ?_) (fun H' p => ?_)
  · obtain ⟨_, e1, b1, ys, hl, hy, hD'⟩ := p
    have e0 : (0 : Int) + (i : Int) = (i : Int) := Int.zero_add _
    rw [e0]
    refine ht i hi H' b1 e1 (fun y H4 => ∃ acc, H4 D = some (.lst acc) ∧ acc.length < sizeLine ∧ (i + 1 ≤ n ∧ ExB b H (upd H4 D (.lst (acc ++ [y]))) ∧ BoxAt (upd H4 D (.lst (acc ++ [y]))) b ∧ ∃ zs, zs.length = i + 1 ∧ (∀ j y2, zs[j]? = some y2 → P j y2 (upd H4 D (.lst (acc ++ [y])))) ∧ upd H4 D (.lst (acc ++ [y])) D = some (.lst zs))) _ (fun y H3 e3 b3 py => ?_)
    have hD3 := e3 _ _ nDb hD'
    have eD : NL H3 (upd H3 D (.lst (ys ++ [y]))) := NL.upd hD3
    refine ⟨ys, hD3, Evl.sz_lt (by omega), hi, ex (e1.trans e3), bx b3, ys ++ [y], by rw [List.length_append, hl]; rfl, fun j y2 hj => ?_, upd_same⟩
    rcases Nat.lt_or_ge j ys.length with h | h
    · rw [List.getElem?_append_left h] at hj
      exact hst _ _ _ _ eD (hst _ _ _ _ (NL.box e3 b1) (hy j y2 hj))
    · rw [List.getElem?_append_right h] at hj
      have hj0 : j - ys.length = 0 := by
        have := (List.getElem?_eq_some_iff.mp hj).1
        rw [List.length_singleton] at this
        omega
      rw [hj0] at hj
      have hyy : y = y2 := by simpa using hj
      subst hyy
      have : j = i := by omega
      subst this
      exact hst _ _ _ _ eD py
  · obtain ⟨_, e1, b1, ys, hl, hy, hD'⟩ := p
    exact k ys D H' hl hy hD e1 b1 hD'
theorem c_noneIn {p : Addr} {xs : List V} (h : SqL K H p xs) (hn : ∀ z ∈ xs, NoneOr K H z) (hr : ∀ z ∈ xs, z ≠ .non) (q : Q (.bl false) H) : rNoneIn K false .non (.ref p) H Q := by
  refine ⟨p, xs, rfl, rfl, h, hn, ?_⟩
  have e : xs.any isNon = false := by
    rw [List.any_eq_false]
    intro z hz he
    cases z with
    | non => exact hr _ hz rfl
    | _ => cases he
  show Q (.bl (xs.any isNon)) H
  rw [e]
  exact q
end
end L2

/-! ### C.m(self, ..), m a def of the class -/
namespace L2
open PySem PySem.Spec PyProof.Rows
structure CmC (K : PySem.W.Frag) (B f : Addr) (m : Str) : Prop where
  rd : PySem.W.readsIn K B (.type "type") = true
  ga : PySem.W.specialIn K (.ref B) "__getattribute__" = some (some (.builtin "type.__getattribute__"))
  at_ : PySem.W.findCls K (.ref B) (.type "type") m = some (.val (.ref f))
def cmB (K : PySem.W.Frag) (B f : Addr) (m : Str) : Bool := PySem.W.readsIn K B (.type "type") && (decide (PySem.W.specialIn K (.ref B) "__getattribute__" = some (some (.builtin "type.__getattribute__"))) && (match PySem.W.findCls K (.ref B) (.type "type") m with | some (.val (.ref g)) => decide (g = f) | _ => false))
theorem cmB_ok {K : PySem.W.Frag} {B f : Addr} {m : Str} (h : cmB K B f m = true) : CmC K B f m := by
  unfold cmB at h
  simp only [Bool.and_eq_true, decide_eq_true_eq] at h
  obtain ⟨h1, h2, h3⟩ := h
  split at h3
  · rename_i g e
    rw [decide_eq_true_eq] at h3
    subst h3
    exact ⟨h1, h2, e⟩
  · cases h3
section
variable {X : Cx} {CX : CXT} {k : Nat} {B f : Addr} {fd : FuncData} {ps : List Str} {sp : Sp} {E : XK} {x m : Str} {a1 : Expr} {ar : List Expr} {ta : TA} {q1 q2 qc : Pos}
theorem pe_cm {pl : Sem Bool} (hg : Gl X x) (hm : X.mg x = some (.ref B)) (T : CmC X.K B f m) (F : FnOk X.prog X.w X.K X.mg X.base CX k f fd ps sp) (hr : Room k X.A) (hk : PySem.W.keepIn X.K (.ref f) = true) (hb : Binds X.K fd ps []) (hx : Passes CX X E) (ha : PA X (a1 :: ar) ta)
    (hcal : eval (.Call (.Attribute (.Name x q1) m q2) (a1 :: ar) [] qc) X.env = (eval (.Name x q1) X.env >>= fun ov => standAt q2.atName >>= fun _ => holding [ov] (getMethod ov m pl) >>= fun r => callWith qc r.1 r.2 (backTo qc (starEach (a1 :: ar) X.env)) (backToKw qc (keywordEach [] X.env))) := by rfl)
    (hst : starEach (a1 :: ar) X.env = (false, eval a1 X.env) :: starEach ar X.env := by rfl) (hps : (backTo qc (starEach ar X.env)).any (·.1) = false := by rfl) (hdb : (x == ("__debug__" : Str)) = false := by decide) :
    PE X (.Call (.Attribute (.Name x q1) m q2) (a1 :: ar) [] qc) (tCall sp [] E ta) := by
  refine ⟨fun pins s σ H Q I h => ?_⟩
  refine PySem.W.methodCall_KW (ld_glob I hg hm ?_ hdb) hcal
  refine PySem.W.method_cls I.kIn T.ga (PySem.W.cls_value I.kIn T.rd T.at_ (by rfl) ?_)
  refine PySem.W.callWith_K (first := []) (h₀ := X.base) I.ok.mod.kin hk (thn (ha.run qc pins _ σ H _ (I.tok _) h) fun us s2 h2 => ?_) hst hps
  obtain ⟨vs, H2, I2, r, q2⟩ := h2
  exact ⟨I2.kIn, run_fn (us := us) (vs := vs) (dvs := []) F hr hb .nil hx I2 r (by rw [List.append_nil]; rw [List.append_nil] at q2; exact q2)⟩
end
end L2
namespace L2
open PySem PySem.Spec PyProof.Rows
theorem c_sdput {σ : St} {H : Hp} {D : Ends} {td ty tv : TE} (h : tv σ H fun v H1 => td σ H1 fun x H2 => ty σ H2 fun y H3 => ∃ a H4, x = .ref a ∧ DPut H3 a y v H4 ∧ D.nx σ H4) : sDPut td ty tv D σ H := h
theorem c_dget {σ : St} {H : Hp} {Q : VK} {td ty : TE} (h : td σ H fun x H1 => ty σ H1 fun y H2 => ∃ a v, x = .ref a ∧ DGet H2 a y (some v) ∧ Q v H2) : tDGet td ty σ H Q := h
end L2
namespace L2
open PySem PySem.Spec PyProof.Rows
section
variable {σ : St} {H : Hp} {Q : VK} {ta : TA} {te : TE} {sp : Sp} {E : St → XK} {C a : Addr} {cls : Value} {d : Option Addr} {f : Str} {W : XK}
theorem c_callS (h : ta σ H fun vs H1 => sp vs H1 Q (E σ)) : tCallS sp E ta σ H Q := h
theorem c_xf (h : te σ H fun x H1 => x = .ref a ∧ cls = .ref C ∧ ∃ (dd : Addr) (fs : List (Str × V)) (v : V), d = some dd ∧ H1 dd = some (.xd fs) ∧ fs.lookup f = some v ∧ Q v H1) : tXf a cls d C f te σ H Q := h
/-- what the making of an error that is raised asks -/
def RaP (C : Addr) (sp : Sp) (vs : List V) (H1 : Hp) (W : XK) : Prop := vs.length ≤ 1000 ∧ ∀ a, H1 a = none → sp (.ref a :: (vs ++ [])) (upd H1 a (exo a C none))
  (fun v H2 => v = .non ∧ ∃ (d : Addr) (fs : List (Str × V)), H2 a = some (exo a C (some d)) ∧ H2 d = some (exd d fs) ∧ H1 d = none ∧ W (.ref C) (some d) (upd (del H2 a) d (.xd fs))) (fun _ _ _ => False)
theorem c_mko (h : ta σ H fun vs H1 => RaP C sp vs H1 W) : tMkO C sp [] ta σ H W := h
theorem raise1 {u : V} (k : ∀ d H2, H d = none → Evl.Ex H H2 → H2 d = some (.xd [(f, u)]) → W (.ref C) (some d) H2) : RaP C (sp_err1 C f) [u] H W := by
  refine ⟨by simp, fun a ha => ⟨a, u, rfl, upd_same, fun d H2 hd nda hk h2a h2d => ⟨rfl, d, _, h2a, h2d, ?_, k d _ ?_ (fun b o hb => ?_) upd_same⟩⟩⟩
  · rw [upd_ne nda] at hd; exact hd
  · rw [upd_ne nda] at hd; exact hd
  · have nba : b ≠ a := ne_of_none hb ha
    have nbd : b ≠ d := by
      rw [upd_ne nda] at hd
      exact ne_of_none hb hd
    rw [upd_ne nbd, del_ne nba, hk b nba nbd, upd_ne nba]
    exact hb
end
end L2

/-! ### dicts: in, get -/
namespace L2
open PySem PySem.Spec PyProof.Rows
section
variable {X : Cx}
def rInDk : R2 := fun y x H Q => ∃ a o, x = .ref a ∧ DGet H a y o ∧ Q (.bl o.isSome) H
def rNotInDk : R2 := fun y x H Q => ∃ a o, x = .ref a ∧ DGet H a y o ∧ Q (.bl (!o.isSome)) H
theorem op_inDk (hu : X.A.units + 1 < cLine) : OpR X (compareOp .In) rInDk := by
  intro pins s σ H y x v u Q I ry rx h
  obtain ⟨a, o, rfl, g, q⟩ := h
  cases (show u = Value.ref a from rx)
  exact d_in hu I g ry fun s3 I3 => ⟨.bl o.isSome, H, I3, rfl, q⟩
theorem op_notInDk (hu : X.A.units + 1 < cLine) : OpR X (compareOp .NotIn) rNotInDk := by
  intro pins s σ H y x v u Q I ry rx h
  obtain ⟨a, o, rfl, g, q⟩ := h
  cases (show u = Value.ref a from rx)
  exact d_notIn hu I g ry fun s3 I3 => ⟨.bl (!o.isSome), H, I3, rfl, q⟩
end
end L2
/-! ### o.m(..) in a try, where m may raise -/
namespace L2
open PySem PySem.Spec PyProof.Rows
section
variable {X : Cx} {CX : CXT} {k : Nat} {sp : Addr → Sp} {E : St → XK} {m : Str} {o a1 : Expr} {ar : List Expr} {te : TE} {ta : TA} {qa qc : Pos} {M : Addr → Prop}
def tMPS (M : Addr → Prop) (m : Str) (sp : Addr → Sp) (E : St → XK) (te : TE) (ta : TA) : TE := fun σ H Q => te σ H fun x H1 => ∃ a C dx fs, x = .ref a ∧ H1 a = some (.ins C dx fs) ∧ M C ∧ fs.lookup m = none ∧ ta σ H1 fun vs H2 => sp C (x :: vs) H2 Q (E σ)
theorem pe_methPS {pl : Sem Bool} (he : PE X o te) (hM : ∀ C, M C → MOk X.prog X.w X.K X.mg X.base CX k C m (sp C)) (hr : Room k X.A) (hx : ∀ σ, PassesAt CX X σ (E σ)) (ha : PA X (a1 :: ar) ta)
    (hst : starEach (a1 :: ar) X.env = (false, eval a1 X.env) :: starEach ar X.env := by rfl) (hps : (backTo qc (starEach ar X.env)).any (·.1) = false := by rfl)
    (hcal : eval (.Call (.Attribute o m qa) (a1 :: ar) [] qc) X.env = (eval o X.env >>= fun ov => standAt qa.atName >>= fun _ => holding [ov] (getMethod ov m pl) >>= fun r => callWith qc r.1 r.2 (backTo qc (starEach (a1 :: ar) X.env)) (backToKw qc (keywordEach [] X.env))) := by rfl) :
    PE X (.Call (.Attribute o m qa) (a1 :: ar) [] qc) (tMPS M m sp E te ta) := by
  refine ⟨fun pins s σ H Q I h => ?_⟩
  refine PySem.W.methodCall_KW (pl := pl) (thn (he.run pins s σ H _ I h) fun u s1 hh => ?_) hcal
  obtain ⟨x, H1, I1, rx, a, C, dx, fs, rfl, ea, hC, l, q⟩ := hh
  obtain rfl : u = Value.ref a := rx
  obtain ⟨cl, f, fd, ps, hm, F, hb⟩ := hM C hC
  refine getmeth_ok I1 ea cl hm l ?_
  refine PySem.W.callWith_K (first := [.ref a]) (h₀ := X.base) I.ok.mod.kin hm.kp (thn (ha.run qc pins s1 σ H1 _ I1 q) fun us s2 h2 => ?_) hst hps
  obtain ⟨vs, H2, I2, r, q2⟩ := h2
  exact ⟨I2.kIn, run_fnS (us := .ref a :: us) (vs := .ref a :: vs) F hr hb (hx σ) I2 (.cons rfl r) q2⟩
theorem c_mps {σ : St} {H : Hp} {Q : VK} (h : te σ H fun x H1 => ∃ a C dx fs, x = .ref a ∧ H1 a = some (.ins C dx fs) ∧ M C ∧ fs.lookup m = none ∧ ta σ H1 fun vs H2 => sp C (x :: vs) H2 Q (E σ)) : tMPS M m sp E te ta σ H Q := h
end
end L2

/-! ### the end over a head by facts -/
namespace HandSHeadRun
/-- a list of numbers, reckoned first -/
def frL {α : Type} : List Nat → (List Nat → α) → α
  | [], k => k []
  | a :: as, k => frNat a fun b => frL as fun bs => k (b :: bs)
end HandSHeadRun
namespace L2
open PySem PySem.Spec PyProof.Rows
/-- as walk_ofE, the promise over A with nothing shown -/
theorem walk_ofEG {l : PySem.W.OpenLaw} {n k : Nat} {q : Program} {loose : List Str} {XP : (Str → Option Value) → Heap → Prop} {YP : World → Heap → Prop} {d : DefRec} {CX : CXT} {x : Str} (hn : l.most = some n) (hn2 : n ≤ sizeLine) (hdf : d.params.defaults = []) (hr : Room k callerA)
    (F : ∀ (w : World) (mg : Str → Option Value) (fa : Addr) (h : Heap), YP w h → h.Ns mainGlobals mg → mg d.name = some (.ref fa) → ∃ (K : PySem.W.Frag) (fd : FuncData) (sp : Sp), K.In h ∧ (∀ (s : Shared) (u : Value), BindsTo s fd ⟨[u], []⟩ [(x, u)]) ∧
        (∀ (H : Hp) (a : Addr) (ns : List Int), ns.length ≤ n → Only H → SqL K H a (ns.map V.int) → sp [.ref a] H (fun v _ => v = .bl true) fun _ _ _ => False) ∧ ∀ base : Heap, K.In base → base.Ns mainGlobals mg → FnG l.prog w K mg base CX k fa fd [x] sp)
    (hCX : ∀ (H : Hp) (s : Shared) (e : Value) (s' : Shared), CX [] H s (fun _ _ _ => False) e s' → False) : PySem.W.WalkO q loose XP YP l.row.toRowW d [] (fun f vs => PySem.call f vs) := by
  refine Att.attach_call hn hdf fun w s0 z1 mg mb fa o pm cd doc a vs ns G Y ho hd hcd hmg hobj hints hlen hg => ?_
  obtain ⟨K, fd, sp, KX, hb, hsp, hF⟩ := F w mg fa _ Y G.T.g hmg
  exact law_callG KX G.T.g G.T.b G.T.builtins G.T.nolimit hg hobj hints (Nat.le_trans hlen hn2) hr hF hb (fun H hO hS => hsp H a ns hlen hO hS) fun H e s' => hCX H z1 e s'
theorem fun_ofD {K : PySem.W.Frag} {x qual : Str} {st : Stmt} {f : Addr} {fd : FuncData} (F : FunD K x qual (defArgs st) (defBody st) (defScope st) [] [] f fd) : Fun K x qual st f fd := by
  obtain ⟨oc, od, dV, kV, doc, pm, an, cdv, ct, osl, e, lk, hcd, hD, _⟩ := F.ex
  rcases hD with ⟨_, rfl⟩ | ⟨z, _⟩
  · exact ⟨⟨oc, od, kV, doc, pm, an, cdv, ct, osl, e, lk, hcd⟩, F.kp⟩
  · exact absurd rfl z
theorem allAt {l : List Bool} (h : l.all id = true) (i : Nat) {b : Bool} (e : l[i]? = some b) : b = true := List.all_eq_true.mp h b (List.mem_of_getElem? e)
def strB (v : Value) (s : Str) : Bool := match v with
  | .str t _ => decide (t = s)
  | _ => false
def strsB : List Value → List Str → Bool
  | [], [] => true
  | v :: vs, s :: ss => strB v s && strsB vs ss
  | _, _ => false
theorem strsB_ok : ∀ {vs : List Value} {ss : List Str}, strsB vs ss = true → Vals (ss.map V.str) vs
  | [], [], _ => .nil
  | v :: vs, s :: ss, h => by
    rw [strsB, Bool.and_eq_true] at h
    refine .cons ?_ (strsB_ok h.2)
    cases v with
    | str t tk => exact ⟨tk, by rw [of_decide_eq_true (show decide (t = s) = true from h.1)]⟩
    | _ => exact absurd h.1 Bool.false_ne_true
  | [], _ :: _, h => absurd h Bool.false_ne_true
  | _ :: _, [], h => absurd h Bool.false_ne_true
/-- a tuple of texts of the written part -/
def tupB (K : PySem.W.Frag) (a : Addr) (ss : List Str) : Bool := match K.lookup a with
  | some ⟨.type c, _, .seq its _, _⟩ => decide (c = "tuple") && (decide (its.size ≤ 1000) && strsB its.toList ss)
  | _ => false
theorem tupB_ok {K : PySem.W.Frag} {a : Addr} {ss : List Str} (h : tupB K a ss = true) (H : Hp) : SqT K H a (ss.map V.str) := by
  unfold tupB at h
  split at h
  · rename_i c d its n sl e
    simp only [Bool.and_eq_true, decide_eq_true_eq] at h
    refine .inr ⟨_, its, n, e, ?_, rfl, Nat.le_trans h.2.1 (by decide), strsB_ok h.2.2⟩
    rw [h.1]
  · cases h
end L2
namespace L2
open PySem PySem.Spec PyProof.Rows
/-- where the named things stand: the module's names, classes and their tables, defs and their code -/
def nsOf (g : Addr → Option Obj) (C : Addr) : Addr := match g C with
  | some ⟨_, _, .cls cd, _⟩ => cd.ns
  | _ => 0
def cdOf (g : Addr → Option Obj) (f : Addr) : Addr := match g f with
  | some ⟨_, _, .func fd, _⟩ => (match fd.code with
    | .ref c => c
    | _ => 0)
  | _ => 0
def adrK (g : Addr → Option Obj) (cs ts : List Str) (fs : List (Str × Option Str)) : List Addr :=
  HandSHeadRun.frL (cs.map (He.ga (He.frG g [mainGlobals]))) fun ca => HandSHeadRun.frL (ca.map (nsOf g)) fun na =>
    HandSHeadRun.frL (fs.map (He.fAd (He.frG g (mainGlobals :: (ca ++ na))))) fun fa => HandSHeadRun.frL (fa.map (cdOf g)) fun ka =>
      HandSHeadRun.frL (ts.map (He.ga (He.frG g [mainGlobals]))) fun ta => mainGlobals :: cStatics :: (ca ++ (na ++ (fa ++ (ka ++ ta))))
def hkObs (cs ts : List Str) (fa : List He.Fa) (fn : List He.DefD) (ex : PySem.W.Frag → Bool) (g : Addr → Option Obj) : He.AlD × Bool := (He.obsD fa fn (He.frG g (adrK g cs ts (fn.map (·.at_)))), ex (He.frG g (adrK g cs ts (fn.map (·.at_)))))
def hookK (cs ts : List Str) (fa : List He.Fa) (fn : List He.DefD) (ex : PySem.W.Frag → Bool) : PySem.W.Hook where
  α := He.AlD × Bool
  obs := fun s => hkObs cs ts fa fn ex s.heap.get?
  val := fun _ => (He.valD fn, true)
  says := fun _ h => ∃ K : PySem.W.Frag, K.In h ∧ He.SaysD fa fn K ∧ ex K = true
  of := fun _ s e => ⟨_, He.frG_in, congrArg (fun z : He.AlD × Bool => z.1) e, congrArg (fun z : He.AlD × Bool => z.2) e⟩
  keeps := fun _ _ _ ⟨K, hK, c⟩ k => ⟨K, PySem.W.Frag.In.keeps hK k, c⟩
theorem hkObs_eq {cs ts : List Str} {fa : List He.Fa} {fn : List He.DefD} {ex : PySem.W.Frag → Bool} {g : Addr → Option Obj} {s : Shared} (h : ∀ a, g a = s.heap.get? a) : hkObs cs ts fa fn ex g = (hookK cs ts fa fn ex).obs s := by
  have e : g = s.heap.get? := funext h
  rw [e] <;> rfl
end L2

open L2 in
local macro_rules | `(tactic| walk_at "s") => `(tactic| with_reducible (first
  | refine c_var (by with_unfolding_all rfl) ?_ | refine c_c ?_ | refine c_op ?_ | refine c_test ?_ | refine c_cons ?_ | refine c_nil ?_ | refine c_call ?_ | refine c_cb ?_ | refine c_seq ?_ | refine c_asg ?_ | refine c_gName ?_ | refine c_ret ?_ | refine c_ifS ?_
  | refine c_nx ?_ | refine c_rt ?_ | refine c_bk ?_ | refine c_ct ?_ | refine c_next ?_ | refine c_drop ?_ | refine c_un ?_ | refine c_b ?_ | refine c_and ?_ | refine c_or ?_ | refine c_not ?_ | refine c_andV ?_ | refine c_orV ?_ | refine c_notV ?_ | refine c_if ?_
  | refine c_tup ?_ | refine c_lst ?_ | refine c_sl ?_ | refine c_noPart ?_ | refine c_part ?_ | refine c_bm ?_ | refine c_bm0 ?_ | refine c_m0 ?_ | refine c_m1 ?_ | refine c_chain ?_ | refine c_retN ?_ | refine c_gCons ?_ | refine c_gNil ?_ | refine c_gSub ?_
  | refine c_I0 ?_ | refine c_U ?_ | refine c_eq (by with_unfolding_all rfl) ?_ | refine c_ne (by with_unfolding_all rfl) ?_ | refine c_yes ?_ | refine c_forS ?_ | refine c_lcSi ?_ | refine c_forR1 ?_ | refine c_forR2 ?_ | refine c_forL ?_ | refine c_forT ?_ | refine c_lcR1 ?_ | refine c_lcLi ?_ | refine c_lcTi ?_ | refine c_forE ?_ | refine c_lcZi ?_ | refine c_xfv ?_ | refine c_mkv ?_ | refine c_mp ?_ | refine c_fld ?_ | refine c_sfld ?_ | refine c_make ?_ | refine c_ckw ?_ | refine c_sdput ?_ | refine c_dget ?_ | refine c_callS ?_ | refine c_xf ?_ | refine c_mko ?_ | refine c_break ?_ | refine c_cont ?_ | refine c_orT ?_ | refine c_andT ?_ | refine c_notT ?_ | refine iteT ?_ | refine iteF ?_ | refine if_nt ?_ | refine if_nf ?_
  | refine ⟨_, rfl, ?_⟩ | refine ⟨_, _, rfl, rfl, ?_⟩ | refine And.intro rfl ?_))
local macro_rules | `(tactic| walk_at "ss") => `(tactic| repeat (walk_at "s"))

namespace Toy
open PySem L2
open Evl hiding RetV RetL
def top (i : Nat) : Stmt := PySem.Challenge.pw_beatrows_k33_rows_renamed.main.body.getD i (.Pass ⟨0, 0, 0, 0⟩)
abbrev s_NoName_init : Stmt := (cBody (top 4)).getD 0 (.Pass ⟨0, 0, 0, 0⟩)
abbrev s_NoEquation_init : Stmt := (cBody (top 6)).getD 0 (.Pass ⟨0, 0, 0, 0⟩)
abbrev s_is_whole : Stmt := top 13
abbrev s_is_within : Stmt := top 14
abbrev s_is_name : Stmt := top 15
abbrev s_is_pointed : Stmt := top 16
abbrev s_is_value : Stmt := top 17
abbrev s_ops_told : Stmt := top 21
abbrev s_Term_parts : Stmt := (cBody (top 24)).getD 0 (.Pass ⟨0, 0, 0, 0⟩)
abbrev s_Term_names : Stmt := (cBody (top 24)).getD 1 (.Pass ⟨0, 0, 0, 0⟩)
abbrev s_Term_levels : Stmt := (cBody (top 24)).getD 2 (.Pass ⟨0, 0, 0, 0⟩)
abbrev s_Term_renamed : Stmt := (cBody (top 24)).getD 5 (.Pass ⟨0, 0, 0, 0⟩)
abbrev s_need_term : Stmt := top 25
abbrev s_Name_init : Stmt := (cBody (top 26)).getD 0 (.Pass ⟨0, 0, 0, 0⟩)
abbrev s_Name_names : Stmt := (cBody (top 26)).getD 1 (.Pass ⟨0, 0, 0, 0⟩)
abbrev s_Name_renamed : Stmt := (cBody (top 26)).getD 3 (.Pass ⟨0, 0, 0, 0⟩)
abbrev s_Name_told : Stmt := (cBody (top 26)).getD 4 (.Pass ⟨0, 0, 0, 0⟩)
abbrev s_Value_init : Stmt := (cBody (top 27)).getD 0 (.Pass ⟨0, 0, 0, 0⟩)
abbrev s_Value_told : Stmt := (cBody (top 27)).getD 2 (.Pass ⟨0, 0, 0, 0⟩)
abbrev s_Two_init : Stmt := (cBody (top 28)).getD 0 (.Pass ⟨0, 0, 0, 0⟩)
abbrev s_Two_parts : Stmt := (cBody (top 28)).getD 1 (.Pass ⟨0, 0, 0, 0⟩)
abbrev s_Two_renamed : Stmt := (cBody (top 28)).getD 3 (.Pass ⟨0, 0, 0, 0⟩)
abbrev s_Two_told : Stmt := (cBody (top 28)).getD 4 (.Pass ⟨0, 0, 0, 0⟩)
abbrev s_Not_init : Stmt := (cBody (top 29)).getD 0 (.Pass ⟨0, 0, 0, 0⟩)
abbrev s_Not_parts : Stmt := (cBody (top 29)).getD 1 (.Pass ⟨0, 0, 0, 0⟩)
abbrev s_Not_renamed : Stmt := (cBody (top 29)).getD 3 (.Pass ⟨0, 0, 0, 0⟩)
abbrev s_Not_told : Stmt := (cBody (top 29)).getD 4 (.Pass ⟨0, 0, 0, 0⟩)
abbrev s_Pick_init : Stmt := (cBody (top 30)).getD 0 (.Pass ⟨0, 0, 0, 0⟩)
abbrev s_Pick_parts : Stmt := (cBody (top 30)).getD 1 (.Pass ⟨0, 0, 0, 0⟩)
abbrev s_Pick_renamed : Stmt := (cBody (top 30)).getD 3 (.Pass ⟨0, 0, 0, 0⟩)
abbrev s_Pick_told : Stmt := (cBody (top 30)).getD 4 (.Pass ⟨0, 0, 0, 0⟩)
abbrev s_simple_of : Stmt := top 31
abbrev s_made_of_told : Stmt := top 32
abbrev s_term_of : Stmt := top 33
abbrev s_new_name : Stmt := top 35
abbrev s_each_once : Stmt := top 36
abbrev s_Equation_init : Stmt := (cBody (top 37)).getD 0 (.Pass ⟨0, 0, 0, 0⟩)
abbrev s_Equation_told : Stmt := (cBody (top 37)).getD 1 (.Pass ⟨0, 0, 0, 0⟩)
abbrev s_Equation_tells : Stmt := (cBody (top 37)).getD 2 (.Pass ⟨0, 0, 0, 0⟩)
abbrev s_Equation_names : Stmt := (cBody (top 37)).getD 3 (.Pass ⟨0, 0, 0, 0⟩)
abbrev s_Equation_term : Stmt := (cBody (top 37)).getD 4 (.Pass ⟨0, 0, 0, 0⟩)
abbrev s_Equation_put_otherwise : Stmt := (cBody (top 37)).getD 6 (.Pass ⟨0, 0, 0, 0⟩)
abbrev s_Equation_renamed : Stmt := (cBody (top 37)).getD 7 (.Pass ⟨0, 0, 0, 0⟩)
abbrev s_Plain_init : Stmt := (cBody (top 38)).getD 0 (.Pass ⟨0, 0, 0, 0⟩)
abbrev s_Plain_names : Stmt := (cBody (top 38)).getD 1 (.Pass ⟨0, 0, 0, 0⟩)
abbrev s_Plain_term : Stmt := (cBody (top 38)).getD 2 (.Pass ⟨0, 0, 0, 0⟩)
abbrev s_Plain_put_otherwise : Stmt := (cBody (top 38)).getD 3 (.Pass ⟨0, 0, 0, 0⟩)
abbrev s_When_names : Stmt := (cBody (top 40)).getD 0 (.Pass ⟨0, 0, 0, 0⟩)
abbrev s_When_put_otherwise : Stmt := (cBody (top 40)).getD 1 (.Pass ⟨0, 0, 0, 0⟩)
abbrev s_Same_tells : Stmt := (cBody (top 43)).getD 0 (.Pass ⟨0, 0, 0, 0⟩)
abbrev s_Same_names : Stmt := (cBody (top 43)).getD 1 (.Pass ⟨0, 0, 0, 0⟩)
abbrev s_Same_put_otherwise : Stmt := (cBody (top 43)).getD 2 (.Pass ⟨0, 0, 0, 0⟩)
abbrev s_Call_tells : Stmt := (cBody (top 44)).getD 0 (.Pass ⟨0, 0, 0, 0⟩)
abbrev s_Call_names : Stmt := (cBody (top 44)).getD 1 (.Pass ⟨0, 0, 0, 0⟩)
abbrev s_Call_put_otherwise : Stmt := (cBody (top 44)).getD 3 (.Pass ⟨0, 0, 0, 0⟩)
abbrev s_are_pointed : Stmt := top 45
abbrev s_is_valued : Stmt := top 46
abbrev s_plain_of : Stmt := top 47
abbrev s_valued_of : Stmt := top 48
abbrev s_call_of : Stmt := top 49
abbrev s_made_of : Stmt := top 50
abbrev s_equation_of : Stmt := top 51
abbrev s_cell_at_l : Stmt := top 53
abbrev s_box_l : Stmt := top 54
abbrev s_take_l : Stmt := top 55
abbrev s_names_l : Stmt := top 56
abbrev s_value_l : Stmt := top 57
abbrev s_term_l : Stmt := top 58
abbrev s_row_l : Stmt := top 59
abbrev s_term_names_l : Stmt := top 60
abbrev s_once_l : Stmt := top 61
abbrev s_mentions_l : Stmt := top 62
abbrev s_tells_l : Stmt := top 63
abbrev s_term_renamed_l : Stmt := top 64
abbrev s_renamed_l : Stmt := top 65
abbrev s_calls_l : Stmt := top 66
abbrev s_refused_l : Stmt := top 67
abbrev s_lacking_right_l : Stmt := top 68
abbrev s_back_l : Stmt := top 69
abbrev s_law : Stmt := top 70
/-- where the defs stand -/
structure Adr where
  f_NoName_init : Addr
  fd_NoName_init : FuncData
  f_NoEquation_init : Addr
  fd_NoEquation_init : FuncData
  f_is_whole : Addr
  fd_is_whole : FuncData
  f_is_within : Addr
  fd_is_within : FuncData
  f_is_name : Addr
  fd_is_name : FuncData
  f_is_pointed : Addr
  fd_is_pointed : FuncData
  f_is_value : Addr
  fd_is_value : FuncData
  f_ops_told : Addr
  fd_ops_told : FuncData
  f_Term_parts : Addr
  fd_Term_parts : FuncData
  f_Term_names : Addr
  fd_Term_names : FuncData
  f_Term_levels : Addr
  fd_Term_levels : FuncData
  f_Term_renamed : Addr
  fd_Term_renamed : FuncData
  f_need_term : Addr
  fd_need_term : FuncData
  f_Name_init : Addr
  fd_Name_init : FuncData
  f_Name_names : Addr
  fd_Name_names : FuncData
  f_Name_renamed : Addr
  fd_Name_renamed : FuncData
  f_Name_told : Addr
  fd_Name_told : FuncData
  f_Value_init : Addr
  fd_Value_init : FuncData
  f_Value_told : Addr
  fd_Value_told : FuncData
  f_Two_init : Addr
  fd_Two_init : FuncData
  f_Two_parts : Addr
  fd_Two_parts : FuncData
  f_Two_renamed : Addr
  fd_Two_renamed : FuncData
  f_Two_told : Addr
  fd_Two_told : FuncData
  f_Not_init : Addr
  fd_Not_init : FuncData
  f_Not_parts : Addr
  fd_Not_parts : FuncData
  f_Not_renamed : Addr
  fd_Not_renamed : FuncData
  f_Not_told : Addr
  fd_Not_told : FuncData
  f_Pick_init : Addr
  fd_Pick_init : FuncData
  f_Pick_parts : Addr
  fd_Pick_parts : FuncData
  f_Pick_renamed : Addr
  fd_Pick_renamed : FuncData
  f_Pick_told : Addr
  fd_Pick_told : FuncData
  f_simple_of : Addr
  fd_simple_of : FuncData
  f_made_of_told : Addr
  fd_made_of_told : FuncData
  f_term_of : Addr
  fd_term_of : FuncData
  f_new_name : Addr
  fd_new_name : FuncData
  f_each_once : Addr
  fd_each_once : FuncData
  f_Equation_init : Addr
  fd_Equation_init : FuncData
  f_Equation_told : Addr
  fd_Equation_told : FuncData
  f_Equation_tells : Addr
  fd_Equation_tells : FuncData
  f_Equation_names : Addr
  fd_Equation_names : FuncData
  f_Equation_term : Addr
  fd_Equation_term : FuncData
  f_Equation_put_otherwise : Addr
  fd_Equation_put_otherwise : FuncData
  f_Equation_renamed : Addr
  fd_Equation_renamed : FuncData
  f_Plain_init : Addr
  fd_Plain_init : FuncData
  f_Plain_names : Addr
  fd_Plain_names : FuncData
  f_Plain_term : Addr
  fd_Plain_term : FuncData
  f_Plain_put_otherwise : Addr
  fd_Plain_put_otherwise : FuncData
  f_When_names : Addr
  fd_When_names : FuncData
  f_When_put_otherwise : Addr
  fd_When_put_otherwise : FuncData
  f_Same_tells : Addr
  fd_Same_tells : FuncData
  f_Same_names : Addr
  fd_Same_names : FuncData
  f_Same_put_otherwise : Addr
  fd_Same_put_otherwise : FuncData
  f_Call_tells : Addr
  fd_Call_tells : FuncData
  f_Call_names : Addr
  fd_Call_names : FuncData
  f_Call_put_otherwise : Addr
  fd_Call_put_otherwise : FuncData
  f_are_pointed : Addr
  fd_are_pointed : FuncData
  f_is_valued : Addr
  fd_is_valued : FuncData
  f_plain_of : Addr
  fd_plain_of : FuncData
  f_valued_of : Addr
  fd_valued_of : FuncData
  f_call_of : Addr
  fd_call_of : FuncData
  f_made_of : Addr
  fd_made_of : FuncData
  f_equation_of : Addr
  fd_equation_of : FuncData
  f_cell_at_l : Addr
  fd_cell_at_l : FuncData
  f_box_l : Addr
  fd_box_l : FuncData
  f_take_l : Addr
  fd_take_l : FuncData
  f_names_l : Addr
  fd_names_l : FuncData
  f_value_l : Addr
  fd_value_l : FuncData
  f_term_l : Addr
  fd_term_l : FuncData
  f_row_l : Addr
  fd_row_l : FuncData
  f_term_names_l : Addr
  fd_term_names_l : FuncData
  f_once_l : Addr
  fd_once_l : FuncData
  f_mentions_l : Addr
  fd_mentions_l : FuncData
  f_tells_l : Addr
  fd_tells_l : FuncData
  f_term_renamed_l : Addr
  fd_term_renamed_l : FuncData
  f_renamed_l : Addr
  fd_renamed_l : FuncData
  f_calls_l : Addr
  fd_calls_l : FuncData
  f_refused_l : Addr
  fd_refused_l : FuncData
  f_lacking_right_l : Addr
  fd_lacking_right_l : FuncData
  f_back_l : Addr
  fd_back_l : FuncData
  f_law : Addr
  fd_law : FuncData
  a_OPS : Addr
  a_OWN : Addr
  c_BeatError : Addr
  c_NoName : Addr
  c_NoEquation : Addr
  c_Term : Addr
  c_Name : Addr
  c_Value : Addr
  c_Two : Addr
  c_Not : Addr
  c_Pick : Addr
  c_Equation : Addr
  c_Plain : Addr
  c_Before : Addr
  c_When : Addr
  c_Hold : Addr
  c_Like : Addr
  c_Same : Addr
  c_Call : Addr
structure Txt (K : PySem.W.Frag) (mg : Str → Option Value) (Z : Adr) : Prop where
  F_NoName_init : Fun K "__init__" "NoName.__init__" s_NoName_init Z.f_NoName_init Z.fd_NoName_init
  b_NoName_init : Binds K Z.fd_NoName_init ["self", "found"] []
  F_NoEquation_init : Fun K "__init__" "NoEquation.__init__" s_NoEquation_init Z.f_NoEquation_init Z.fd_NoEquation_init
  b_NoEquation_init : Binds K Z.fd_NoEquation_init ["self", "found"] []
  F_is_whole : Fun K "is_whole" "is_whole" s_is_whole Z.f_is_whole Z.fd_is_whole
  b_is_whole : Binds K Z.fd_is_whole ["thing"] []
  g_is_whole : mg "is_whole" = some (.ref Z.f_is_whole)
  F_is_within : Fun K "is_within" "is_within" s_is_within Z.f_is_within Z.fd_is_within
  b_is_within : Binds K Z.fd_is_within ["thing", "low", "high"] []
  g_is_within : mg "is_within" = some (.ref Z.f_is_within)
  F_is_name : Fun K "is_name" "is_name" s_is_name Z.f_is_name Z.fd_is_name
  b_is_name : Binds K Z.fd_is_name ["thing"] []
  g_is_name : mg "is_name" = some (.ref Z.f_is_name)
  F_is_pointed : Fun K "is_pointed" "is_pointed" s_is_pointed Z.f_is_pointed Z.fd_is_pointed
  b_is_pointed : Binds K Z.fd_is_pointed ["thing"] []
  g_is_pointed : mg "is_pointed" = some (.ref Z.f_is_pointed)
  F_is_value : Fun K "is_value" "is_value" s_is_value Z.f_is_value Z.fd_is_value
  b_is_value : Binds K Z.fd_is_value ["thing"] []
  g_is_value : mg "is_value" = some (.ref Z.f_is_value)
  F_ops_told : Fun K "ops_told" "ops_told" s_ops_told Z.f_ops_told Z.fd_ops_told
  b_ops_told : Binds K Z.fd_ops_told [] []
  g_ops_told : mg "ops_told" = some (.ref Z.f_ops_told)
  F_Term_parts : Fun K "parts" "Term.parts" s_Term_parts Z.f_Term_parts Z.fd_Term_parts
  b_Term_parts : Binds K Z.fd_Term_parts ["self"] []
  y_Term_parts : PySem.W.isFn K (.ref Z.f_Term_parts) = true
  F_Term_names : Fun K "names" "Term.names" s_Term_names Z.f_Term_names Z.fd_Term_names
  b_Term_names : Binds K Z.fd_Term_names ["self"] []
  y_Term_names : PySem.W.isFn K (.ref Z.f_Term_names) = true
  F_Term_levels : Fun K "levels" "Term.levels" s_Term_levels Z.f_Term_levels Z.fd_Term_levels
  b_Term_levels : Binds K Z.fd_Term_levels ["self"] []
  y_Term_levels : PySem.W.isFn K (.ref Z.f_Term_levels) = true
  F_Term_renamed : Fun K "renamed" "Term.renamed" s_Term_renamed Z.f_Term_renamed Z.fd_Term_renamed
  b_Term_renamed : Binds K Z.fd_Term_renamed ["self", "names"] []
  y_Term_renamed : PySem.W.isFn K (.ref Z.f_Term_renamed) = true
  F_need_term : Fun K "need_term" "need_term" s_need_term Z.f_need_term Z.fd_need_term
  b_need_term : Binds K Z.fd_need_term ["thing"] []
  g_need_term : mg "need_term" = some (.ref Z.f_need_term)
  F_Name_init : Fun K "__init__" "Name.__init__" s_Name_init Z.f_Name_init Z.fd_Name_init
  b_Name_init : Binds K Z.fd_Name_init ["self", "name"] []
  y_Name_init : PySem.W.isFn K (.ref Z.f_Name_init) = true
  F_Name_names : Fun K "names" "Name.names" s_Name_names Z.f_Name_names Z.fd_Name_names
  b_Name_names : Binds K Z.fd_Name_names ["self"] []
  y_Name_names : PySem.W.isFn K (.ref Z.f_Name_names) = true
  F_Name_renamed : Fun K "renamed" "Name.renamed" s_Name_renamed Z.f_Name_renamed Z.fd_Name_renamed
  b_Name_renamed : Binds K Z.fd_Name_renamed ["self", "names"] []
  y_Name_renamed : PySem.W.isFn K (.ref Z.f_Name_renamed) = true
  F_Name_told : Fun K "told" "Name.told" s_Name_told Z.f_Name_told Z.fd_Name_told
  b_Name_told : Binds K Z.fd_Name_told ["self"] []
  y_Name_told : PySem.W.isFn K (.ref Z.f_Name_told) = true
  F_Value_init : Fun K "__init__" "Value.__init__" s_Value_init Z.f_Value_init Z.fd_Value_init
  b_Value_init : Binds K Z.fd_Value_init ["self", "value"] []
  y_Value_init : PySem.W.isFn K (.ref Z.f_Value_init) = true
  F_Value_told : Fun K "told" "Value.told" s_Value_told Z.f_Value_told Z.fd_Value_told
  b_Value_told : Binds K Z.fd_Value_told ["self"] []
  y_Value_told : PySem.W.isFn K (.ref Z.f_Value_told) = true
  F_Two_init : Fun K "__init__" "Two.__init__" s_Two_init Z.f_Two_init Z.fd_Two_init
  b_Two_init : Binds K Z.fd_Two_init ["self", "op", "one", "other"] []
  y_Two_init : PySem.W.isFn K (.ref Z.f_Two_init) = true
  F_Two_parts : Fun K "parts" "Two.parts" s_Two_parts Z.f_Two_parts Z.fd_Two_parts
  b_Two_parts : Binds K Z.fd_Two_parts ["self"] []
  y_Two_parts : PySem.W.isFn K (.ref Z.f_Two_parts) = true
  F_Two_renamed : Fun K "renamed" "Two.renamed" s_Two_renamed Z.f_Two_renamed Z.fd_Two_renamed
  b_Two_renamed : Binds K Z.fd_Two_renamed ["self", "names"] []
  y_Two_renamed : PySem.W.isFn K (.ref Z.f_Two_renamed) = true
  F_Two_told : Fun K "told" "Two.told" s_Two_told Z.f_Two_told Z.fd_Two_told
  b_Two_told : Binds K Z.fd_Two_told ["self"] []
  y_Two_told : PySem.W.isFn K (.ref Z.f_Two_told) = true
  F_Not_init : Fun K "__init__" "Not.__init__" s_Not_init Z.f_Not_init Z.fd_Not_init
  b_Not_init : Binds K Z.fd_Not_init ["self", "one"] []
  y_Not_init : PySem.W.isFn K (.ref Z.f_Not_init) = true
  F_Not_parts : Fun K "parts" "Not.parts" s_Not_parts Z.f_Not_parts Z.fd_Not_parts
  b_Not_parts : Binds K Z.fd_Not_parts ["self"] []
  y_Not_parts : PySem.W.isFn K (.ref Z.f_Not_parts) = true
  F_Not_renamed : Fun K "renamed" "Not.renamed" s_Not_renamed Z.f_Not_renamed Z.fd_Not_renamed
  b_Not_renamed : Binds K Z.fd_Not_renamed ["self", "names"] []
  y_Not_renamed : PySem.W.isFn K (.ref Z.f_Not_renamed) = true
  F_Not_told : Fun K "told" "Not.told" s_Not_told Z.f_Not_told Z.fd_Not_told
  b_Not_told : Binds K Z.fd_Not_told ["self"] []
  y_Not_told : PySem.W.isFn K (.ref Z.f_Not_told) = true
  F_Pick_init : Fun K "__init__" "Pick.__init__" s_Pick_init Z.f_Pick_init Z.fd_Pick_init
  b_Pick_init : Binds K Z.fd_Pick_init ["self", "by", "one", "other"] []
  y_Pick_init : PySem.W.isFn K (.ref Z.f_Pick_init) = true
  F_Pick_parts : Fun K "parts" "Pick.parts" s_Pick_parts Z.f_Pick_parts Z.fd_Pick_parts
  b_Pick_parts : Binds K Z.fd_Pick_parts ["self"] []
  y_Pick_parts : PySem.W.isFn K (.ref Z.f_Pick_parts) = true
  F_Pick_renamed : Fun K "renamed" "Pick.renamed" s_Pick_renamed Z.f_Pick_renamed Z.fd_Pick_renamed
  b_Pick_renamed : Binds K Z.fd_Pick_renamed ["self", "names"] []
  y_Pick_renamed : PySem.W.isFn K (.ref Z.f_Pick_renamed) = true
  F_Pick_told : Fun K "told" "Pick.told" s_Pick_told Z.f_Pick_told Z.fd_Pick_told
  b_Pick_told : Binds K Z.fd_Pick_told ["self"] []
  y_Pick_told : PySem.W.isFn K (.ref Z.f_Pick_told) = true
  F_simple_of : Fun K "simple_of" "simple_of" s_simple_of Z.f_simple_of Z.fd_simple_of
  b_simple_of : Binds K Z.fd_simple_of ["word", "thing"] []
  g_simple_of : mg "simple_of" = some (.ref Z.f_simple_of)
  F_made_of_told : Fun K "made_of_told" "made_of_told" s_made_of_told Z.f_made_of_told Z.fd_made_of_told
  b_made_of_told : Binds K Z.fd_made_of_told ["told", "left"] []
  g_made_of_told : mg "made_of_told" = some (.ref Z.f_made_of_told)
  F_term_of : Fun K "term_of" "term_of" s_term_of Z.f_term_of Z.fd_term_of
  b_term_of : Binds K Z.fd_term_of ["told"] []
  g_term_of : mg "term_of" = some (.ref Z.f_term_of)
  F_new_name : Fun K "new_name" "new_name" s_new_name Z.f_new_name Z.fd_new_name
  b_new_name : Binds K Z.fd_new_name ["names", "name"] []
  g_new_name : mg "new_name" = some (.ref Z.f_new_name)
  F_each_once : Fun K "each_once" "each_once" s_each_once Z.f_each_once Z.fd_each_once
  b_each_once : Binds K Z.fd_each_once ["names"] []
  g_each_once : mg "each_once" = some (.ref Z.f_each_once)
  F_Equation_init : Fun K "__init__" "Equation.__init__" s_Equation_init Z.f_Equation_init Z.fd_Equation_init
  b_Equation_init : Binds K Z.fd_Equation_init ["self", "row"] []
  y_Equation_init : PySem.W.isFn K (.ref Z.f_Equation_init) = true
  F_Equation_told : Fun K "told" "Equation.told" s_Equation_told Z.f_Equation_told Z.fd_Equation_told
  b_Equation_told : Binds K Z.fd_Equation_told ["self"] []
  y_Equation_told : PySem.W.isFn K (.ref Z.f_Equation_told) = true
  F_Equation_tells : Fun K "tells" "Equation.tells" s_Equation_tells Z.f_Equation_tells Z.fd_Equation_tells
  b_Equation_tells : Binds K Z.fd_Equation_tells ["self"] []
  y_Equation_tells : PySem.W.isFn K (.ref Z.f_Equation_tells) = true
  F_Equation_names : Fun K "names" "Equation.names" s_Equation_names Z.f_Equation_names Z.fd_Equation_names
  b_Equation_names : Binds K Z.fd_Equation_names ["self"] []
  y_Equation_names : PySem.W.isFn K (.ref Z.f_Equation_names) = true
  F_Equation_term : Fun K "term" "Equation.term" s_Equation_term Z.f_Equation_term Z.fd_Equation_term
  b_Equation_term : Binds K Z.fd_Equation_term ["self"] []
  y_Equation_term : PySem.W.isFn K (.ref Z.f_Equation_term) = true
  F_Equation_put_otherwise : Fun K "put_otherwise" "Equation.put_otherwise" s_Equation_put_otherwise Z.f_Equation_put_otherwise Z.fd_Equation_put_otherwise
  b_Equation_put_otherwise : Binds K Z.fd_Equation_put_otherwise ["self", "names"] []
  y_Equation_put_otherwise : PySem.W.isFn K (.ref Z.f_Equation_put_otherwise) = true
  F_Equation_renamed : Fun K "renamed" "Equation.renamed" s_Equation_renamed Z.f_Equation_renamed Z.fd_Equation_renamed
  b_Equation_renamed : Binds K Z.fd_Equation_renamed ["self", "names"] []
  y_Equation_renamed : PySem.W.isFn K (.ref Z.f_Equation_renamed) = true
  F_Plain_init : Fun K "__init__" "Plain.__init__" s_Plain_init Z.f_Plain_init Z.fd_Plain_init
  b_Plain_init : Binds K Z.fd_Plain_init ["self", "row"] []
  y_Plain_init : PySem.W.isFn K (.ref Z.f_Plain_init) = true
  F_Plain_names : Fun K "names" "Plain.names" s_Plain_names Z.f_Plain_names Z.fd_Plain_names
  b_Plain_names : Binds K Z.fd_Plain_names ["self"] []
  y_Plain_names : PySem.W.isFn K (.ref Z.f_Plain_names) = true
  F_Plain_term : Fun K "term" "Plain.term" s_Plain_term Z.f_Plain_term Z.fd_Plain_term
  b_Plain_term : Binds K Z.fd_Plain_term ["self"] []
  y_Plain_term : PySem.W.isFn K (.ref Z.f_Plain_term) = true
  F_Plain_put_otherwise : Fun K "put_otherwise" "Plain.put_otherwise" s_Plain_put_otherwise Z.f_Plain_put_otherwise Z.fd_Plain_put_otherwise
  b_Plain_put_otherwise : Binds K Z.fd_Plain_put_otherwise ["self", "names"] []
  y_Plain_put_otherwise : PySem.W.isFn K (.ref Z.f_Plain_put_otherwise) = true
  F_When_names : Fun K "names" "When.names" s_When_names Z.f_When_names Z.fd_When_names
  b_When_names : Binds K Z.fd_When_names ["self"] []
  y_When_names : PySem.W.isFn K (.ref Z.f_When_names) = true
  F_When_put_otherwise : Fun K "put_otherwise" "When.put_otherwise" s_When_put_otherwise Z.f_When_put_otherwise Z.fd_When_put_otherwise
  b_When_put_otherwise : Binds K Z.fd_When_put_otherwise ["self", "names"] []
  y_When_put_otherwise : PySem.W.isFn K (.ref Z.f_When_put_otherwise) = true
  F_Same_tells : Fun K "tells" "Same.tells" s_Same_tells Z.f_Same_tells Z.fd_Same_tells
  b_Same_tells : Binds K Z.fd_Same_tells ["self"] []
  y_Same_tells : PySem.W.isFn K (.ref Z.f_Same_tells) = true
  F_Same_names : Fun K "names" "Same.names" s_Same_names Z.f_Same_names Z.fd_Same_names
  b_Same_names : Binds K Z.fd_Same_names ["self"] []
  y_Same_names : PySem.W.isFn K (.ref Z.f_Same_names) = true
  F_Same_put_otherwise : Fun K "put_otherwise" "Same.put_otherwise" s_Same_put_otherwise Z.f_Same_put_otherwise Z.fd_Same_put_otherwise
  b_Same_put_otherwise : Binds K Z.fd_Same_put_otherwise ["self", "names"] []
  y_Same_put_otherwise : PySem.W.isFn K (.ref Z.f_Same_put_otherwise) = true
  F_Call_tells : Fun K "tells" "Call.tells" s_Call_tells Z.f_Call_tells Z.fd_Call_tells
  b_Call_tells : Binds K Z.fd_Call_tells ["self"] []
  y_Call_tells : PySem.W.isFn K (.ref Z.f_Call_tells) = true
  F_Call_names : Fun K "names" "Call.names" s_Call_names Z.f_Call_names Z.fd_Call_names
  b_Call_names : Binds K Z.fd_Call_names ["self"] []
  y_Call_names : PySem.W.isFn K (.ref Z.f_Call_names) = true
  F_Call_put_otherwise : Fun K "put_otherwise" "Call.put_otherwise" s_Call_put_otherwise Z.f_Call_put_otherwise Z.fd_Call_put_otherwise
  b_Call_put_otherwise : Binds K Z.fd_Call_put_otherwise ["self", "names"] []
  y_Call_put_otherwise : PySem.W.isFn K (.ref Z.f_Call_put_otherwise) = true
  F_are_pointed : Fun K "are_pointed" "are_pointed" s_are_pointed Z.f_are_pointed Z.fd_are_pointed
  b_are_pointed : Binds K Z.fd_are_pointed ["thing", "least"] []
  g_are_pointed : mg "are_pointed" = some (.ref Z.f_are_pointed)
  F_is_valued : Fun K "is_valued" "is_valued" s_is_valued Z.f_is_valued Z.fd_is_valued
  b_is_valued : Binds K Z.fd_is_valued ["row"] []
  g_is_valued : mg "is_valued" = some (.ref Z.f_is_valued)
  F_plain_of : Fun K "plain_of" "plain_of" s_plain_of Z.f_plain_of Z.fd_plain_of
  b_plain_of : Binds K Z.fd_plain_of ["row"] []
  g_plain_of : mg "plain_of" = some (.ref Z.f_plain_of)
  F_valued_of : Fun K "valued_of" "valued_of" s_valued_of Z.f_valued_of Z.fd_valued_of
  b_valued_of : Binds K Z.fd_valued_of ["row"] []
  g_valued_of : mg "valued_of" = some (.ref Z.f_valued_of)
  F_call_of : Fun K "call_of" "call_of" s_call_of Z.f_call_of Z.fd_call_of
  b_call_of : Binds K Z.fd_call_of ["row"] []
  g_call_of : mg "call_of" = some (.ref Z.f_call_of)
  F_made_of : Fun K "made_of" "made_of" s_made_of Z.f_made_of Z.fd_made_of
  b_made_of : Binds K Z.fd_made_of ["row"] []
  g_made_of : mg "made_of" = some (.ref Z.f_made_of)
  F_equation_of : Fun K "equation_of" "equation_of" s_equation_of Z.f_equation_of Z.fd_equation_of
  b_equation_of : Binds K Z.fd_equation_of ["told"] []
  g_equation_of : mg "equation_of" = some (.ref Z.f_equation_of)
  F_cell_at_l : Fun K "_law_cell_at" "_law_cell_at" s_cell_at_l Z.f_cell_at_l Z.fd_cell_at_l
  b_cell_at_l : Binds K Z.fd_cell_at_l ["_law_script", "_law_k"] []
  g_cell_at_l : mg "_law_cell_at" = some (.ref Z.f_cell_at_l)
  F_box_l : Fun K "_law_box" "_law_box" s_box_l Z.f_box_l Z.fd_box_l
  b_box_l : Binds K Z.fd_box_l ["_law_cell"] []
  g_box_l : mg "_law_box" = some (.ref Z.f_box_l)
  F_take_l : Fun K "_law_take" "_law_take" s_take_l Z.f_take_l Z.fd_take_l
  b_take_l : Binds K Z.fd_take_l ["_law_box_here", "_law_many"] []
  g_take_l : mg "_law_take" = some (.ref Z.f_take_l)
  F_names_l : Fun K "_law_names" "_law_names" s_names_l Z.f_names_l Z.fd_names_l
  b_names_l : Binds K Z.fd_names_l ["_law_box_here", "_law_many"] []
  g_names_l : mg "_law_names" = some (.ref Z.f_names_l)
  F_value_l : Fun K "_law_value" "_law_value" s_value_l Z.f_value_l Z.fd_value_l
  b_value_l : Binds K Z.fd_value_l ["_law_box_here"] []
  g_value_l : mg "_law_value" = some (.ref Z.f_value_l)
  F_term_l : Fun K "_law_term" "_law_term" s_term_l Z.f_term_l Z.fd_term_l
  b_term_l : Binds K Z.fd_term_l ["_law_box_here", "_law_names_here", "_law_levels"] []
  g_term_l : mg "_law_term" = some (.ref Z.f_term_l)
  F_row_l : Fun K "_law_row" "_law_row" s_row_l Z.f_row_l Z.fd_row_l
  b_row_l : Binds K Z.fd_row_l ["_law_box_here", "_law_told", "_law_names_here"] []
  g_row_l : mg "_law_row" = some (.ref Z.f_row_l)
  F_term_names_l : Fun K "_law_term_names" "_law_term_names" s_term_names_l Z.f_term_names_l Z.fd_term_names_l
  b_term_names_l : Binds K Z.fd_term_names_l ["_law_term_here"] []
  g_term_names_l : mg "_law_term_names" = some (.ref Z.f_term_names_l)
  F_once_l : Fun K "_law_once" "_law_once" s_once_l Z.f_once_l Z.fd_once_l
  b_once_l : Binds K Z.fd_once_l ["_law_names_here"] []
  g_once_l : mg "_law_once" = some (.ref Z.f_once_l)
  F_mentions_l : Fun K "_law_mentions" "_law_mentions" s_mentions_l Z.f_mentions_l Z.fd_mentions_l
  b_mentions_l : Binds K Z.fd_mentions_l ["_law_row_here"] []
  g_mentions_l : mg "_law_mentions" = some (.ref Z.f_mentions_l)
  F_tells_l : Fun K "_law_tells" "_law_tells" s_tells_l Z.f_tells_l Z.fd_tells_l
  b_tells_l : Binds K Z.fd_tells_l ["_law_row_here"] []
  g_tells_l : mg "_law_tells" = some (.ref Z.f_tells_l)
  F_term_renamed_l : Fun K "_law_term_renamed" "_law_term_renamed" s_term_renamed_l Z.f_term_renamed_l Z.fd_term_renamed_l
  b_term_renamed_l : Binds K Z.fd_term_renamed_l ["_law_term_here", "_law_calls_here"] []
  g_term_renamed_l : mg "_law_term_renamed" = some (.ref Z.f_term_renamed_l)
  F_renamed_l : Fun K "_law_renamed" "_law_renamed" s_renamed_l Z.f_renamed_l Z.fd_renamed_l
  b_renamed_l : Binds K Z.fd_renamed_l ["_law_row_here", "_law_calls_here"] []
  g_renamed_l : mg "_law_renamed" = some (.ref Z.f_renamed_l)
  F_calls_l : Fun K "_law_calls" "_law_calls" s_calls_l Z.f_calls_l Z.fd_calls_l
  b_calls_l : Binds K Z.fd_calls_l ["_law_box_here", "_law_names_here"] []
  g_calls_l : mg "_law_calls" = some (.ref Z.f_calls_l)
  F_refused_l : Fun K "_law_refused" "_law_refused" s_refused_l Z.f_refused_l Z.fd_refused_l
  b_refused_l : Binds K Z.fd_refused_l ["_law_equation", "_law_calls_here"] []
  g_refused_l : mg "_law_refused" = some (.ref Z.f_refused_l)
  F_lacking_right_l : Fun K "_law_lacking_right" "_law_lacking_right" s_lacking_right_l Z.f_lacking_right_l Z.fd_lacking_right_l
  b_lacking_right_l : Binds K Z.fd_lacking_right_l ["_law_box_here", "_law_equation", "_law_row_here", "_law_calls_here"] []
  g_lacking_right_l : mg "_law_lacking_right" = some (.ref Z.f_lacking_right_l)
  F_back_l : Fun K "_law_back" "_law_back" s_back_l Z.f_back_l Z.fd_back_l
  b_back_l : Binds K Z.fd_back_l ["_law_calls_here"] []
  g_back_l : mg "_law_back" = some (.ref Z.f_back_l)
  F_law : Fun K "law" "law" s_law Z.f_law Z.fd_law
  b_law : Binds K Z.fd_law ["_law_script"] []
  g_law : mg "law" = some (.ref Z.f_law)
  m_BeatError : mg "BeatError" = some (.ref Z.c_BeatError)
  q_BeatError : baseB K Z.c_BeatError = true
  e_BeatError : PySem.W.excIn K Z.c_BeatError [.type "ValueError", .type "Exception", .type "BaseException", .type "object"] "ValueError.__new__" = true
  k_BeatError : PySem.W.keepIn K (.ref Z.c_BeatError) = true
  w_BeatError : icB K Z.c_BeatError = true
  m_NoName : mg "NoName" = some (.ref Z.c_NoName)
  x_NoName : exB K Z.c_NoName ["found"] = true
  i_NoName : PySem.W.findIn K (.ref Z.c_NoName) "__init__" = some (some (.ref Z.f_NoName_init))
  y_NoName : PySem.W.typeIn K (.ref Z.f_NoName_init) = some (.type "function")
  m_NoEquation : mg "NoEquation" = some (.ref Z.c_NoEquation)
  x_NoEquation : exB K Z.c_NoEquation ["found"] = true
  i_NoEquation : PySem.W.findIn K (.ref Z.c_NoEquation) "__init__" = some (some (.ref Z.f_NoEquation_init))
  y_NoEquation : PySem.W.typeIn K (.ref Z.f_NoEquation_init) = some (.type "function")
  m_Term : mg "Term" = some (.ref Z.c_Term)
  m_Name : mg "Name" = some (.ref Z.c_Name)
  x_Name : tcB K Z.c_Name ["name"] = true
  i_Name : PySem.W.findIn K (.ref Z.c_Name) "__init__" = some (some (.ref Z.f_Name_init))
  h_parts_Name : PySem.W.findIn K (.ref Z.c_Name) "parts" = some (some (.ref Z.f_Term_parts))
  h_names_Name : PySem.W.findIn K (.ref Z.c_Name) "names" = some (some (.ref Z.f_Name_names))
  h_levels_Name : PySem.W.findIn K (.ref Z.c_Name) "levels" = some (some (.ref Z.f_Term_levels))
  h_told_Name : PySem.W.findIn K (.ref Z.c_Name) "told" = some (some (.ref Z.f_Name_told))
  h_renamed_Name : PySem.W.findIn K (.ref Z.c_Name) "renamed" = some (some (.ref Z.f_Name_renamed))
  m_Value : mg "Value" = some (.ref Z.c_Value)
  x_Value : tcB K Z.c_Value ["amount"] = true
  i_Value : PySem.W.findIn K (.ref Z.c_Value) "__init__" = some (some (.ref Z.f_Value_init))
  h_parts_Value : PySem.W.findIn K (.ref Z.c_Value) "parts" = some (some (.ref Z.f_Term_parts))
  h_names_Value : PySem.W.findIn K (.ref Z.c_Value) "names" = some (some (.ref Z.f_Term_names))
  h_levels_Value : PySem.W.findIn K (.ref Z.c_Value) "levels" = some (some (.ref Z.f_Term_levels))
  h_told_Value : PySem.W.findIn K (.ref Z.c_Value) "told" = some (some (.ref Z.f_Value_told))
  h_renamed_Value : PySem.W.findIn K (.ref Z.c_Value) "renamed" = some (some (.ref Z.f_Term_renamed))
  m_Two : mg "Two" = some (.ref Z.c_Two)
  x_Two : tcB K Z.c_Two ["op", "one", "second"] = true
  i_Two : PySem.W.findIn K (.ref Z.c_Two) "__init__" = some (some (.ref Z.f_Two_init))
  h_parts_Two : PySem.W.findIn K (.ref Z.c_Two) "parts" = some (some (.ref Z.f_Two_parts))
  h_names_Two : PySem.W.findIn K (.ref Z.c_Two) "names" = some (some (.ref Z.f_Term_names))
  h_levels_Two : PySem.W.findIn K (.ref Z.c_Two) "levels" = some (some (.ref Z.f_Term_levels))
  h_told_Two : PySem.W.findIn K (.ref Z.c_Two) "told" = some (some (.ref Z.f_Two_told))
  h_renamed_Two : PySem.W.findIn K (.ref Z.c_Two) "renamed" = some (some (.ref Z.f_Two_renamed))
  m_Not : mg "Not" = some (.ref Z.c_Not)
  x_Not : tcB K Z.c_Not ["one"] = true
  i_Not : PySem.W.findIn K (.ref Z.c_Not) "__init__" = some (some (.ref Z.f_Not_init))
  h_parts_Not : PySem.W.findIn K (.ref Z.c_Not) "parts" = some (some (.ref Z.f_Not_parts))
  h_names_Not : PySem.W.findIn K (.ref Z.c_Not) "names" = some (some (.ref Z.f_Term_names))
  h_levels_Not : PySem.W.findIn K (.ref Z.c_Not) "levels" = some (some (.ref Z.f_Term_levels))
  h_told_Not : PySem.W.findIn K (.ref Z.c_Not) "told" = some (some (.ref Z.f_Not_told))
  h_renamed_Not : PySem.W.findIn K (.ref Z.c_Not) "renamed" = some (some (.ref Z.f_Not_renamed))
  m_Pick : mg "Pick" = some (.ref Z.c_Pick)
  x_Pick : tcB K Z.c_Pick ["by", "one", "second"] = true
  i_Pick : PySem.W.findIn K (.ref Z.c_Pick) "__init__" = some (some (.ref Z.f_Pick_init))
  h_parts_Pick : PySem.W.findIn K (.ref Z.c_Pick) "parts" = some (some (.ref Z.f_Pick_parts))
  h_names_Pick : PySem.W.findIn K (.ref Z.c_Pick) "names" = some (some (.ref Z.f_Term_names))
  h_levels_Pick : PySem.W.findIn K (.ref Z.c_Pick) "levels" = some (some (.ref Z.f_Term_levels))
  h_told_Pick : PySem.W.findIn K (.ref Z.c_Pick) "told" = some (some (.ref Z.f_Pick_told))
  h_renamed_Pick : PySem.W.findIn K (.ref Z.c_Pick) "renamed" = some (some (.ref Z.f_Pick_renamed))
  m_Equation : mg "Equation" = some (.ref Z.c_Equation)
  x_Equation : tcB K Z.c_Equation ["told_row"] = true
  i_Equation : PySem.W.findIn K (.ref Z.c_Equation) "__init__" = some (some (.ref Z.f_Equation_init))
  h_names_Equation : PySem.W.findIn K (.ref Z.c_Equation) "names" = some (some (.ref Z.f_Equation_names))
  h_told_Equation : PySem.W.findIn K (.ref Z.c_Equation) "told" = some (some (.ref Z.f_Equation_told))
  h_tells_Equation : PySem.W.findIn K (.ref Z.c_Equation) "tells" = some (some (.ref Z.f_Equation_tells))
  h_term_Equation : PySem.W.findIn K (.ref Z.c_Equation) "term" = some (some (.ref Z.f_Equation_term))
  h_renamed_Equation : PySem.W.findIn K (.ref Z.c_Equation) "renamed" = some (some (.ref Z.f_Equation_renamed))
  h_put_otherwise_Equation : PySem.W.findIn K (.ref Z.c_Equation) "put_otherwise" = some (some (.ref Z.f_Equation_put_otherwise))
  m_Plain : mg "Plain" = some (.ref Z.c_Plain)
  x_Plain : tcB K Z.c_Plain ["told_row", "kept_term"] = true
  i_Plain : PySem.W.findIn K (.ref Z.c_Plain) "__init__" = some (some (.ref Z.f_Plain_init))
  h_names_Plain : PySem.W.findIn K (.ref Z.c_Plain) "names" = some (some (.ref Z.f_Plain_names))
  h_told_Plain : PySem.W.findIn K (.ref Z.c_Plain) "told" = some (some (.ref Z.f_Equation_told))
  h_tells_Plain : PySem.W.findIn K (.ref Z.c_Plain) "tells" = some (some (.ref Z.f_Equation_tells))
  h_term_Plain : PySem.W.findIn K (.ref Z.c_Plain) "term" = some (some (.ref Z.f_Plain_term))
  h_renamed_Plain : PySem.W.findIn K (.ref Z.c_Plain) "renamed" = some (some (.ref Z.f_Equation_renamed))
  h_put_otherwise_Plain : PySem.W.findIn K (.ref Z.c_Plain) "put_otherwise" = some (some (.ref Z.f_Plain_put_otherwise))
  m_Before : mg "Before" = some (.ref Z.c_Before)
  x_Before : tcB K Z.c_Before ["told_row"] = true
  i_Before : PySem.W.findIn K (.ref Z.c_Before) "__init__" = some (some (.ref Z.f_Equation_init))
  h_names_Before : PySem.W.findIn K (.ref Z.c_Before) "names" = some (some (.ref Z.f_Equation_names))
  h_told_Before : PySem.W.findIn K (.ref Z.c_Before) "told" = some (some (.ref Z.f_Equation_told))
  h_tells_Before : PySem.W.findIn K (.ref Z.c_Before) "tells" = some (some (.ref Z.f_Equation_tells))
  h_term_Before : PySem.W.findIn K (.ref Z.c_Before) "term" = some (some (.ref Z.f_Equation_term))
  h_renamed_Before : PySem.W.findIn K (.ref Z.c_Before) "renamed" = some (some (.ref Z.f_Equation_renamed))
  h_put_otherwise_Before : PySem.W.findIn K (.ref Z.c_Before) "put_otherwise" = some (some (.ref Z.f_Equation_put_otherwise))
  m_When : mg "When" = some (.ref Z.c_When)
  x_When : tcB K Z.c_When ["told_row"] = true
  i_When : PySem.W.findIn K (.ref Z.c_When) "__init__" = some (some (.ref Z.f_Equation_init))
  h_names_When : PySem.W.findIn K (.ref Z.c_When) "names" = some (some (.ref Z.f_When_names))
  h_told_When : PySem.W.findIn K (.ref Z.c_When) "told" = some (some (.ref Z.f_Equation_told))
  h_tells_When : PySem.W.findIn K (.ref Z.c_When) "tells" = some (some (.ref Z.f_Equation_tells))
  h_term_When : PySem.W.findIn K (.ref Z.c_When) "term" = some (some (.ref Z.f_Equation_term))
  h_renamed_When : PySem.W.findIn K (.ref Z.c_When) "renamed" = some (some (.ref Z.f_Equation_renamed))
  h_put_otherwise_When : PySem.W.findIn K (.ref Z.c_When) "put_otherwise" = some (some (.ref Z.f_When_put_otherwise))
  m_Hold : mg "Hold" = some (.ref Z.c_Hold)
  x_Hold : tcB K Z.c_Hold ["told_row"] = true
  i_Hold : PySem.W.findIn K (.ref Z.c_Hold) "__init__" = some (some (.ref Z.f_Equation_init))
  h_names_Hold : PySem.W.findIn K (.ref Z.c_Hold) "names" = some (some (.ref Z.f_Equation_names))
  h_told_Hold : PySem.W.findIn K (.ref Z.c_Hold) "told" = some (some (.ref Z.f_Equation_told))
  h_tells_Hold : PySem.W.findIn K (.ref Z.c_Hold) "tells" = some (some (.ref Z.f_Equation_tells))
  h_term_Hold : PySem.W.findIn K (.ref Z.c_Hold) "term" = some (some (.ref Z.f_Equation_term))
  h_renamed_Hold : PySem.W.findIn K (.ref Z.c_Hold) "renamed" = some (some (.ref Z.f_Equation_renamed))
  h_put_otherwise_Hold : PySem.W.findIn K (.ref Z.c_Hold) "put_otherwise" = some (some (.ref Z.f_Equation_put_otherwise))
  m_Like : mg "Like" = some (.ref Z.c_Like)
  x_Like : tcB K Z.c_Like ["told_row"] = true
  i_Like : PySem.W.findIn K (.ref Z.c_Like) "__init__" = some (some (.ref Z.f_Equation_init))
  h_names_Like : PySem.W.findIn K (.ref Z.c_Like) "names" = some (some (.ref Z.f_Equation_names))
  h_told_Like : PySem.W.findIn K (.ref Z.c_Like) "told" = some (some (.ref Z.f_Equation_told))
  h_tells_Like : PySem.W.findIn K (.ref Z.c_Like) "tells" = some (some (.ref Z.f_Equation_tells))
  h_term_Like : PySem.W.findIn K (.ref Z.c_Like) "term" = some (some (.ref Z.f_Equation_term))
  h_renamed_Like : PySem.W.findIn K (.ref Z.c_Like) "renamed" = some (some (.ref Z.f_Equation_renamed))
  h_put_otherwise_Like : PySem.W.findIn K (.ref Z.c_Like) "put_otherwise" = some (some (.ref Z.f_Equation_put_otherwise))
  m_Same : mg "Same" = some (.ref Z.c_Same)
  x_Same : tcB K Z.c_Same ["told_row"] = true
  i_Same : PySem.W.findIn K (.ref Z.c_Same) "__init__" = some (some (.ref Z.f_Equation_init))
  h_names_Same : PySem.W.findIn K (.ref Z.c_Same) "names" = some (some (.ref Z.f_Same_names))
  h_told_Same : PySem.W.findIn K (.ref Z.c_Same) "told" = some (some (.ref Z.f_Equation_told))
  h_tells_Same : PySem.W.findIn K (.ref Z.c_Same) "tells" = some (some (.ref Z.f_Same_tells))
  h_term_Same : PySem.W.findIn K (.ref Z.c_Same) "term" = some (some (.ref Z.f_Equation_term))
  h_renamed_Same : PySem.W.findIn K (.ref Z.c_Same) "renamed" = some (some (.ref Z.f_Equation_renamed))
  h_put_otherwise_Same : PySem.W.findIn K (.ref Z.c_Same) "put_otherwise" = some (some (.ref Z.f_Same_put_otherwise))
  m_Call : mg "Call" = some (.ref Z.c_Call)
  x_Call : tcB K Z.c_Call ["told_row"] = true
  i_Call : PySem.W.findIn K (.ref Z.c_Call) "__init__" = some (some (.ref Z.f_Equation_init))
  h_names_Call : PySem.W.findIn K (.ref Z.c_Call) "names" = some (some (.ref Z.f_Call_names))
  h_told_Call : PySem.W.findIn K (.ref Z.c_Call) "told" = some (some (.ref Z.f_Equation_told))
  h_tells_Call : PySem.W.findIn K (.ref Z.c_Call) "tells" = some (some (.ref Z.f_Call_tells))
  h_term_Call : PySem.W.findIn K (.ref Z.c_Call) "term" = some (some (.ref Z.f_Equation_term))
  h_renamed_Call : PySem.W.findIn K (.ref Z.c_Call) "renamed" = some (some (.ref Z.f_Equation_renamed))
  h_put_otherwise_Call : PySem.W.findIn K (.ref Z.c_Call) "put_otherwise" = some (some (.ref Z.f_Call_put_otherwise))
  fact_dif : difB [Z.c_Name, Z.c_Value, Z.c_Two, Z.c_Not, Z.c_Pick] = true
  fact_is_Name : subB K Z.c_Name Z.c_Term = true
  fact_is_Value : subB K Z.c_Value Z.c_Term = true
  fact_is_Two : subB K Z.c_Two Z.c_Term = true
  fact_is_Not : subB K Z.c_Not Z.c_Term = true
  fact_is_Pick : subB K Z.c_Pick Z.c_Term = true
  fact_difT : difB [Z.c_Plain, Z.c_Name, Z.c_Value, Z.c_Two, Z.c_Not, Z.c_Pick] = true
  fact_difE : difB [Z.c_Plain, Z.c_Before, Z.c_Hold, Z.c_Like, Z.c_When, Z.c_Same, Z.c_Call] = true
  fact_kitE : kitTab K [Z.c_Plain, Z.c_Before, Z.c_Hold, Z.c_Like, Z.c_When, Z.c_Same, Z.c_Call] Z.c_Equation = true
  fact_cm_Equation : cmB K Z.c_Equation Z.f_Equation_init "__init__" = true
  fact_kitNN : PySem.W.kitOne K (.ref Z.c_NoName) (.ref Z.c_NoEquation) = some false
  fact_kitNB : PySem.W.kitOne K (.ref Z.c_NoName) (.ref Z.c_BeatError) = some true
  fact_exm : PySem.W.exmOne K (.ref Z.c_NoName) (.ref Z.c_NoName) = some true
  n_all : mg "all" = none
  n_bool : mg "bool" = none
  n_dict : mg "dict" = none
  n_int : mg "int" = none
  n_isinstance : mg "isinstance" = none
  n_len : mg "len" = none
  n_list : mg "list" = none
  n_max : mg "max" = none
  n_min : mg "min" = none
  n_range : mg "range" = none
  n_repr : mg "repr" = none
  n_str : mg "str" = none
  n_tuple : mg "tuple" = none
  c_LETTERS : ∃ u, mg "LETTERS" = some u ∧ RelV (.str "abcdefghijklmnopqrstuvwxyz") u
  c_LONGEST : ∃ u, mg "LONGEST" = some u ∧ RelV (.int 8) u
  c_MOST : ∃ u, mg "MOST" = some u ∧ RelV (.int 1000000000) u
  c_MOST_LEVELS : ∃ u, mg "MOST_LEVELS" = some u ∧ RelV (.int 5) u
  c_MOST_SIGNS : ∃ u, mg "MOST_SIGNS" = some u ∧ RelV (.int 80) u
  c_OPS : ∃ u, mg "OPS" = some u ∧ RelV (.ref Z.a_OPS) u
  t_OPS : ∀ H, SqT K H Z.a_OPS [.str "+", .str "-", .str "*", .str "/", .str "mod", .str "<", .str "=", .str "&", .str "|"]
  c_OWN : ∃ u, mg "OWN" = some u ∧ RelV (.ref Z.a_OWN) u
  t_OWN : ∀ H, SqT K H Z.a_OWN [.str "node", .str "in", .str "out", .str "before", .str "when", .str "hold", .str "like", .str "same", .str "call", .str "true", .str "false", .str "mod", .str "beat", .str "desk"]
abbrev N_NoName_init : List Str := ["self", "found"]
theorem sc_NoName_init : FnScope N_NoName_init ["self", "found"] (defScope s_NoName_init) := ⟨rfl, rfl, rfl, by decide +kernel, rfl, by decide +kernel, by decide +kernel⟩
abbrev N_NoEquation_init : List Str := ["self", "found"]
theorem sc_NoEquation_init : FnScope N_NoEquation_init ["self", "found"] (defScope s_NoEquation_init) := ⟨rfl, rfl, rfl, by decide +kernel, rfl, by decide +kernel, by decide +kernel⟩
abbrev N_is_whole : List Str := ["thing"]
theorem sc_is_whole : FnScope N_is_whole ["thing"] (defScope s_is_whole) := ⟨rfl, rfl, rfl, by decide +kernel, rfl, by decide +kernel, by decide +kernel⟩
abbrev N_is_within : List Str := ["thing", "low", "high"]
theorem sc_is_within : FnScope N_is_within ["thing", "low", "high"] (defScope s_is_within) := ⟨rfl, rfl, rfl, by decide +kernel, rfl, by decide +kernel, by decide +kernel⟩
abbrev N_is_name : List Str := ["thing", "sign"]
theorem sc_is_name : FnScope N_is_name ["thing"] (defScope s_is_name) := ⟨rfl, rfl, rfl, by decide +kernel, rfl, by decide +kernel, by decide +kernel⟩
abbrev N_is_pointed : List Str := ["thing", "part"]
theorem sc_is_pointed : FnScope N_is_pointed ["thing"] (defScope s_is_pointed) := ⟨rfl, rfl, rfl, by decide +kernel, rfl, by decide +kernel, by decide +kernel⟩
abbrev N_is_value : List Str := ["thing"]
theorem sc_is_value : FnScope N_is_value ["thing"] (defScope s_is_value) := ⟨rfl, rfl, rfl, by decide +kernel, rfl, by decide +kernel, by decide +kernel⟩
abbrev N_ops_told : List Str := []
theorem sc_ops_told : FnScope N_ops_told [] (defScope s_ops_told) := ⟨rfl, rfl, rfl, by decide +kernel, rfl, by decide +kernel, by decide +kernel⟩
abbrev N_Term_parts : List Str := ["self"]
theorem sc_Term_parts : FnScope N_Term_parts ["self"] (defScope s_Term_parts) := ⟨rfl, rfl, rfl, by decide +kernel, rfl, by decide +kernel, by decide +kernel⟩
abbrev N_Term_names : List Str := ["self", "found", "part", "name"]
theorem sc_Term_names : FnScope N_Term_names ["self"] (defScope s_Term_names) := ⟨rfl, rfl, rfl, by decide +kernel, rfl, by decide +kernel, by decide +kernel⟩
abbrev N_Term_levels : List Str := ["self", "part"]
theorem sc_Term_levels : FnScope N_Term_levels ["self"] (defScope s_Term_levels) := ⟨rfl, rfl, rfl, by decide +kernel, rfl, by decide +kernel, by decide +kernel⟩
abbrev N_Term_renamed : List Str := ["self", "names"]
theorem sc_Term_renamed : FnScope N_Term_renamed ["self", "names"] (defScope s_Term_renamed) := ⟨rfl, rfl, rfl, by decide +kernel, rfl, by decide +kernel, by decide +kernel⟩
abbrev N_need_term : List Str := ["thing"]
theorem sc_need_term : FnScope N_need_term ["thing"] (defScope s_need_term) := ⟨rfl, rfl, rfl, by decide +kernel, rfl, by decide +kernel, by decide +kernel⟩
abbrev N_Name_init : List Str := ["self", "name"]
theorem sc_Name_init : FnScope N_Name_init ["self", "name"] (defScope s_Name_init) := ⟨rfl, rfl, rfl, by decide +kernel, rfl, by decide +kernel, by decide +kernel⟩
abbrev N_Name_names : List Str := ["self"]
theorem sc_Name_names : FnScope N_Name_names ["self"] (defScope s_Name_names) := ⟨rfl, rfl, rfl, by decide +kernel, rfl, by decide +kernel, by decide +kernel⟩
abbrev N_Name_renamed : List Str := ["self", "names"]
theorem sc_Name_renamed : FnScope N_Name_renamed ["self", "names"] (defScope s_Name_renamed) := ⟨rfl, rfl, rfl, by decide +kernel, rfl, by decide +kernel, by decide +kernel⟩
abbrev N_Name_told : List Str := ["self"]
theorem sc_Name_told : FnScope N_Name_told ["self"] (defScope s_Name_told) := ⟨rfl, rfl, rfl, by decide +kernel, rfl, by decide +kernel, by decide +kernel⟩
abbrev N_Value_init : List Str := ["self", "value"]
theorem sc_Value_init : FnScope N_Value_init ["self", "value"] (defScope s_Value_init) := ⟨rfl, rfl, rfl, by decide +kernel, rfl, by decide +kernel, by decide +kernel⟩
abbrev N_Value_told : List Str := ["self"]
theorem sc_Value_told : FnScope N_Value_told ["self"] (defScope s_Value_told) := ⟨rfl, rfl, rfl, by decide +kernel, rfl, by decide +kernel, by decide +kernel⟩
abbrev N_Two_init : List Str := ["self", "op", "one", "other"]
theorem sc_Two_init : FnScope N_Two_init ["self", "op", "one", "other"] (defScope s_Two_init) := ⟨rfl, rfl, rfl, by decide +kernel, rfl, by decide +kernel, by decide +kernel⟩
abbrev N_Two_parts : List Str := ["self"]
theorem sc_Two_parts : FnScope N_Two_parts ["self"] (defScope s_Two_parts) := ⟨rfl, rfl, rfl, by decide +kernel, rfl, by decide +kernel, by decide +kernel⟩
abbrev N_Two_renamed : List Str := ["self", "names"]
theorem sc_Two_renamed : FnScope N_Two_renamed ["self", "names"] (defScope s_Two_renamed) := ⟨rfl, rfl, rfl, by decide +kernel, rfl, by decide +kernel, by decide +kernel⟩
abbrev N_Two_told : List Str := ["self"]
theorem sc_Two_told : FnScope N_Two_told ["self"] (defScope s_Two_told) := ⟨rfl, rfl, rfl, by decide +kernel, rfl, by decide +kernel, by decide +kernel⟩
abbrev N_Not_init : List Str := ["self", "one"]
theorem sc_Not_init : FnScope N_Not_init ["self", "one"] (defScope s_Not_init) := ⟨rfl, rfl, rfl, by decide +kernel, rfl, by decide +kernel, by decide +kernel⟩
abbrev N_Not_parts : List Str := ["self"]
theorem sc_Not_parts : FnScope N_Not_parts ["self"] (defScope s_Not_parts) := ⟨rfl, rfl, rfl, by decide +kernel, rfl, by decide +kernel, by decide +kernel⟩
abbrev N_Not_renamed : List Str := ["self", "names"]
theorem sc_Not_renamed : FnScope N_Not_renamed ["self", "names"] (defScope s_Not_renamed) := ⟨rfl, rfl, rfl, by decide +kernel, rfl, by decide +kernel, by decide +kernel⟩
abbrev N_Not_told : List Str := ["self"]
theorem sc_Not_told : FnScope N_Not_told ["self"] (defScope s_Not_told) := ⟨rfl, rfl, rfl, by decide +kernel, rfl, by decide +kernel, by decide +kernel⟩
abbrev N_Pick_init : List Str := ["self", "by", "one", "other"]
theorem sc_Pick_init : FnScope N_Pick_init ["self", "by", "one", "other"] (defScope s_Pick_init) := ⟨rfl, rfl, rfl, by decide +kernel, rfl, by decide +kernel, by decide +kernel⟩
abbrev N_Pick_parts : List Str := ["self"]
theorem sc_Pick_parts : FnScope N_Pick_parts ["self"] (defScope s_Pick_parts) := ⟨rfl, rfl, rfl, by decide +kernel, rfl, by decide +kernel, by decide +kernel⟩
abbrev N_Pick_renamed : List Str := ["self", "names"]
theorem sc_Pick_renamed : FnScope N_Pick_renamed ["self", "names"] (defScope s_Pick_renamed) := ⟨rfl, rfl, rfl, by decide +kernel, rfl, by decide +kernel, by decide +kernel⟩
abbrev N_Pick_told : List Str := ["self"]
theorem sc_Pick_told : FnScope N_Pick_told ["self"] (defScope s_Pick_told) := ⟨rfl, rfl, rfl, by decide +kernel, rfl, by decide +kernel, by decide +kernel⟩
abbrev N_simple_of : List Str := ["word", "thing"]
theorem sc_simple_of : FnScope N_simple_of ["word", "thing"] (defScope s_simple_of) := ⟨rfl, rfl, rfl, by decide +kernel, rfl, by decide +kernel, by decide +kernel⟩
abbrev N_made_of_told : List Str := ["told", "left", "word", "first", "parts", "one"]
theorem sc_made_of_told : FnScope N_made_of_told ["told", "left"] (defScope s_made_of_told) := ⟨rfl, rfl, rfl, by decide +kernel, rfl, by decide +kernel, by decide +kernel⟩
abbrev N_term_of : List Str := ["told", "found"]
theorem sc_term_of : FnScope N_term_of ["told"] (defScope s_term_of) := ⟨rfl, rfl, rfl, by decide +kernel, rfl, by decide +kernel, by decide +kernel⟩
abbrev N_new_name : List Str := ["names", "name"]
theorem sc_new_name : FnScope N_new_name ["names", "name"] (defScope s_new_name) := ⟨rfl, rfl, rfl, by decide +kernel, rfl, by decide +kernel, by decide +kernel⟩
abbrev N_each_once : List Str := ["names", "found", "name"]
theorem sc_each_once : FnScope N_each_once ["names"] (defScope s_each_once) := ⟨rfl, rfl, rfl, by decide +kernel, rfl, by decide +kernel, by decide +kernel⟩
abbrev N_Equation_init : List Str := ["self", "row"]
theorem sc_Equation_init : FnScope N_Equation_init ["self", "row"] (defScope s_Equation_init) := ⟨rfl, rfl, rfl, by decide +kernel, rfl, by decide +kernel, by decide +kernel⟩
abbrev N_Equation_told : List Str := ["self"]
theorem sc_Equation_told : FnScope N_Equation_told ["self"] (defScope s_Equation_told) := ⟨rfl, rfl, rfl, by decide +kernel, rfl, by decide +kernel, by decide +kernel⟩
abbrev N_Equation_tells : List Str := ["self"]
theorem sc_Equation_tells : FnScope N_Equation_tells ["self"] (defScope s_Equation_tells) := ⟨rfl, rfl, rfl, by decide +kernel, rfl, by decide +kernel, by decide +kernel⟩
abbrev N_Equation_names : List Str := ["self"]
theorem sc_Equation_names : FnScope N_Equation_names ["self"] (defScope s_Equation_names) := ⟨rfl, rfl, rfl, by decide +kernel, rfl, by decide +kernel, by decide +kernel⟩
abbrev N_Equation_term : List Str := ["self"]
theorem sc_Equation_term : FnScope N_Equation_term ["self"] (defScope s_Equation_term) := ⟨rfl, rfl, rfl, by decide +kernel, rfl, by decide +kernel, by decide +kernel⟩
abbrev N_Equation_put_otherwise : List Str := ["self", "names"]
theorem sc_Equation_put_otherwise : FnScope N_Equation_put_otherwise ["self", "names"] (defScope s_Equation_put_otherwise) := ⟨rfl, rfl, rfl, by decide +kernel, rfl, by decide +kernel, by decide +kernel⟩
abbrev N_Equation_renamed : List Str := ["self", "names", "fresh", "name"]
theorem sc_Equation_renamed : FnScope N_Equation_renamed ["self", "names"] (defScope s_Equation_renamed) := ⟨rfl, rfl, rfl, by decide +kernel, rfl, by decide +kernel, by decide +kernel⟩
abbrev N_Plain_init : List Str := ["self", "row"]
theorem sc_Plain_init : FnScope N_Plain_init ["self", "row"] (defScope s_Plain_init) := ⟨rfl, rfl, rfl, by decide +kernel, rfl, by decide +kernel, by decide +kernel⟩
abbrev N_Plain_names : List Str := ["self"]
theorem sc_Plain_names : FnScope N_Plain_names ["self"] (defScope s_Plain_names) := ⟨rfl, rfl, rfl, by decide +kernel, rfl, by decide +kernel, by decide +kernel⟩
abbrev N_Plain_term : List Str := ["self"]
theorem sc_Plain_term : FnScope N_Plain_term ["self"] (defScope s_Plain_term) := ⟨rfl, rfl, rfl, by decide +kernel, rfl, by decide +kernel, by decide +kernel⟩
abbrev N_Plain_put_otherwise : List Str := ["self", "names"]
theorem sc_Plain_put_otherwise : FnScope N_Plain_put_otherwise ["self", "names"] (defScope s_Plain_put_otherwise) := ⟨rfl, rfl, rfl, by decide +kernel, rfl, by decide +kernel, by decide +kernel⟩
abbrev N_When_names : List Str := ["self"]
theorem sc_When_names : FnScope N_When_names ["self"] (defScope s_When_names) := ⟨rfl, rfl, rfl, by decide +kernel, rfl, by decide +kernel, by decide +kernel⟩
abbrev N_When_put_otherwise : List Str := ["self", "names", "name"]
theorem sc_When_put_otherwise : FnScope N_When_put_otherwise ["self", "names"] (defScope s_When_put_otherwise) := ⟨rfl, rfl, rfl, by decide +kernel, rfl, by decide +kernel, by decide +kernel⟩
abbrev N_Same_tells : List Str := ["self"]
theorem sc_Same_tells : FnScope N_Same_tells ["self"] (defScope s_Same_tells) := ⟨rfl, rfl, rfl, by decide +kernel, rfl, by decide +kernel, by decide +kernel⟩
abbrev N_Same_names : List Str := ["self"]
theorem sc_Same_names : FnScope N_Same_names ["self"] (defScope s_Same_names) := ⟨rfl, rfl, rfl, by decide +kernel, rfl, by decide +kernel, by decide +kernel⟩
abbrev N_Same_put_otherwise : List Str := ["self", "names", "name"]
theorem sc_Same_put_otherwise : FnScope N_Same_put_otherwise ["self", "names"] (defScope s_Same_put_otherwise) := ⟨rfl, rfl, rfl, by decide +kernel, rfl, by decide +kernel, by decide +kernel⟩
abbrev N_Call_tells : List Str := ["self"]
theorem sc_Call_tells : FnScope N_Call_tells ["self"] (defScope s_Call_tells) := ⟨rfl, rfl, rfl, by decide +kernel, rfl, by decide +kernel, by decide +kernel⟩
abbrev N_Call_names : List Str := ["self"]
theorem sc_Call_names : FnScope N_Call_names ["self"] (defScope s_Call_names) := ⟨rfl, rfl, rfl, by decide +kernel, rfl, by decide +kernel, by decide +kernel⟩
abbrev N_Call_put_otherwise : List Str := ["self", "names", "outs", "name"]
theorem sc_Call_put_otherwise : FnScope N_Call_put_otherwise ["self", "names"] (defScope s_Call_put_otherwise) := ⟨rfl, rfl, rfl, by decide +kernel, rfl, by decide +kernel, by decide +kernel⟩
abbrev N_are_pointed : List Str := ["thing", "least", "name"]
theorem sc_are_pointed : FnScope N_are_pointed ["thing", "least"] (defScope s_are_pointed) := ⟨rfl, rfl, rfl, by decide +kernel, rfl, by decide +kernel, by decide +kernel⟩
abbrev N_is_valued : List Str := ["row"]
theorem sc_is_valued : FnScope N_is_valued ["row"] (defScope s_is_valued) := ⟨rfl, rfl, rfl, by decide +kernel, rfl, by decide +kernel, by decide +kernel⟩
abbrev N_plain_of : List Str := ["row"]
theorem sc_plain_of : FnScope N_plain_of ["row"] (defScope s_plain_of) := ⟨rfl, rfl, rfl, by decide +kernel, rfl, by decide +kernel, by decide +kernel⟩
abbrev N_valued_of : List Str := ["row"]
theorem sc_valued_of : FnScope N_valued_of ["row"] (defScope s_valued_of) := ⟨rfl, rfl, rfl, by decide +kernel, rfl, by decide +kernel, by decide +kernel⟩
abbrev N_call_of : List Str := ["row"]
theorem sc_call_of : FnScope N_call_of ["row"] (defScope s_call_of) := ⟨rfl, rfl, rfl, by decide +kernel, rfl, by decide +kernel, by decide +kernel⟩
abbrev N_made_of : List Str := ["row"]
theorem sc_made_of : FnScope N_made_of ["row"] (defScope s_made_of) := ⟨rfl, rfl, rfl, by decide +kernel, rfl, by decide +kernel, by decide +kernel⟩
abbrev N_equation_of : List Str := ["told", "found"]
theorem sc_equation_of : FnScope N_equation_of ["told"] (defScope s_equation_of) := ⟨rfl, rfl, rfl, by decide +kernel, rfl, by decide +kernel, by decide +kernel⟩
abbrev N_cell_at_l : List Str := ["_law_script", "_law_k"]
theorem sc_cell_at_l : FnScope N_cell_at_l ["_law_script", "_law_k"] (defScope s_cell_at_l) := ⟨rfl, rfl, rfl, by decide +kernel, rfl, by decide +kernel, by decide +kernel⟩
abbrev N_box_l : List Str := ["_law_cell"]
theorem sc_box_l : FnScope N_box_l ["_law_cell"] (defScope s_box_l) := ⟨rfl, rfl, rfl, by decide +kernel, rfl, by decide +kernel, by decide +kernel⟩
abbrev N_take_l : List Str := ["_law_box_here", "_law_many", "_law_digit", "_law_number"]
theorem sc_take_l : FnScope N_take_l ["_law_box_here", "_law_many"] (defScope s_take_l) := ⟨rfl, rfl, rfl, by decide +kernel, rfl, by decide +kernel, by decide +kernel⟩
abbrev N_names_l : List Str := ["_law_box_here", "_law_many", "_law_some", "_law_start", "_law_step", "_law_turn", "_law_found", "_law_k", "_law_word"]
theorem sc_names_l : FnScope N_names_l ["_law_box_here", "_law_many"] (defScope s_names_l) := ⟨rfl, rfl, rfl, by decide +kernel, rfl, by decide +kernel, by decide +kernel⟩
abbrev N_value_l : List Str := ["_law_box_here", "_law_some"]
theorem sc_value_l : FnScope N_value_l ["_law_box_here"] (defScope s_value_l) := ⟨rfl, rfl, rfl, by decide +kernel, rfl, by decide +kernel, by decide +kernel⟩
abbrev N_term_l : List Str := ["_law_box_here", "_law_names_here", "_law_levels", "_law_way", "_law_one", "_law_other", "_law_op"]
theorem sc_term_l : FnScope N_term_l ["_law_box_here", "_law_names_here", "_law_levels"] (defScope s_term_l) := ⟨rfl, rfl, rfl, by decide +kernel, rfl, by decide +kernel, by decide +kernel⟩
abbrev N_row_l : List Str := ["_law_box_here", "_law_told", "_law_names_here", "_law_kind", "_law_some", "_law_k", "_law_one"]
theorem sc_row_l : FnScope N_row_l ["_law_box_here", "_law_told", "_law_names_here"] (defScope s_row_l) := ⟨rfl, rfl, rfl, by decide +kernel, rfl, by decide +kernel, by decide +kernel⟩
abbrev N_term_names_l : List Str := ["_law_term_here", "_law_found", "_law_part"]
theorem sc_term_names_l : FnScope N_term_names_l ["_law_term_here"] (defScope s_term_names_l) := ⟨rfl, rfl, rfl, by decide +kernel, rfl, by decide +kernel, by decide +kernel⟩
abbrev N_once_l : List Str := ["_law_names_here", "_law_found", "_law_name"]
theorem sc_once_l : FnScope N_once_l ["_law_names_here"] (defScope s_once_l) := ⟨rfl, rfl, rfl, by decide +kernel, rfl, by decide +kernel, by decide +kernel⟩
abbrev N_mentions_l : List Str := ["_law_row_here"]
theorem sc_mentions_l : FnScope N_mentions_l ["_law_row_here"] (defScope s_mentions_l) := ⟨rfl, rfl, rfl, by decide +kernel, rfl, by decide +kernel, by decide +kernel⟩
abbrev N_tells_l : List Str := ["_law_row_here"]
theorem sc_tells_l : FnScope N_tells_l ["_law_row_here"] (defScope s_tells_l) := ⟨rfl, rfl, rfl, by decide +kernel, rfl, by decide +kernel, by decide +kernel⟩
abbrev N_term_renamed_l : List Str := ["_law_term_here", "_law_calls_here", "_law_part"]
theorem sc_term_renamed_l : FnScope N_term_renamed_l ["_law_term_here", "_law_calls_here"] (defScope s_term_renamed_l) := ⟨rfl, rfl, rfl, by decide +kernel, rfl, by decide +kernel, by decide +kernel⟩
abbrev N_renamed_l : List Str := ["_law_row_here", "_law_calls_here", "_law_name", "_law_outs"]
theorem sc_renamed_l : FnScope N_renamed_l ["_law_row_here", "_law_calls_here"] (defScope s_renamed_l) := ⟨rfl, rfl, rfl, by decide +kernel, rfl, by decide +kernel, by decide +kernel⟩
abbrev N_calls_l : List Str := ["_law_box_here", "_law_names_here", "_law_fresh", "_law_way", "_law_calls_here", "_law_k"]
theorem sc_calls_l : FnScope N_calls_l ["_law_box_here", "_law_names_here"] (defScope s_calls_l) := ⟨rfl, rfl, rfl, by decide +kernel, rfl, by decide +kernel, by decide +kernel⟩
abbrev N_refused_l : List Str := ["_law_equation", "_law_calls_here", "_law_found", "e"]
theorem sc_refused_l : FnScope N_refused_l ["_law_equation", "_law_calls_here"] (defScope s_refused_l) := ⟨rfl, rfl, rfl, by decide +kernel, rfl, by decide +kernel, by decide +kernel⟩
abbrev N_lacking_right_l : List Str := ["_law_box_here", "_law_equation", "_law_row_here", "_law_calls_here", "_law_names_here", "_law_at", "_law_less", "_law_bad"]
theorem sc_lacking_right_l : FnScope N_lacking_right_l ["_law_box_here", "_law_equation", "_law_row_here", "_law_calls_here"] (defScope s_lacking_right_l) := ⟨rfl, rfl, rfl, by decide +kernel, rfl, by decide +kernel, by decide +kernel⟩
abbrev N_back_l : List Str := ["_law_calls_here", "_law_found", "_law_name"]
theorem sc_back_l : FnScope N_back_l ["_law_calls_here"] (defScope s_back_l) := ⟨rfl, rfl, rfl, by decide +kernel, rfl, by decide +kernel, by decide +kernel⟩
abbrev N_law : List Str := ["_law_script", "_law_k", "_law_box_here", "_law_names_here", "_law_j", "_law_told", "_law_row_here", "_law_equation", "_law_calls_here", "_law_kept", "_law_other", "_law_due", "_law_odd", "_law_name", "_law_one", "_law_back_here"]
theorem sc_law : FnScope N_law ["_law_script"] (defScope s_law) := ⟨rfl, rfl, rfl, by decide +kernel, rfl, by decide +kernel, by decide +kernel⟩
section
variable {P : Program} {w : World} {K : PySem.W.Frag} {mg : Str → Option Value} {base : Heap} {Z : Adr}
/-! ### words: whole numbers, values -/
def sp_is_whole (K : PySem.W.Frag) : Sp := fun vs H Q _ => ∃ (v : V) (n : String) (b1 b2 : Bool), vs = [v] ∧ TyX K H v (.type n) ∧ kitB n "int" = some b1 ∧ kitB n "bool" = some b2 ∧ Q (.bl (b1 && !b2)) H
theorem u_whole_int {K : PySem.W.Frag} {H : Hp} {Q : VK} {E : XK} {i : Int} (q : Q (.bl true) H) : sp_is_whole K [.int i] H Q E := ⟨_, _, _, _, rfl, ty_int i, kb_ii, kb_ib, q⟩
theorem u_whole_bl {K : PySem.W.Frag} {H : Hp} {Q : VK} {E : XK} {i : Bool} (q : Q (.bl false) H) : sp_is_whole K [.bl i] H Q E := ⟨_, _, _, _, rfl, ty_bl i, kb_bi, kb_bb, q⟩
def sp_is_within (K : PySem.W.Frag) : Sp := fun vs H Q _ => ∃ (v : V) (lo hi : Int), vs = [v, .int lo, .int hi] ∧
  ((∃ i, v = .int i ∧ Q (.bl (decide (lo ≤ i) && decide (i ≤ hi))) H) ∨ ∃ (n : String) (b1 b2 : Bool), TyX K H v (.type n) ∧ kitB n "int" = some b1 ∧ kitB n "bool" = some b2 ∧ (b1 && !b2) = false ∧ Q (.bl false) H)
def sp_is_value (K : PySem.W.Frag) : Sp := fun vs H Q _ => ∃ (v : V), vs = [v] ∧
  ((∃ i, v = .int i ∧ Q (.bl (decide (-1000000000 ≤ i) && decide (i ≤ 1000000000))) H) ∨ (∃ b, v = .bl b ∧ Q (.bl true) H) ∨ ∃ (n : String), TyX K H v (.type n) ∧ kitB n "int" = some false ∧ kitB n "bool" = some false ∧ Q (.bl false) H)
theorem ok_is_whole (T : Txt K mg Z) : FnOk P w K mg base CX0 1 Z.f_is_whole Z.fd_is_whole ["thing"] (sp_is_whole K) := by
  refine T.F_is_whole.ok sc_is_whole (fun vs H Q E h => ?_) (fun cdv AA outer s H vs Q E hr h => ?_)
  · obtain ⟨v, n, b1, b2, rfl, _⟩ := h
    rfl
  · obtain ⟨v, n, b1, b2, rfl, ty, h1, h2, k⟩ := h
    refine ⟨_, (pss_one (ps_ret (pe_and (pe_callB call_isi (by rfl) T.n_isinstance (by decide +kernel) (pa_cons (pv 0) (pa_cons (pe_bltn (v := .ty "int") (by rfl) T.n_int (by decide +kernel) rfl) pa_nil))) (pe_one (pe_not (pe_callB call_isi (by rfl) T.n_isinstance (by decide +kernel) (pa_cons (pv 0) (pa_cons (pe_bltn (v := .ty "bool") (by rfl) T.n_bool (by decide +kernel) rfl) pa_nil)))))))), ?_⟩
    walk_at "ss"
    refine isi ty h1 ?_
    walk_at "ss"
    refine if_cs (fun hb => ?_) (fun hb => ?_)
    · walk_at "ss"
      refine isi ty h2 ?_
      walk_at "ss"
      subst hb
      exact k
    · walk_at "ss"
      subst hb
      exact k
theorem ok_is_within (T : Txt K mg Z) : FnOk P w K mg base CX0 2 Z.f_is_within Z.fd_is_within ["thing", "low", "high"] (sp_is_within K) := by
  have G_is_whole := ok_is_whole (P := P) (w := w) (base := base) T
  refine T.F_is_within.ok sc_is_within (fun vs H Q E h => ?_) (fun cdv AA outer s H vs Q E hr h => ?_)
  · obtain ⟨v, lo, hi, rfl, _⟩ := h
    rfl
  · obtain ⟨v, lo, hi, rfl, k⟩ := h
    refine ⟨_, (pss_one (ps_ret (pe_and (pe_call G_is_whole (hr.mono (by omega)) rfl T.g_is_whole T.F_is_whole.kp T.b_is_whole .nil pass0 (pa_cons (pv 0) pa_nil)) (pe_one (pe_chain op_le op_le (pv 1) (pv 0) (pv 2)))))), ?_⟩
    rcases k with ⟨i, rfl, k⟩ | ⟨n, b1, b2, ty, h1, h2, hb, k⟩
    · walk_at "ss"
      refine u_whole_int ?_
      walk_at "ss"
      refine if_cs (fun hb => ?_) (fun hb => ?_)
      · walk_at "ss"
        rw [hb] at k
        exact k
      · walk_at "ss"
        rw [hb] at k
        exact k
    · walk_at "ss"
      refine ⟨_, _, _, _, rfl, ty, h1, h2, ?_⟩
      walk_at "ss"
      exact if_ff hb k
theorem ok_is_value (T : Txt K mg Z) : FnOk P w K mg base CX0 3 Z.f_is_value Z.fd_is_value ["thing"] (sp_is_value K) := by
  have G_is_within := ok_is_within (P := P) (w := w) (base := base) T
  refine T.F_is_value.ok sc_is_value (fun vs H Q E h => ?_) (fun cdv AA outer s H vs Q E hr h => ?_)
  · obtain ⟨v, rfl, _⟩ := h
    rfl
  · obtain ⟨v, rfl, k⟩ := h
    refine ⟨_, (pss_one (ps_ret (pe_or (pe_callB call_isi (by rfl) T.n_isinstance (by decide +kernel) (pa_cons (pv 0) (pa_cons (pe_bltn (v := .ty "bool") (by rfl) T.n_bool (by decide +kernel) rfl) pa_nil))) (pe_one (pe_call G_is_within (hr.mono (by omega)) rfl T.g_is_within T.F_is_within.kp T.b_is_within .nil pass0 (pa_cons (pv 0) (pa_cons (pe_un un_neg (pe_gcst rfl T.c_MOST)) (pa_cons (pe_gcst rfl T.c_MOST) pa_nil)))))))), ?_⟩
    rcases k with ⟨i, rfl, k⟩ | ⟨b, rfl, k⟩ | ⟨n, ty, h1, h2, k⟩
    · walk_at "ss"
      refine isi (ty_int i) kb_ib ?_
      walk_at "ss"
      refine ⟨_, _, _, rfl, .inl ⟨_, rfl, ?_⟩⟩
      exact k
    · walk_at "ss"
      refine isi (ty_bl b) kb_bb ?_
      walk_at "ss"
      exact k
    · walk_at "ss"
      refine isi ty h2 ?_
      walk_at "ss"
      refine ⟨_, _, _, rfl, .inr ⟨_, _, _, ty, h1, h2, rfl, ?_⟩⟩
      exact k

/-! ### the law's cells and draws -/
def sp_cell_at_l (K : PySem.W.Frag) : Sp := fun vs H Q _ => ∃ (a : Addr) (ns : List Int) (k : Int), vs = [.ref a, .int k] ∧ SqL K H a (ns.map V.int) ∧ 0 ≤ k ∧ ∀ n, Q (.int n) H
def sp_box_l : Sp := fun vs H Q _ => ∃ (c : Int), vs = [.int c] ∧ ∀ p H2, H p = none → Ex H H2 → BoxAt H2 p → Q (.ref p) H2
def sp_take_l : Sp := fun vs H Q _ => ∃ (b : Addr) (m : Int), vs = [.ref b, .int m] ∧ BoxAt H b ∧ 0 < m ∧ m < 1099511627776 ∧ ∀ d H2, 0 ≤ d → d < m → ExB b H H2 → BoxAt H2 b → Q (.int d) H2
theorem ok_cell_at_l (T : Txt K mg Z) : FnOk P w K mg base CX0 1 Z.f_cell_at_l Z.fd_cell_at_l ["_law_script", "_law_k"] (sp_cell_at_l K) := by
  refine T.F_cell_at_l.ok sc_cell_at_l (fun vs H Q E h => ?_) (fun cdv AA outer s H vs Q E hr h => ?_)
  · obtain ⟨a, ns, k, rfl, _⟩ := h
    rfl
  · obtain ⟨a, ns, k, rfl, hS, h0, q⟩ := h
    refine ⟨_, (pss_cons (ps_if (pt_cmpR op_lt (pv 1) (pe_callB call_len_seq (by rfl) T.n_len (by decide +kernel) (pa_cons (pv 0) pa_nil)) (nomark _)) (pss_one (ps_ret (pe_ix ix_list (pv 0) (pv 1) (fun _ _ => rfl)))) pss_nil)
      (pss_one (ps_ret (pe_op op_add (pe_op op_mul pe_int (pv 1)) pe_int)))), ?_⟩
    walk_at "ss"
    refine ⟨_, _, rfl, .inl hS, ?_⟩
    walk_at "ss"
    refine if_cs (fun hb => ?_) (fun hb => ?_)
    · walk_at "ss"
      obtain ⟨j, rfl⟩ := Int.eq_ofNat_of_zero_le h0
      have hl := of_decide_eq_true hb
      rw [List.length_map] at hl
      have hj : j < ns.length := by omega
      refine c_ixL hS (atI_nat (v := .int (ns[j]'hj)) ?_) (q _)
      rw [List.getElem?_map, List.getElem?_eq_getElem hj] <;> rfl
    · walk_at "ss"
      refine c_I (.inl ⟨by decide, by decide⟩) ?_
      walk_at "ss"
      exact q _
theorem int_mul01 {a : Int} {b : Bool} : CMul a (if b = true then 1 else 0) := by
  refine .inr ?_
  cases b
  · exact ⟨by decide, by decide⟩
  · exact ⟨by decide, by decide⟩
theorem ok_box_l (T : Txt K mg Z) : FnOk P w K mg base CX0 1 Z.f_box_l Z.fd_box_l ["_law_cell"] sp_box_l := by
  refine T.F_box_l.ok sc_box_l (fun vs H Q E h => ?_) (fun cdv AA outer s H vs Q E hr h => ?_)
  · obtain ⟨c, rfl, _⟩ := h
    rfl
  · obtain ⟨c, rfl, k⟩ := h
    refine ⟨_, (pss_one (ps_ret (pe_lst (pa_cons (pe_op op_mul (pe_callB (call_max2 rfl) (by rfl) T.n_max (by decide +kernel) (pa_cons pe_int (pa_cons (pv 0) pa_nil))) (pe_callTy call_int1 (by rfl) T.n_int (by decide +kernel) (pa_cons (pe_cmpR op_ge (pv 0) (pe_op op_pow pe_int pe_int) (nomark _)) pa_nil))) (pa_cons (pe_op op_mod (pv 0) pe_int) (pa_cons pe_int pa_nil)))))), ?_⟩
    walk_at "ss"
    refine ⟨_, _, rfl, ?_⟩
    walk_at "ss"
    refine c_I ⟨by decide, by decide, by decide⟩ ?_
    walk_at "ss"
    refine .inr ⟨_, rfl, ?_⟩
    walk_at "ss"
    refine c_I int_mul01 ?_
    walk_at "ss"
    refine c_I (by decide) ?_
    walk_at "ss"
    refine newL fun p H2 hp e2 h2 => k p H2 hp e2 ⟨_, _, _, ?_, h2⟩
    refine Int.mul_nonneg ?_ ?_
    · split <;> omega
    · split <;> omega
theorem ix3_0 {a b c : V} : atI [a, b, c] 0 = some a := rfl
theorem ix3_1 {a b c : V} : atI [a, b, c] 1 = some b := rfl
theorem ix3_2 {a b c : V} : atI [a, b, c] 2 = some c := rfl
theorem emod_mul {a m : Int} (h : 0 < m) (hm : m < 1073741824 * 1073741824) {b : Int} : CMul (a % m) b := by
  have h1 := Int.emod_nonneg a (by omega : m ≠ 0)
  have h2 := Int.emod_lt_of_pos a h
  exact .inl ⟨by omega, by omega⟩
theorem emod_mulR {a m : Int} (h : 0 < m) (hm : m < 1073741824 * 1073741824) {b : Int} : CMul b (a % m) := by
  have h1 := Int.emod_nonneg a (by omega : m ≠ 0)
  have h2 := Int.emod_lt_of_pos a h
  exact .inr ⟨by omega, by omega⟩
theorem divW {i m : Int} (h : 0 < m) (hm : m < 1099511627776) : CDivW i m := by
  refine ⟨h, ?_⟩
  have h0 : m.natAbs ≠ 0 := by omega
  have : m.natAbs.log2 < 40 := (Nat.log2_lt h0).mpr (by omega)
  omega
theorem ok_take_l (T : Txt K mg Z) : FnOk P w K mg base CX0 1 Z.f_take_l Z.fd_take_l ["_law_box_here", "_law_many"] sp_take_l := by
  refine T.F_take_l.ok sc_take_l (fun vs H Q E h => ?_) (fun cdv AA outer s H vs Q E hr h => ?_)
  · obtain ⟨b, m, rfl, _⟩ := h
    rfl
  · obtain ⟨b, m, rfl, ⟨x, y, z, hx, hB⟩, m0, m1, k⟩ := h
    refine ⟨_, (pss_cons (ps_if (pt_cmpR op_gt (pe_ix ix_list (pv 0) pe_int (fun _ _ => rfl)) pe_int (nomark _)) (pss_cons (ps_set (i := 2) sc_take_l.nd rfl (Or.inl rfl) (pe_op op_mod (pe_ix ix_list (pv 0) pe_int (fun _ _ => rfl)) (pv 1)))
      (pss_cons (ps_asg (pe_op op_fdivW (pe_ix ix_list (pv 0) pe_int (fun _ _ => rfl)) (pv 1)) (pg_sub (pv 0) pe_int set_list))
      (pss_one (ps_ret (pv 2))))) pss_nil)
      (pss_cons (ps_asg (pe_op op_add (pe_ix ix_list (pv 0) pe_int (fun _ _ => rfl)) pe_int) (pg_sub (pv 0) pe_int set_list))
      (pss_cons (ps_set (i := 3) sc_take_l.nd rfl (Or.inl rfl) (pe_op op_mod (pe_op op_add (pe_op op_add (pe_op op_mul (pe_ix ix_list (pv 0) pe_int (fun _ _ => rfl)) pe_int) (pe_op op_mul pe_int (pe_ix ix_list (pv 0) pe_int (fun _ _ => rfl)))) pe_int) pe_int))
      (pss_cons (ps_set (i := 3) sc_take_l.nd rfl (Or.inl rfl) (pe_op op_mod (pe_op op_mul (pe_op op_add (pv 3) (pe_op op_mul pe_int (pe_ix ix_list (pv 0) pe_int (fun _ _ => rfl)))) (pv 3)) pe_int))
      (pss_one (ps_ret (pe_op op_mod (pe_op op_fdiv (pe_op op_mod (pe_op op_mul (pe_op op_mod (pe_op op_add (pe_op op_mul (pv 3) pe_int) pe_int) pe_int) (pe_op op_add (pv 3) pe_int)) pe_int) pe_int) (pv 1)))))))), ?_⟩
    walk_at "ss"
    refine c_ixL (SqL.of hB) ix3_0 ?_
    walk_at "ss"
    refine if_cs (fun hb => ?_) (fun hb => ?_)
    · walk_at "ss"
      refine c_ixL (SqL.of hB) ix3_0 ?_
      walk_at "ss"
      refine c_I m0 ?_
      walk_at "ss"
      refine c_ixL (SqL.of hB) ix3_0 ?_
      walk_at "ss"
      refine c_I (divW m0 m1) ?_
      walk_at "ss"
      refine c_setL hB rfl ?_
      walk_at "ss"
      refine k _ _ (Int.emod_nonneg _ (by omega)) (Int.emod_lt_of_pos _ m0) ExB.upd ⟨_, _, _, Int.ediv_nonneg hx (by omega), upd_same⟩
    · walk_at "ss"
      refine c_ixL (SqL.of hB) ix3_2 ?_
      walk_at "ss"
      refine c_setL hB rfl ?_
      have hB2 : (upd H b (.lst [.int x, .int y, .int (z + 1)])) b = some (.lst [.int x, .int y, .int (z + 1)]) := upd_same
      walk_at "ss"
      refine c_ixL (SqL.of hB2) ix3_1 ?_
      walk_at "ss"
      refine c_I (.inr ⟨by decide, by decide⟩) ?_
      walk_at "ss"
      refine c_ixL (SqL.of hB2) ix3_2 ?_
      walk_at "ss"
      refine c_I (.inl ⟨by decide, by decide⟩) ?_
      walk_at "ss"
      refine c_I (by decide) ?_
      walk_at "ss"
      refine c_ixL (SqL.of hB2) ix3_2 ?_
      walk_at "ss"
      refine c_I (.inl ⟨by decide, by decide⟩) ?_
      walk_at "ss"
      refine c_I (emod_mulR (by decide) (by decide)) ?_
      walk_at "ss"
      refine c_I (by decide) ?_
      walk_at "ss"
      refine c_I (.inr ⟨by decide, by decide⟩) ?_
      walk_at "ss"
      refine c_I (by decide) ?_
      walk_at "ss"
      refine c_I (emod_mul (by decide) (by decide)) ?_
      walk_at "ss"
      refine c_I (by decide) ?_
      walk_at "ss"
      refine c_I ⟨by decide, by decide⟩ ?_
      walk_at "ss"
      refine c_I m0 ?_
      exact k _ _ (Int.emod_nonneg _ (by omega)) (Int.emod_lt_of_pos _ m0) ExB.upd ⟨_, _, _, hx, upd_same⟩

theorem box_ne {H : Hp} {b a : Addr} {o : HO} (h : BoxAt H b) (ha : H a = some o) (n : ∀ x y z : Int, o ≠ .lst [.int x, .int y, .int z]) : a ≠ b := by
  obtain ⟨x, y, z, _, q⟩ := h
  exact ne_of ha q (n x y z)
theorem at4 {v0 v1 v2 v3 : V} {d : Int} (h0 : 0 ≤ d) (h1 : d < 4) : ∃ v, atI [v0, v1, v2, v3] d = some v ∧ (d = 0 ∧ v = v0 ∨ d = 1 ∧ v = v1 ∨ d = 2 ∧ v = v2 ∨ d = 3 ∧ v = v3) := by
  have : d = 0 ∨ d = 1 ∨ d = 2 ∨ d = 3 := by omega
  rcases this with rfl | rfl | rfl | rfl
  · exact ⟨v0, rfl, .inl ⟨rfl, rfl⟩⟩
  · exact ⟨v1, rfl, .inr (.inl ⟨rfl, rfl⟩)⟩
  · exact ⟨v2, rfl, .inr (.inr (.inl ⟨rfl, rfl⟩))⟩
  · exact ⟨v3, rfl, .inr (.inr (.inr ⟨rfl, rfl⟩))⟩
/-- an item of a list that is asked by a draw: it is one of them -/
theorem at_in {xs : List V} {d : Int} (h0 : 0 ≤ d) (h1 : d < (xs.length : Int)) : ∃ v, atI xs d = some v ∧ v ∈ xs := by
  obtain ⟨j, rfl⟩ := Int.eq_ofNat_of_zero_le h0
  have hj : j < xs.length := by omega
  exact ⟨xs[j], atI_nat (List.getElem?_eq_getElem hj), List.getElem_mem hj⟩

/-! ### names -/
open TL (tl)
def ownW : List Str := ["node", "in", "out", "before", "when", "hold", "like", "same", "call", "true", "false", "mod", "beat", "desk"]
def ownV : List V := ownW.map V.str
def letC (c : Nat) : Bool := decide (97 ≤ c) && decide (c ≤ 122)
theorem tl_let : ∀ c : Nat, decide (c ∈ tl "abcdefghijklmnopqrstuvwxyz") = letC c := by
  intro c
  have e : tl "abcdefghijklmnopqrstuvwxyz" = [97, 98, 99, 100, 101, 102, 103, 104, 105, 106, 107, 108, 109, 110, 111, 112, 113, 114, 115, 116, 117, 118, 119, 120, 121, 122] := by decide +kernel
  rw [e]
  unfold letC
  rw [Bool.eq_iff_iff, decide_eq_true_eq, Bool.and_eq_true, decide_eq_true_eq, decide_eq_true_eq]
  simp only [List.mem_cons, List.not_mem_nil, or_false]
  omega
def isName (t : Str) : Bool := (decide (1 ≤ (t.length : Int)) && decide ((t.length : Int) ≤ 8)) && !inV (.str t) ownV && (tl t).all letC
def isPointed (t : Str) : Bool := decide ((t.length : Int) ≤ 80) && (Txt.split t ".").all isName
theorem kb_ss : kitB "str" "str" = some true := by decide +kernel
def sp_is_name (K : PySem.W.Frag) : Sp := fun vs H Q _ => ∃ (v : V), vs = [v] ∧ ((∃ t : Str, v = .str t ∧ t.length ≤ 50000 ∧ RetV (.bl (isName t)) H Q) ∨ ∃ n : String, TyX K H v (.type n) ∧ kitB n "str" = some false ∧ Q (.bl false) H)
theorem own_flat : ownV.all flatV = true := rfl
theorem ok_is_name (T : Txt K mg Z) : FnOk P w K mg base CX0 1 Z.f_is_name Z.fd_is_name ["thing"] (sp_is_name K) := by
  refine T.F_is_name.ok sc_is_name (fun vs H Q E h => ?_) (fun cdv AA outer s H vs Q E hr h => ?_)
  · obtain ⟨v, rfl, _⟩ := h
    rfl
  · obtain ⟨v, rfl, h⟩ := h
    refine ⟨_, (pss_cons (ps_if (PW.pt (pw_or (pt_not (pt_val (pe_callB call_isi (by rfl) T.n_isinstance (by decide +kernel) (pa_cons (pv 0) (pa_cons (pe_bltn (v := .ty "str") (by rfl) T.n_str (by decide +kernel) rfl) pa_nil))))) (pw_or (pt_not (pt_chain op_le op_le pe_int (pe_callB call_len_str (by rfl) T.n_len (by decide +kernel) (pa_cons (pv 0) pa_nil)) (pe_gcst rfl T.c_LONGEST))) (pw_or1 (pt_cmpR op_in_seq (pv 0) (pe_gcst rfl T.c_OWN) (by rfl)))))) (pss_one (ps_ret pe_bl)) pss_nil)
      (pss_one (ps_ret (pe_callB (cr_all rfl) (by rfl) T.n_all (by decide +kernel) (pa_cons (pe_lc (own := [("sign", 1)]) (g := (gName 1)) (tt := tYes) (te := (tOp (fun x y H Q => ∃ (c : Nat) (z : Str), x = .str ⟨#[c]⟩ ∧ y = .str z ∧ Q (.bl (decide (c ∈ z.cps.toList))) H) (tVar 1) (tC (.str "abcdefghijklmnopqrstuvwxyz")))) rfl sc_is_name.nd (pi_str (pv 0)) (blkOk_by (own := [("sign", 1)]) (N := N_is_name) (sc := defScope s_is_name) (by decide +kernel)) (fun _ _ _ _ _ => (pg_name (i := 1) sc_is_name.nd rfl (Or.inl rfl))) (fun _ _ _ _ _ => pts_nil) (fun _ _ _ _ _ => (pe_cmpR op_in_sign (pv 1) (pe_gcst rfl T.c_LETTERS) (by rfl)))) pa_nil))))), ?_⟩
    rcases h with ⟨t, rfl, hl, k⟩ | ⟨n, ty, kb, k⟩
    · unfold isName at k
      walk_at "ss"
      refine isi (ty_str t) kb_ss ?_
      walk_at "ss"
      refine ⟨Evl.sz_of (by omega), ?_⟩
      walk_at "ss"
      cases hlen : (decide (1 ≤ (t.length : Int)) && decide ((t.length : Int) ≤ 8)) with
      | false =>
        rw [hlen] at k
        refine if_cs (fun h1 => ?_) (fun h1 => ?_)
        · walk_at "ss"
          rw [h1, Bool.true_and] at hlen
          rw [hlen]
          walk_at "ss"
          exact k _ (Ex.refl _)
        · walk_at "ss"
          exact k _ (Ex.refl _)
      | true =>
        rw [hlen, Bool.true_and] at k
        rw [Bool.and_eq_true] at hlen
        rw [hlen.1]
        walk_at "ss"
        rw [hlen.2]
        walk_at "ss"
        refine c_in (.inr (T.t_OWN _)) rfl own_flat ?_
        refine ⟨_, rfl, if_cs (fun ho => ?_) (fun ho => ?_)⟩
        · have ho' : inV (.str t) ownV = true := ho
          rw [ho'] at k
          walk_at "ss"
          exact k _ (Ex.refl _)
        have ho' : inV (.str t) ownV = false := ho
        rw [ho', Bool.not_false, Bool.true_and] at k
        walk_at "ss"
        refine lcS (fun c => some (.bl (letC c))) hl (fun c hc => ?_) ?_
        · intro H2 e2 R hR
          walk_at "ss"
          rw [show decide (c ∈ (Str.ofString "abcdefghijklmnopqrstuvwxyz").cps.toList) = letC c from tl_let c]
          exact hR _ (Ex.refl _)
        rw [fm_some]
        intro p H2 hp e2 h2
        walk_at "ss"
        refine ⟨p, (tl t).map letC, rfl, SqL.of (by rw [h2, List.map_map]; rfl), ?_⟩
        have ea : ((tl t).map letC).all id = (tl t).all letC := by rw [List.all_map]; rfl
        rw [ea]
        exact k _ e2
    · walk_at "ss"
      refine isi ty kb ?_
      walk_at "ss"
      exact k
/-! parts of a split text -/
theorem spl_parts (S : List Nat) : ∀ (k : Nat) (acc l : List Nat) (p : List Nat), p ∈ TL.spl S k acc l → p.length ≤ acc.length + l.length ∧ ∀ c ∈ p, c ∈ acc ∨ c ∈ l := by
  intro k acc l
  induction l generalizing k acc with
  | nil =>
    intro p hp
    rw [TL.spl_nil] at hp
    have : p = acc := by simpa using hp
    subst this
    exact ⟨by simp, fun c hc => .inl hc⟩
  | cons a l ih =>
    intro p hp
    cases k with
    | succ k =>
      have hp' : p ∈ TL.spl S k acc l := hp
      obtain ⟨h1, h2⟩ := ih k acc p hp'
      exact ⟨by rw [List.length_cons]; omega, fun c hc => (h2 c hc).imp id (List.mem_cons_of_mem _)⟩
    | zero =>
      cases hh : TL.pre S (a :: l) with
      | true =>
        rw [TL.spl_hit hh] at hp
        rcases List.mem_cons.mp hp with rfl | hp
        · exact ⟨by omega, fun c hc => .inl hc⟩
        · obtain ⟨h1, h2⟩ := ih _ [] p hp
          exact ⟨by rw [List.length_nil] at h1; rw [List.length_cons]; omega, fun c hc => .inr (List.mem_cons_of_mem _ ((h2 c hc).resolve_left (by simp)))⟩
      | false =>
        rw [TL.spl_miss hh] at hp
        obtain ⟨h1, h2⟩ := ih 0 (acc ++ [a]) p hp
        refine ⟨by rw [List.length_append, List.length_singleton] at h1; rw [List.length_cons]; omega, fun c hc => ?_⟩
        rcases h2 c hc with h | h
        · rcases List.mem_append.mp h with h | h
          · exact .inl h
          · exact .inr (by have : c = a := by simpa using h
                           rw [this]; exact List.mem_cons_self)
        · exact .inr (List.mem_cons_of_mem _ h)
theorem split_pt {t p : Str} (h : p ∈ Txt.split t ".") : p.length ≤ t.length ∧ ∀ c ∈ tl p, c ∈ tl t := by
  have e := TL.split_spl t "." (by decide +kernel) (TL.kind_ok (by decide +kernel))
  have hm : tl p ∈ TL.spl (tl ".") 0 [] (tl t) := by
    rw [← e]
    exact List.mem_map_of_mem h
  obtain ⟨h1, h2⟩ := spl_parts _ _ _ _ _ hm
  rw [tl_len, tl_len, List.length_nil, Nat.zero_add] at h1
  exact ⟨h1, fun c hc => (h2 c hc).resolve_left (by simp)⟩
def sp_is_pointed (K : PySem.W.Frag) : Sp := fun vs H Q _ => ∃ (v : V), vs = [v] ∧ ((∃ t : Str, v = .str t ∧ t.length ≤ 40000 ∧ RetV (.bl (isPointed t)) H Q) ∨ ∃ n : String, TyX K H v (.type n) ∧ kitB n "str" = some false ∧ Q (.bl false) H)
theorem spl_count (S : List Nat) : ∀ (k : Nat) (acc l : List Nat), (TL.spl S k acc l).length ≤ l.length + 1 := by
  intro k acc l
  induction l generalizing k acc with
  | nil => rw [TL.spl_nil]; simp
  | cons a l ih =>
    cases k with
    | succ k => exact Nat.le_trans (ih k acc) (by rw [List.length_cons]; omega)
    | zero =>
      cases hh : TL.pre S (a :: l) with
      | true =>
        rw [TL.spl_hit hh, List.length_cons, List.length_cons]
        exact Nat.succ_le_succ (ih _ [])
      | false =>
        rw [TL.spl_miss hh, List.length_cons]
        exact Nat.le_trans (ih 0 _) (by omega)
theorem split_count {t : Str} : (Txt.split t ".").length ≤ t.length + 1 := by
  have e := TL.split_spl t "." (by decide +kernel) (TL.kind_ok (by decide +kernel))
  have h := spl_count (tl ".") 0 [] (tl t)
  rw [← e, List.length_map, tl_len] at h
  exact h
theorem ok_is_pointed (T : Txt K mg Z) : FnOk P w K mg base CX0 2 Z.f_is_pointed Z.fd_is_pointed ["thing"] (sp_is_pointed K) := by
  have G_is_name := ok_is_name (P := P) (w := w) (base := base) T
  refine T.F_is_pointed.ok sc_is_pointed (fun vs H Q E h => ?_) (fun cdv AA outer s H vs Q E hr h => ?_)
  · obtain ⟨v, rfl, _⟩ := h
    rfl
  · obtain ⟨v, rfl, h⟩ := h
    refine ⟨_, (pss_cons (ps_if (PW.pt (pw_or (pt_not (pt_val (pe_callB call_isi (by rfl) T.n_isinstance (by decide +kernel) (pa_cons (pv 0) (pa_cons (pe_bltn (v := .ty "str") (by rfl) T.n_str (by decide +kernel) rfl) pa_nil))))) (pw_or1 (pt_cmpR op_gt (pe_callB call_len_str (by rfl) T.n_len (by decide +kernel) (pa_cons (pv 0) pa_nil)) (pe_gcst rfl T.c_MOST_SIGNS) (nomark _))))) (pss_one (ps_ret pe_bl)) pss_nil)
      (pss_one (ps_ret (pe_callB (cr_all rfl) (by rfl) T.n_all (by decide +kernel) (pa_cons (pe_lc (own := [("part", 1)]) (g := (gName 1)) (tt := tYes) (te := (tCall (sp_is_name K) [] E0 (tCons (tVar 1) tNil))) rfl sc_is_pointed.nd (pi_list (pe_split (pv 0) pe_str)) (blkOk_by (own := [("part", 1)]) (N := N_is_pointed) (sc := defScope s_is_pointed) (by decide +kernel)) (fun _ _ _ _ _ => (pg_name (i := 1) sc_is_pointed.nd rfl (Or.inl rfl))) (fun _ _ _ _ _ => pts_nil) (fun _ _ _ _ _ => (pe_call G_is_name (hr.mono (by omega)) rfl T.g_is_name T.F_is_name.kp T.b_is_name .nil pass0 (pa_cons (pv 1) pa_nil)))) pa_nil))))), ?_⟩
    rcases h with ⟨t, rfl, hl, k⟩ | ⟨n, ty, kb, k⟩
    · unfold isPointed at k
      walk_at "ss"
      refine isi (ty_str t) kb_ss ?_
      walk_at "ss"
      refine ⟨Evl.sz_of (by omega), ?_⟩
      walk_at "ss"
      refine if_cs (fun h80 => ?_) (fun h80 => ?_)
      · have : ¬ (t.length : Int) ≤ 80 := by have := of_decide_eq_true h80; omega
        rw [decide_eq_false this] at k
        walk_at "ss"
        exact k _ (Ex.refl _)
      have : (t.length : Int) ≤ 80 := by have := of_decide_eq_false h80; omega
      rw [decide_eq_true this, Bool.true_and] at k
      walk_at "ss"
      refine ⟨⟨_, rfl⟩, ?_⟩
      walk_at "ss"
      refine ⟨Evl.sz_of (by omega), fun q hq => ?_⟩
      have f1 : Ex H (upd H q (.lst ((Txt.split t ".").map V.str))) := Ex.new hq
      generalize hH1 : upd H q (.lst ((Txt.split t ".").map V.str)) = H1 at f1
      have g1 : H1 q = some (.lst ((Txt.split t ".").map V.str)) := by rw [← hH1, upd_same]
      walk_at "ss"
      refine ⟨⟨_, SqL.of g1⟩, lcLv (fun v => match v with | .str p => some (.bl (isName p)) | _ => none) (SqL.of g1) (by have := split_count (t := t); rw [List.length_map]; omega) (fun v hv => ?_) ?_⟩
      · obtain ⟨p, hp, rfl⟩ := List.mem_map.mp hv
        have hpl := (split_pt hp).1
        intro H2 e2 R hR
        walk_at "ss"
        refine ⟨_, rfl, .inl ⟨_, rfl, by omega, fun H3 e3 => ?_⟩⟩
        exact hR _ e3
      have em : ((Txt.split t ".").map V.str).filterMap (fun v => match v with | .str p => some (V.bl (isName p)) | _ => none) = ((Txt.split t ".").map isName).map V.bl := by
        rw [List.filterMap_map, List.map_map]
        exact fm_some (F := fun p => V.bl (isName p)) _
      rw [em]
      intro p2 H2 hp2 e2 g2
      walk_at "ss"
      refine ⟨p2, (Txt.split t ".").map isName, rfl, SqL.of g2, ?_⟩
      have ea : ((Txt.split t ".").map isName).all id = (Txt.split t ".").all isName := by rw [List.all_map]; rfl
      rw [ea]
      exact k _ (f1.trans e2)
    · walk_at "ss"
      refine isi ty kb ?_
      walk_at "ss"
      exact k

/-! ### terms: the plain side -/
inductive Tm where
  | nm (s : Str)
  | vl (v : V)
  | two (op : Str) (a b : Tm)
  | nt (a : Tm)
  | pk (c a b : Tm)
def Tm.parts : Tm → List Tm
  | .two _ a b => [a, b]
  | .nt a => [a]
  | .pk c a b => [c, a, b]
  | _ => []
def Tm.dep : Tm → Nat
  | .nm _ => 1
  | .vl _ => 1
  | .two _ a b => 1 + max a.dep b.dep
  | .nt a => 1 + a.dep
  | .pk c a b => 1 + max (max c.dep a.dep) b.dep
def addN (found more : List Str) : List Str := found ++ more.filter fun n => !found.contains n
def Tm.names : Tm → List Str
  | .nm s => [s]
  | .vl _ => []
  | .two _ a b => addN (addN [] a.names) b.names
  | .nt a => addN [] a.names
  | .pk c a b => addN (addN (addN [] c.names) a.names) b.names
theorem Tm.names_parts (t : Tm) (h : ∀ s, t ≠ .nm s) : t.names = t.parts.foldl (fun acc p => addN acc p.names) [] := by
  cases t with
  | nm s => exact absurd rfl (h s)
  | vl v => rfl
  | two op a b => rfl
  | nt a => rfl
  | pk c a b => rfl
theorem Tm.dep_parts (t : Tm) : (t.dep : Int) = 1 + maxL (t.parts.map fun p => (p.dep : Int)) := by
  have m2 : ∀ a b : Nat, PySem.W.maxOf (a : Int) [(b : Int)] = ((max a b : Nat) : Int) := by
    intro a b
    show (if decide ((a : Int) < (b : Int)) = true then (b : Int) else (a : Int)) = _
    by_cases h : (a : Int) < (b : Int)
    · rw [if_pos (decide_eq_true h)]; omega
    · rw [if_neg (by rw [decide_eq_false h]; decide)]; omega
  have m3 : ∀ a b c : Nat, PySem.W.maxOf (a : Int) [(b : Int), (c : Int)] = ((max (max a b) c : Nat) : Int) := by
    intro a b c
    have h1 := m2 a b
    have h2 := m2 (max a b) c
    show PySem.W.maxOf (PySem.W.maxOf (a : Int) [(b : Int)]) [(c : Int)] = _
    rw [h1, h2]
  cases t with
  | nm s => rfl
  | vl v => rfl
  | two op a b =>
    show ((1 + max a.dep b.dep : Nat) : Int) = 1 + PySem.W.maxOf (a.dep : Int) [(b.dep : Int)]
    rw [m2]; omega
  | nt a =>
    show ((1 + a.dep : Nat) : Int) = 1 + (a.dep : Int)
    omega
  | pk c a b =>
    show ((1 + max (max c.dep a.dep) b.dep : Nat) : Int) = 1 + PySem.W.maxOf (c.dep : Int) [(a.dep : Int), (b.dep : Int)]
    rw [m3]; omega
theorem Tm.dep_pos (t : Tm) : 1 ≤ t.dep := by cases t <;> simp [Tm.dep] <;> omega
theorem Tm.dep_part {t p : Tm} (h : p ∈ t.parts) : p.dep + 1 ≤ t.dep := by
  cases t with
  | nm s => cases h
  | vl v => cases h
  | two op a b =>
    simp only [Tm.parts, List.mem_cons, List.not_mem_nil, or_false] at h
    rcases h with rfl | rfl <;> simp only [Tm.dep] <;> omega
  | nt a =>
    simp only [Tm.parts, List.mem_cons, List.not_mem_nil, or_false] at h
    subst h; simp only [Tm.dep]; omega
  | pk c a b =>
    simp only [Tm.parts, List.mem_cons, List.not_mem_nil, or_false] at h
    rcases h with rfl | rfl | rfl <;> simp only [Tm.dep] <;> omega
theorem Tm.parts_len (t : Tm) : t.parts.length ≤ 3 := by cases t <;> simp [Tm.parts]
/-! ### terms in the heap -/
def TermAt (Z : Adr) (H : Hp) : Tm → V → Prop
  | .nm s, v => ∃ a dx, v = .ref a ∧ H a = some (.ins Z.c_Name dx [("name", .str s)])
  | .vl x, v => ∃ a dx, v = .ref a ∧ H a = some (.ins Z.c_Value dx [("amount", x)])
  | .two op p q, v => ∃ a dx v1 v2, v = .ref a ∧ H a = some (.ins Z.c_Two dx [("op", .str op), ("one", v1), ("second", v2)]) ∧ TermAt Z H p v1 ∧ TermAt Z H q v2
  | .nt p, v => ∃ a dx v1, v = .ref a ∧ H a = some (.ins Z.c_Not dx [("one", v1)]) ∧ TermAt Z H p v1
  | .pk c p q, v => ∃ a dx v0 v1 v2, v = .ref a ∧ H a = some (.ins Z.c_Pick dx [("by", v0), ("one", v1), ("second", v2)]) ∧ TermAt Z H c v0 ∧ TermAt Z H p v1 ∧ TermAt Z H q v2
def InsK (H H2 : Hp) : Prop := ∀ a C dx fs, H a = some (.ins C dx fs) → H2 a = some (.ins C dx fs)
theorem TermAt.keep {Z : Adr} {H H2 : Hp} (e : InsK H H2) : ∀ {t : Tm} {v : V}, TermAt Z H t v → TermAt Z H2 t v := by
  intro t
  induction t with
  | nm s => rintro v ⟨a, dx, h1, h2⟩; exact ⟨a, dx, h1, e _ _ _ _ h2⟩
  | vl x => rintro v ⟨a, dx, h1, h2⟩; exact ⟨a, dx, h1, e _ _ _ _ h2⟩
  | two op p q ihp ihq => rintro v ⟨a, dx, v1, v2, h1, h2, h3, h4⟩; exact ⟨a, dx, v1, v2, h1, e _ _ _ _ h2, ihp h3, ihq h4⟩
  | nt p ihp => rintro v ⟨a, dx, v1, h1, h2, h3⟩; exact ⟨a, dx, v1, h1, e _ _ _ _ h2, ihp h3⟩
  | pk c p q ihc ihp ihq => rintro v ⟨a, dx, v0, v1, v2, h1, h2, h3, h4, h5⟩; exact ⟨a, dx, v0, v1, v2, h1, e _ _ _ _ h2, ihc h3, ihp h4, ihq h5⟩
theorem TermAt.up {Z : Adr} {H H2 : Hp} {t : Tm} {v : V} (h : TermAt Z H t v) (e : Ex H H2) : TermAt Z H2 t v := h.keep fun a C dx fs q => e _ _ q
theorem TermAt.upB {Z : Adr} {H H2 : Hp} {t : Tm} {v : V} {b : Addr} (h : TermAt Z H t v) (e : ExB b H H2) (hB : BoxAt H b) : TermAt Z H2 t v := h.keep fun a C dx fs q => e _ _ (box_ne hB q (fun _ _ _ z => by cases z)) q
def MC (Z : Adr) (C : Addr) : Prop := C = Z.c_Name ∨ C = Z.c_Value ∨ C = Z.c_Two ∨ C = Z.c_Not ∨ C = Z.c_Pick
/-- the class that a term is made of -/
def clsT (Z : Adr) : Tm → Addr
  | .nm _ => Z.c_Name
  | .vl _ => Z.c_Value
  | .two .. => Z.c_Two
  | .nt _ => Z.c_Not
  | .pk .. => Z.c_Pick
theorem clsT_MC (Z : Adr) (t : Tm) : MC Z (clsT Z t) := by
  cases t
  · exact .inl rfl
  · exact .inr (.inl rfl)
  · exact .inr (.inr (.inl rfl))
  · exact .inr (.inr (.inr (.inl rfl)))
  · exact .inr (.inr (.inr (.inr rfl)))
def fieldsOff (fs : List (Str × V)) : Prop := fs.lookup ("parts" : Str) = none ∧ fs.lookup ("names" : Str) = none ∧ fs.lookup ("levels" : Str) = none ∧ fs.lookup ("told" : Str) = none
theorem TermAt.cls {Z : Adr} {H : Hp} {t : Tm} {v : V} (h : TermAt Z H t v) : ∃ a dx fs, v = .ref a ∧ H a = some (.ins (clsT Z t) dx fs) ∧ fieldsOff fs := by
  have n1 : ∀ m f : Str, m ≠ f → (m == f) = false := fun m f h => by simpa using h
  cases t with
  | nm s =>
    obtain ⟨a, dx, h1, h2⟩ := h
    refine ⟨a, dx, _, h1, h2, ?_, ?_, ?_, ?_⟩ <;> (simp only [List.lookup]; rw [n1 _ _ (by decide +kernel)])
  | vl x =>
    obtain ⟨a, dx, h1, h2⟩ := h
    refine ⟨a, dx, _, h1, h2, ?_, ?_, ?_, ?_⟩ <;> (simp only [List.lookup]; rw [n1 _ _ (by decide +kernel)])
  | two op p q =>
    obtain ⟨a, dx, v1, v2, h1, h2, _⟩ := h
    refine ⟨a, dx, _, h1, h2, ?_, ?_, ?_, ?_⟩ <;> (simp only [List.lookup]; rw [n1 _ _ (by decide +kernel)]; simp only []; rw [n1 _ _ (by decide +kernel)]; simp only []; rw [n1 _ _ (by decide +kernel)])
  | nt p =>
    obtain ⟨a, dx, v1, h1, h2, _⟩ := h
    refine ⟨a, dx, _, h1, h2, ?_, ?_, ?_, ?_⟩ <;> (simp only [List.lookup]; rw [n1 _ _ (by decide +kernel)])
  | pk c p q =>
    obtain ⟨a, dx, v0, v1, v2, h1, h2, _⟩ := h
    refine ⟨a, dx, _, h1, h2, ?_, ?_, ?_, ?_⟩ <;> (simp only [List.lookup]; rw [n1 _ _ (by decide +kernel)]; simp only []; rw [n1 _ _ (by decide +kernel)]; simp only []; rw [n1 _ _ (by decide +kernel)])

/-! ### methods of terms: parts, levels, names -/
theorem lk_hd {f : Str} {v : V} {fs : List (Str × V)} : List.lookup f ((f, v) :: fs) = some v := by simp [List.lookup]
theorem lk_tl {f g : Str} {v : V} {fs : List (Str × V)} {r : Option V} (h : (f == g) = false) (k : List.lookup f fs = r) : List.lookup f ((g, v) :: fs) = r := by
  simp only [List.lookup, h]
  exact k
theorem put_tl {f g : Str} {v w : V} {fs : List (Str × V)} (h : decide (g = f) = false) : putF f v ((g, w) :: fs) = (g, w) :: putF f v fs := by rw [putF, if_neg (of_decide_eq_false h)]
theorem cls_two (T : Txt K mg Z) {t : Tm} (h : clsT Z t = Z.c_Two) : ∃ op a b, t = .two op a b := by
  cases t with
  | nm s => exact absurd h (difB_ne (i := 0) (j := 2) T.fact_dif rfl rfl (by decide))
  | vl s => exact absurd h (difB_ne (i := 1) (j := 2) T.fact_dif rfl rfl (by decide))
  | two op a b => exact ⟨_, _, _, rfl⟩
  | nt a => exact absurd h.symm (difB_ne (i := 2) (j := 3) T.fact_dif rfl rfl (by decide))
  | pk c a b => exact absurd h.symm (difB_ne (i := 2) (j := 4) T.fact_dif rfl rfl (by decide))
theorem cls_nt (T : Txt K mg Z) {t : Tm} (h : clsT Z t = Z.c_Not) : ∃ a, t = .nt a := by
  cases t with
  | nm s => exact absurd h (difB_ne (i := 0) (j := 3) T.fact_dif rfl rfl (by decide))
  | vl s => exact absurd h (difB_ne (i := 1) (j := 3) T.fact_dif rfl rfl (by decide))
  | two op a b => exact absurd h (difB_ne (i := 2) (j := 3) T.fact_dif rfl rfl (by decide))
  | nt a => exact ⟨_, rfl⟩
  | pk c a b => exact absurd h.symm (difB_ne (i := 3) (j := 4) T.fact_dif rfl rfl (by decide))
theorem cls_pk (T : Txt K mg Z) {t : Tm} (h : clsT Z t = Z.c_Pick) : ∃ c a b, t = .pk c a b := by
  cases t with
  | nm s => exact absurd h (difB_ne (i := 0) (j := 4) T.fact_dif rfl rfl (by decide))
  | vl s => exact absurd h (difB_ne (i := 1) (j := 4) T.fact_dif rfl rfl (by decide))
  | two op a b => exact absurd h (difB_ne (i := 2) (j := 4) T.fact_dif rfl rfl (by decide))
  | nt a => exact absurd h (difB_ne (i := 3) (j := 4) T.fact_dif rfl rfl (by decide))
  | pk c a b => exact ⟨_, _, _, rfl⟩
theorem cls_nm (T : Txt K mg Z) {t : Tm} (h : clsT Z t = Z.c_Name) : ∃ s, t = .nm s := by
  cases t with
  | nm s => exact ⟨_, rfl⟩
  | vl s => exact absurd h.symm (difB_ne (i := 0) (j := 1) T.fact_dif rfl rfl (by decide))
  | two op a b => exact absurd h.symm (difB_ne (i := 0) (j := 2) T.fact_dif rfl rfl (by decide))
  | nt a => exact absurd h.symm (difB_ne (i := 0) (j := 3) T.fact_dif rfl rfl (by decide))
  | pk c a b => exact absurd h.symm (difB_ne (i := 0) (j := 4) T.fact_dif rfl rfl (by decide))
theorem cls_vl (T : Txt K mg Z) {t : Tm} (h : clsT Z t = Z.c_Value) : ∃ s, t = .vl s := by
  cases t with
  | nm s => exact absurd h (difB_ne (i := 0) (j := 1) T.fact_dif rfl rfl (by decide))
  | vl s => exact ⟨_, rfl⟩
  | two op a b => exact absurd h.symm (difB_ne (i := 1) (j := 2) T.fact_dif rfl rfl (by decide))
  | nt a => exact absurd h.symm (difB_ne (i := 1) (j := 3) T.fact_dif rfl rfl (by decide))
  | pk c a b => exact absurd h.symm (difB_ne (i := 1) (j := 4) T.fact_dif rfl rfl (by decide))
def PartsAt (Z : Adr) (H : Hp) : List Tm → List V → Prop
  | [], [] => True
  | t :: ts, v :: vs => TermAt Z H t v ∧ PartsAt Z H ts vs
  | _, _ => False
theorem PartsAt.len {Z : Adr} {H : Hp} : ∀ {ts : List Tm} {vs : List V}, PartsAt Z H ts vs → vs.length = ts.length
  | [], [], _ => rfl
  | t :: ts, v :: vs, h => by rw [List.length_cons, List.length_cons, PartsAt.len h.2]
theorem PartsAt.at {Z : Adr} {H : Hp} : ∀ {ts : List Tm} {vs : List V} {i : Nat} {v : V}, PartsAt Z H ts vs → vs[i]? = some v → ∃ t, ts[i]? = some t ∧ TermAt Z H t v
  | [], [], i, v, _, h => by simp at h
  | t :: ts, w :: vs, 0, v, h, e => by
    have : w = v := by simpa using e
    subst this
    exact ⟨t, rfl, h.1⟩
  | t :: ts, w :: vs, i + 1, v, h, e => by
    rw [List.getElem?_cons_succ] at e
    obtain ⟨t2, h2, h3⟩ := PartsAt.at h.2 e
    exact ⟨t2, by rw [List.getElem?_cons_succ]; exact h2, h3⟩
theorem PartsAt.up {Z : Adr} {H H2 : Hp} (e : Ex H H2) : ∀ {ts : List Tm} {vs : List V}, PartsAt Z H ts vs → PartsAt Z H2 ts vs
  | [], [], _ => True.intro
  | t :: ts, v :: vs, h => ⟨h.1.up e, PartsAt.up e h.2⟩
def spk_parts (Z : Adr) (S : Tm → Prop) : Sp := fun vs H Q _ => ∃ t v, vs = [v] ∧ TermAt Z H t v ∧ S t ∧ ∀ ws p H2, H p = none → Ex H H2 → H2 p = some (.lst ws) → PartsAt Z H2 t.parts ws → Q (.ref p) H2
def spm_parts (Z : Adr) (C : Addr) : Sp := spk_parts Z fun t => clsT Z t = C
theorem ok_Term_parts (T : Txt K mg Z) : FnOk P w K mg base CX0 1 Z.f_Term_parts Z.fd_Term_parts ["self"] (spk_parts Z fun t => t.parts = []) := by
  refine T.F_Term_parts.ok sc_Term_parts (fun vs H Q E h => ?_) (fun cdv AA outer s H vs Q E hr h => ?_)
  · obtain ⟨t, v, rfl, _⟩ := h
    rfl
  · obtain ⟨t, v, rfl, ht, hp, k⟩ := h
    refine ⟨_, (pss_one (ps_ret (pe_lst pa_nil))), ?_⟩
    walk_at "ss"
    refine newL fun p H2 h0 e2 g2 => k _ p H2 h0 e2 g2 ?_
    rw [hp]
    exact True.intro
theorem ok_Two_parts (T : Txt K mg Z) : FnOk P w K mg base CX0 1 Z.f_Two_parts Z.fd_Two_parts ["self"] (spk_parts Z fun t => ∃ op a b, t = .two op a b) := by
  refine T.F_Two_parts.ok sc_Two_parts (fun vs H Q E h => ?_) (fun cdv AA outer s H vs Q E hr h => ?_)
  · obtain ⟨t, v, rfl, _⟩ := h
    rfl
  · obtain ⟨t, v, rfl, ht, ⟨op, x, y, rfl⟩, k⟩ := h
    have TX := tcB_ok T.x_Two
    obtain ⟨a, dx, v1, v2, rfl, ha, h1, h2⟩ := ht
    refine ⟨_, (pss_one (ps_ret (pe_lst (pa_cons (pe_fld (pv 0) (by rfl)) (pa_cons (pe_fld (pv 0) (by rfl)) pa_nil))))), ?_⟩
    walk_at "ss"
    refine ⟨_, _, _, _, _, rfl, ha, TX.cl, TX.no _ (by decide +kernel), lk_tl (by decide +kernel) lk_hd, ?_⟩
    walk_at "ss"
    refine ⟨_, _, _, _, _, rfl, ha, TX.cl, TX.no _ (by decide +kernel), lk_tl (by decide +kernel) (lk_tl (by decide +kernel) lk_hd), ?_⟩
    walk_at "ss"
    exact newL fun p H2 h0 e2 g2 => k _ p H2 h0 e2 g2 ⟨h1.up e2, h2.up e2, True.intro⟩
theorem ok_Not_parts (T : Txt K mg Z) : FnOk P w K mg base CX0 1 Z.f_Not_parts Z.fd_Not_parts ["self"] (spk_parts Z fun t => ∃ a, t = .nt a) := by
  refine T.F_Not_parts.ok sc_Not_parts (fun vs H Q E h => ?_) (fun cdv AA outer s H vs Q E hr h => ?_)
  · obtain ⟨t, v, rfl, _⟩ := h
    rfl
  · obtain ⟨t, v, rfl, ht, ⟨x, rfl⟩, k⟩ := h
    have TX := tcB_ok T.x_Not
    obtain ⟨a, dx, v1, rfl, ha, h1⟩ := ht
    refine ⟨_, (pss_one (ps_ret (pe_lst (pa_cons (pe_fld (pv 0) (by rfl)) pa_nil)))), ?_⟩
    walk_at "ss"
    refine ⟨_, _, _, _, _, rfl, ha, TX.cl, TX.no _ (by decide +kernel), lk_hd, ?_⟩
    walk_at "ss"
    exact newL fun p H2 h0 e2 g2 => k _ p H2 h0 e2 g2 ⟨h1.up e2, True.intro⟩
theorem ok_Pick_parts (T : Txt K mg Z) : FnOk P w K mg base CX0 1 Z.f_Pick_parts Z.fd_Pick_parts ["self"] (spk_parts Z fun t => ∃ c a b, t = .pk c a b) := by
  refine T.F_Pick_parts.ok sc_Pick_parts (fun vs H Q E h => ?_) (fun cdv AA outer s H vs Q E hr h => ?_)
  · obtain ⟨t, v, rfl, _⟩ := h
    rfl
  · obtain ⟨t, v, rfl, ht, ⟨c, x, y, rfl⟩, k⟩ := h
    have TX := tcB_ok T.x_Pick
    obtain ⟨a, dx, v0, v1, v2, rfl, ha, h0, h1, h2⟩ := ht
    refine ⟨_, (pss_one (ps_ret (pe_lst (pa_cons (pe_fld (pv 0) (by rfl)) (pa_cons (pe_fld (pv 0) (by rfl)) (pa_cons (pe_fld (pv 0) (by rfl)) pa_nil)))))), ?_⟩
    walk_at "ss"
    refine ⟨_, _, _, _, _, rfl, ha, TX.cl, TX.no _ (by decide +kernel), lk_hd, ?_⟩
    walk_at "ss"
    refine ⟨_, _, _, _, _, rfl, ha, TX.cl, TX.no _ (by decide +kernel), lk_tl (by decide +kernel) lk_hd, ?_⟩
    walk_at "ss"
    refine ⟨_, _, _, _, _, rfl, ha, TX.cl, TX.no _ (by decide +kernel), lk_tl (by decide +kernel) (lk_tl (by decide +kernel) lk_hd), ?_⟩
    walk_at "ss"
    exact newL fun p H2 hp e2 g2 => k _ p H2 hp e2 g2 ⟨h0.up e2, h1.up e2, h2.up e2, True.intro⟩
theorem gm_parts (T : Txt K mg Z) : ∀ C, MC Z C → MOk P w K mg base CX0 1 C "parts" (spm_parts Z C) := by
  rintro C (rfl | rfl | rfl | rfl | rfl)
  · exact ⟨(tcB_ok T.x_Name).cl, _, _, _, ⟨T.h_parts_Name, T.y_Term_parts, T.F_Term_parts.kp⟩, (ok_Term_parts T).imp fun vs H Q E ⟨t, v, e, h, hc, k⟩ => ⟨t, v, e, h, (by obtain ⟨s, rfl⟩ := cls_nm T hc; rfl), k⟩, T.b_Term_parts⟩
  · exact ⟨(tcB_ok T.x_Value).cl, _, _, _, ⟨T.h_parts_Value, T.y_Term_parts, T.F_Term_parts.kp⟩, (ok_Term_parts T).imp fun vs H Q E ⟨t, v, e, h, hc, k⟩ => ⟨t, v, e, h, (by obtain ⟨s, rfl⟩ := cls_vl T hc; rfl), k⟩, T.b_Term_parts⟩
  · exact ⟨(tcB_ok T.x_Two).cl, _, _, _, ⟨T.h_parts_Two, T.y_Two_parts, T.F_Two_parts.kp⟩, (ok_Two_parts T).imp fun vs H Q E ⟨t, v, e, h, hc, k⟩ => ⟨t, v, e, h, cls_two T hc, k⟩, T.b_Two_parts⟩
  · exact ⟨(tcB_ok T.x_Not).cl, _, _, _, ⟨T.h_parts_Not, T.y_Not_parts, T.F_Not_parts.kp⟩, (ok_Not_parts T).imp fun vs H Q E ⟨t, v, e, h, hc, k⟩ => ⟨t, v, e, h, cls_nt T hc, k⟩, T.b_Not_parts⟩
  · exact ⟨(tcB_ok T.x_Pick).cl, _, _, _, ⟨T.h_parts_Pick, T.y_Pick_parts, T.F_Pick_parts.kp⟩, (ok_Pick_parts T).imp fun vs H Q E ⟨t, v, e, h, hc, k⟩ => ⟨t, v, e, h, cls_pk T hc, k⟩, T.b_Pick_parts⟩
/-! levels -/
def spt_levels (Z : Adr) (n : Nat) : Sp := fun vs H Q _ => ∃ t v, vs = [v] ∧ TermAt Z H t v ∧ t.dep ≤ n ∧ RetV (.int (t.dep : Nat)) H Q
def spm_levels (Z : Adr) (n : Nat) (C : Addr) : Sp := spt_levels Z n
theorem ok_Term_levels (T : Txt K mg Z) {n : Nat} (GM_parts : ∀ C, MC Z C → MOk P w K mg base CX0 1 C "parts" (spm_parts Z C)) (GM_levels : ∀ C, MC Z C → MOk P w K mg base CX0 (n + 2) C "levels" (spm_levels Z n C)) : FnOk P w K mg base CX0 (n + 3) Z.f_Term_levels Z.fd_Term_levels ["self"] (spt_levels Z (n + 1)) := by
  refine T.F_Term_levels.ok sc_Term_levels (fun vs H Q E h => ?_) (fun cdv AA outer s H vs Q E hr h => ?_)
  · obtain ⟨t, v, rfl, _⟩ := h
    rfl
  · obtain ⟨t, v, rfl, ht, hd, k⟩ := h
    obtain ⟨a, dx, fs, rfl, ha, l1, l2, l3, l4⟩ := ht.cls
    refine ⟨_, (pss_one (ps_ret (pe_op op_add pe_int (pe_callBK (call_maxD hr) (by rfl) T.n_max (by decide +kernel) (pa_cons (pe_lc (own := [("part", 1)]) (g := (gName 1)) (tt := tYes) (te := (tMP (MC Z) "levels" (spm_levels Z n) E0 (tVar 1) tNil)) rfl sc_Term_levels.nd (pi_list (pe_methP0 (pv 0) GM_parts (hr.mono (by omega)) pass0)) (blkOk_by (own := [("part", 1)]) (N := N_Term_levels) (sc := defScope s_Term_levels) (by decide +kernel)) (fun _ _ _ _ _ => (pg_name (i := 1) sc_Term_levels.nd rfl (Or.inl rfl))) (fun _ _ _ _ _ => pts_nil) (fun _ _ _ _ _ => (pe_methP0 (pv 1) GM_levels (hr.mono (by omega)) pass0))) pa_nil) (pk_cons pe_int pk_nil))))), ?_⟩
    walk_at "ss"
    refine ⟨a, _, dx, fs, rfl, ha, clsT_MC Z t, l1, ?_⟩
    walk_at "ss"
    refine ⟨t, _, rfl, ht, rfl, fun ws p H2 hp e2 g2 hw => ?_⟩
    have hl := hw.len
    have hl3 := t.parts_len
    refine ⟨p, rfl, ⟨_, SqL.of g2⟩, lcL (fun i => (t.parts[i]?).bind fun q => some (.int (q.dep : Nat))) (SqL.of g2) (by omega) (fun i x hx => ?_) ?_⟩
    · obtain ⟨q, hq, hqx⟩ := hw.at hx
      intro H3 e3 R hR
      have hqx3 := hqx.up e3
      obtain ⟨a4, dx4, fs4, rfl, ha4, m1, m2, m3, m4⟩ := hqx3.cls
      walk_at "ss"
      refine ⟨a4, _, dx4, fs4, rfl, ha4, clsT_MC Z q, m3, ?_⟩
      walk_at "ss"
      have := Tm.dep_part (List.mem_of_getElem? hq)
      refine ⟨q, _, rfl, hqx3, by omega, fun H4 e4 => ?_⟩
      rw [hq] at hR
      exact hR _ e4
    rw [hl, fm_range, fm_some]
    intro p3 H3 hp3 e3 g3
    walk_at "ss"
    have em : t.parts.map (fun q => V.int (q.dep : Nat)) = (t.parts.map fun q => ((q.dep : Nat) : Int)).map V.int := by rw [List.map_map]; rfl
    rw [em] at g3
    have ed := t.dep_parts
    refine ⟨p3, _, _, rfl, rfl, SqL.of g3, fun e0 => ?_, fun y ys e0 => ?_⟩
    · walk_at "ss"
      rw [e0] at ed
      have e1 : (1 : Int) + 0 = (t.dep : Nat) := by rw [ed]; rfl
      rw [e1]
      exact k _ (e2.trans e3)
    · walk_at "ss"
      rw [e0] at ed
      have e1 : (1 : Int) + PySem.W.maxOf y ys = (t.dep : Nat) := by rw [ed]; rfl
      rw [e1]
      exact k _ (e2.trans e3)
theorem mok_none {n k : Nat} {C : Addr} {m : Str} {f : Addr} {fd : FuncData} {ps : List Str} {sp : Sp} (cl : Cls K C) (hm : Meth K C m f) (hb : Binds K fd ps []) (h : ∀ vs H Q E, ¬ sp vs H Q E) : MOk P w K mg base CX0 k C m sp :=
  ⟨cl, f, fd, ps, hm, ⟨fun vs H Q E q => (h _ _ _ _ q).elim, fun _ _ _ _ _ _ _ _ _ _ _ _ _ q => (h _ _ _ _ q).elim⟩, hb⟩
theorem gm_levels (T : Txt K mg Z) : ∀ n, ∀ C, MC Z C → MOk P w K mg base CX0 (n + 2) C "levels" (spm_levels Z n C) := by
  intro n
  induction n with
  | zero =>
    have hN : ∀ vs H Q E, ¬ spt_levels Z 0 vs H Q E := fun vs H Q E ⟨t, v, _, _, hd, _⟩ => by have := t.dep_pos; omega
    rintro C (rfl | rfl | rfl | rfl | rfl)
    · exact mok_none (n := 0) (tcB_ok T.x_Name).cl ⟨T.h_levels_Name, T.y_Term_levels, T.F_Term_levels.kp⟩ T.b_Term_levels hN
    · exact mok_none (n := 0) (tcB_ok T.x_Value).cl ⟨T.h_levels_Value, T.y_Term_levels, T.F_Term_levels.kp⟩ T.b_Term_levels hN
    · exact mok_none (n := 0) (tcB_ok T.x_Two).cl ⟨T.h_levels_Two, T.y_Term_levels, T.F_Term_levels.kp⟩ T.b_Term_levels hN
    · exact mok_none (n := 0) (tcB_ok T.x_Not).cl ⟨T.h_levels_Not, T.y_Term_levels, T.F_Term_levels.kp⟩ T.b_Term_levels hN
    · exact mok_none (n := 0) (tcB_ok T.x_Pick).cl ⟨T.h_levels_Pick, T.y_Term_levels, T.F_Term_levels.kp⟩ T.b_Term_levels hN
  | succ n ih =>
    have F := ok_Term_levels (P := P) (w := w) (base := base) T (gm_parts T) ih
    rintro C (rfl | rfl | rfl | rfl | rfl)
    · exact ⟨(tcB_ok T.x_Name).cl, _, _, _, ⟨T.h_levels_Name, T.y_Term_levels, T.F_Term_levels.kp⟩, F, T.b_Term_levels⟩
    · exact ⟨(tcB_ok T.x_Value).cl, _, _, _, ⟨T.h_levels_Value, T.y_Term_levels, T.F_Term_levels.kp⟩, F, T.b_Term_levels⟩
    · exact ⟨(tcB_ok T.x_Two).cl, _, _, _, ⟨T.h_levels_Two, T.y_Term_levels, T.F_Term_levels.kp⟩, F, T.b_Term_levels⟩
    · exact ⟨(tcB_ok T.x_Not).cl, _, _, _, ⟨T.h_levels_Not, T.y_Term_levels, T.F_Term_levels.kp⟩, F, T.b_Term_levels⟩
    · exact ⟨(tcB_ok T.x_Pick).cl, _, _, _, ⟨T.h_levels_Pick, T.y_Term_levels, T.F_Term_levels.kp⟩, F, T.b_Term_levels⟩

/-! names -/
theorem PartsAt.keep {Z : Adr} {H H2 : Hp} (e : InsK H H2) : ∀ {ts : List Tm} {vs : List V}, PartsAt Z H ts vs → PartsAt Z H2 ts vs
  | [], [], _ => True.intro
  | t :: ts, v :: vs, h => ⟨h.1.keep e, PartsAt.keep e h.2⟩
theorem InsK.lst {H : Hp} {f : Addr} {xs : List V} {o : HO} (h : H f = some (.lst xs)) : InsK H (upd H f o) := fun a C dx fs ha => by
  rw [upd_ne (ne_of ha h (fun z => by cases z))]
  exact ha
theorem addN_len (a b : List Str) : (addN a b).length ≤ a.length + b.length := by
  unfold addN
  rw [List.length_append]
  have := List.length_filter_le (fun n => !a.contains n) b
  omega
theorem Tm.names_len (t : Tm) : t.names.length ≤ 3 ^ t.dep := by
  induction t with
  | nm s => simp [Tm.names, Tm.dep]
  | vl v => simp [Tm.names, Tm.dep]
  | two op a b iha ihb =>
    have h1 := addN_len [] a.names
    have h2 := addN_len (addN [] a.names) b.names
    have p1 : 3 ^ a.dep ≤ 3 ^ max a.dep b.dep := Nat.pow_le_pow_right (by decide) (by omega)
    have p2 : 3 ^ b.dep ≤ 3 ^ max a.dep b.dep := Nat.pow_le_pow_right (by decide) (by omega)
    have e : 3 ^ (1 + max a.dep b.dep) = 3 * 3 ^ max a.dep b.dep := by rw [Nat.pow_add]
    show (addN (addN [] a.names) b.names).length ≤ 3 ^ (1 + max a.dep b.dep)
    rw [e]
    simp only [List.length_nil] at h1
    omega
  | nt a iha =>
    have h1 := addN_len [] a.names
    have e : 3 ^ (1 + a.dep) = 3 * 3 ^ a.dep := by rw [Nat.pow_add]
    show (addN [] a.names).length ≤ 3 ^ (1 + a.dep)
    rw [e]
    simp only [List.length_nil] at h1
    omega
  | pk c a b ihc iha ihb =>
    have h0 := addN_len [] c.names
    have h1 := addN_len (addN [] c.names) a.names
    have h2 := addN_len (addN (addN [] c.names) a.names) b.names
    have p0 : 3 ^ c.dep ≤ 3 ^ max (max c.dep a.dep) b.dep := Nat.pow_le_pow_right (by decide) (by omega)
    have p1 : 3 ^ a.dep ≤ 3 ^ max (max c.dep a.dep) b.dep := Nat.pow_le_pow_right (by decide) (by omega)
    have p2 : 3 ^ b.dep ≤ 3 ^ max (max c.dep a.dep) b.dep := Nat.pow_le_pow_right (by decide) (by omega)
    have e : 3 ^ (1 + max (max c.dep a.dep) b.dep) = 3 * 3 ^ max (max c.dep a.dep) b.dep := by rw [Nat.pow_add]
    show (addN (addN (addN [] c.names) a.names) b.names).length ≤ 3 ^ (1 + max (max c.dep a.dep) b.dep)
    rw [e]
    simp only [List.length_nil] at h0
    omega
theorem names_729 {t : Tm} (h : t.dep ≤ 6) : t.names.length ≤ 729 := by
  have h1 := t.names_len
  have h2 : 3 ^ t.dep ≤ 3 ^ 6 := Nat.pow_le_pow_right (by decide) h
  have e : (3 : Nat) ^ 6 = 729 := rfl
  omega
theorem inV_str {n : Str} : ∀ {F : List Str}, inV (.str n) (F.map V.str) = F.contains n
  | [] => rfl
  | a :: F => by
    have ih := inV_str (n := n) (F := F)
    unfold inV at ih ⊢
    rw [List.map_cons, List.any_cons, ih, List.contains_cons]
    show (a == n || F.contains n) = (n == a || F.contains n)
    rw [Bool.beq_comm]
theorem fm_new {F : List Str} : ∀ {l : List Str}, (l.map V.str).filterMap (fun x => if inV x (F.map V.str) then none else some x) = (l.filter fun n => !F.contains n).map V.str
  | [] => rfl
  | a :: l => by
    rw [List.map_cons, List.filterMap_cons, inV_str, List.filter_cons, fm_new]
    cases F.contains a <;> rfl
theorem flat_strs : ∀ {F : List Str}, (F.map V.str).all flatV = true
  | [] => rfl
  | a :: F => by rw [List.map_cons, List.all_cons, flat_strs] <;> rfl
def spt_names (Z : Adr) (n : Nat) (S : Tm → Prop) : Sp := fun vs H Q _ => ∃ t v, vs = [v] ∧ TermAt Z H t v ∧ S t ∧ t.dep ≤ n ∧ t.dep ≤ 6 ∧ RetL (t.names.map V.str) H Q
def spm_names (Z : Adr) (n : Nat) (C : Addr) : Sp := spt_names Z n fun t => clsT Z t = C
theorem ok_Name_names (T : Txt K mg Z) : FnOk P w K mg base CX0 1 Z.f_Name_names Z.fd_Name_names ["self"] (spt_names Z 1 fun t => ∃ s, t = .nm s) := by
  refine T.F_Name_names.ok sc_Name_names (fun vs H Q E h => ?_) (fun cdv AA outer s H vs Q E hr h => ?_)
  · obtain ⟨t, v, rfl, _⟩ := h
    rfl
  · obtain ⟨t, v, rfl, ht, ⟨s, rfl⟩, _, _, k⟩ := h
    have TX := tcB_ok T.x_Name
    obtain ⟨a, dx, rfl, ha⟩ := ht
    refine ⟨_, (pss_one (ps_ret (pe_lst (pa_cons (pe_fld (pv 0) (by rfl)) pa_nil)))), ?_⟩
    walk_at "ss"
    refine ⟨_, _, _, _, _, rfl, ha, TX.cl, TX.no _ (by decide +kernel), lk_hd, ?_⟩
    walk_at "ss"
    exact newL k
theorem ok_Term_names (T : Txt K mg Z) {n : Nat} (GM_parts : ∀ C, MC Z C → MOk P w K mg base CX0 1 C "parts" (spm_parts Z C)) (GM_names : ∀ C, MC Z C → MOk P w K mg base CX0 (n + 2) C "names" (spm_names Z n C)) : FnOk P w K mg base CX0 (n + 3) Z.f_Term_names Z.fd_Term_names ["self"] (spt_names Z (n + 1) fun t => ∀ s, t ≠ .nm s) := by
  refine T.F_Term_names.ok sc_Term_names (fun vs H Q E h => ?_) (fun cdv AA outer s H vs Q E hr h => ?_)
  · obtain ⟨t, v, rfl, _⟩ := h
    rfl
  · obtain ⟨t, v, rfl, ht, hS, hd, h6, k⟩ := h
    obtain ⟨a, dx, fs, rfl, ha, l1, l2, l3, l4⟩ := ht.cls
    refine ⟨_, (pss_cons (ps_set (i := 1) sc_Term_names.nd rfl (Or.inr rfl) (pe_lst pa_nil))
      (pss_cons (ps_for PassesOwn.never rfl (pi_list (pe_methP0 (pv 0) GM_parts (hr.mono (by omega)) pass0)) (pg_name (i := 2) sc_Term_names.nd rfl (Or.inl rfl)) (pss_one (ps_expr (pe_bm PySem.F.plainAttrs_list PySem.F.slot_list_extend PySem.F.type_list_extend mt_extend (pv 1) (pa_cons (pe_lc (own := [("name", 3)]) (g := (gName 3)) (tt := (tTest (tOp (rIn K true) (tVar 3) (tVar 1)))) (te := (tVar 3)) rfl sc_Term_names.nd (pi_list (pe_methP0 (pv 2) GM_names (hr.mono (by omega)) pass0)) (blkOk_by (own := [("name", 3)]) (N := N_Term_names) (sc := defScope s_Term_names) (by decide +kernel)) (fun _ _ _ _ _ => (pg_name (i := 3) sc_Term_names.nd rfl (Or.inl rfl))) (fun _ _ _ _ _ => (pts_one (pt_cmpR op_notIn_seq (pv 3) (pv 1) (by rfl)))) (fun _ _ _ _ _ => (pv 3))) pa_nil)))))
      (pss_one (ps_ret (pv 1))))), ?_⟩
    walk_at "ss"
    refine newL fun f H1 hf e1 g1 => ?_
    walk_at "ss"
    refine ⟨a, _, dx, fs, rfl, e1 _ _ ha, clsT_MC Z t, l1, ?_⟩
    walk_at "ss"
    refine ⟨t, _, rfl, ht.up e1, rfl, fun ws p H2 hp e2 g2 hw => ?_⟩
    have nfp : f ≠ p := ne_of_none g1 hp
    have hwl := hw.len
    refine ⟨p, rfl, ⟨_, SqL.of g2⟩, forL (xs := ws) (fun i σ' G => (∃ v2 v3, σ' = [some (.ref a), some (.ref f), v2, v3]) ∧ Ex H G ∧ G p = some (.lst ws) ∧ G f = some (.lst (((t.parts.take i).foldl (fun acc q => addN acc q.names) []).map V.str)) ∧ ((t.parts.take i).foldl (fun acc q => addN acc q.names) []).length ≤ i * 729 ∧ PartsAt Z G t.parts ws) ⟨⟨_, _, rfl⟩, e1.trans e2, g2, e2 _ _ g1, Nat.zero_le _, hw⟩ (fun i σ' G _ q => SqL.of q.2.2.1) ?_ ?_⟩
    · rintro i x σ' G hx ⟨⟨v2, v3, rfl⟩, eG, gp, gf, hbd, hw⟩
      obtain ⟨q, hq, hqx⟩ := hw.at hx
      have hi := (List.getElem?_eq_some_iff.mp hq).1
      have hl3 := t.parts_len
      have ef : (t.parts.take (i + 1)).foldl (fun acc q => addN acc q.names) [] = addN ((t.parts.take i).foldl (fun acc q => addN acc q.names) []) q.names := by
        rw [List.take_add_one, hq, List.foldl_append] <;> rfl
      generalize hF : (t.parts.take i).foldl (fun acc q => addN acc q.names) [] = F at gf ef hbd
      obtain ⟨a4, dx4, fs4, rfl, ha4, m1, m2, m3, m4⟩ := hqx.cls
      walk_at "ss"
      refine ⟨.inl ⟨rfl, _, SqL.of gf⟩, ?_⟩
      walk_at "ss"
      refine ⟨a4, _, dx4, fs4, rfl, ha4, clsT_MC Z q, m2, ?_⟩
      walk_at "ss"
      have hdp := Tm.dep_part (List.mem_of_getElem? hq)
      have hq7 := names_729 (t := q) (by omega)
      refine ⟨q, _, rfl, hqx, rfl, by omega, by omega, fun p5 H5 hp5 e5 g5 => ?_⟩
      refine ⟨p5, rfl, ⟨_, SqL.of g5⟩, lcLv (fun x => if inV x (F.map V.str) then none else some x) (SqL.of g5) (by rw [List.length_map]; omega) (fun x hx => ?_) ?_⟩
      · obtain ⟨s, hs, rfl⟩ := List.mem_map.mp hx
        intro H6 e6 R hR
        walk_at "ss"
        refine c_notin (.inl (SqL.of (e6 _ _ (e5 _ _ gf)))) rfl flat_strs ?_
        refine ⟨_, rfl, ?_⟩
        cases hin : inV (.str s) (F.map V.str) with
        | true =>
          rw [hin] at hR
          walk_at "ss"
          exact hR _ (Ex.refl _)
        | false =>
          rw [hin] at hR
          walk_at "ss"
          exact hR _ (Ex.refl _)
      rw [fm_new]
      intro p6 H6 hp6 e6 g6
      walk_at "ss"
      have gf6 := e6 _ _ (e5 _ _ gf)
      have hfl : (q.names.filter fun n => !F.contains n).length ≤ q.names.length := List.length_filter_le _ _
      refine ⟨f, p6, _, _, rfl, rfl, gf6, g6, Evl.sz_of (by rw [List.length_map, List.length_map]; omega), ?_⟩
      walk_at "ss"
      refine ⟨⟨_, _, rfl⟩, Ex.mut (eG.trans (e5.trans e6)) hf, by rw [upd_ne nfp.symm]; exact e6 _ _ (e5 _ _ gp), ?_, ?_, (hw.up (e5.trans e6)).keep (InsK.lst gf6)⟩
      · rw [upd_same, ef, ← List.map_append] <;> rfl
      · rw [ef]
        have := addN_len F q.names
        rw [Nat.succ_mul]
        omega
    · rintro σ' G ⟨⟨v2, v3, rfl⟩, eG, gp, gf, hbd, hw⟩
      walk_at "ss"
      rw [hwl, List.take_length, ← Tm.names_parts t hS] at gf
      exact k f G hf eG gf
theorem gm_names (T : Txt K mg Z) : ∀ n, ∀ C, MC Z C → MOk P w K mg base CX0 (n + 2) C "names" (spm_names Z n C) := by
  intro n
  induction n with
  | zero =>
    have hN : ∀ C vs H Q E, ¬ spm_names Z 0 C vs H Q E := fun C vs H Q E ⟨t, v, _, _, _, hd, _⟩ => by have := t.dep_pos; omega
    rintro C (rfl | rfl | rfl | rfl | rfl)
    · exact mok_none (n := 0) (tcB_ok T.x_Name).cl ⟨T.h_names_Name, T.y_Name_names, T.F_Name_names.kp⟩ T.b_Name_names (hN _)
    · exact mok_none (n := 0) (tcB_ok T.x_Value).cl ⟨T.h_names_Value, T.y_Term_names, T.F_Term_names.kp⟩ T.b_Term_names (hN _)
    · exact mok_none (n := 0) (tcB_ok T.x_Two).cl ⟨T.h_names_Two, T.y_Term_names, T.F_Term_names.kp⟩ T.b_Term_names (hN _)
    · exact mok_none (n := 0) (tcB_ok T.x_Not).cl ⟨T.h_names_Not, T.y_Term_names, T.F_Term_names.kp⟩ T.b_Term_names (hN _)
    · exact mok_none (n := 0) (tcB_ok T.x_Pick).cl ⟨T.h_names_Pick, T.y_Term_names, T.F_Term_names.kp⟩ T.b_Term_names (hN _)
  | succ n ih =>
    have F := ok_Term_names (P := P) (w := w) (base := base) T (gm_parts T) ih
    have F1 := (ok_Name_names (P := P) (w := w) (base := base) T).mono (show 1 ≤ n + 1 + 2 by omega)
    rintro C (rfl | rfl | rfl | rfl | rfl)
    · exact ⟨(tcB_ok T.x_Name).cl, _, _, _, ⟨T.h_names_Name, T.y_Name_names, T.F_Name_names.kp⟩, F1.imp fun vs H Q E ⟨t, v, e, h, hc, hd, h6, k⟩ => ⟨t, v, e, h, cls_nm T hc, (by obtain ⟨s, rfl⟩ := cls_nm T hc; exact Nat.le_refl _), h6, k⟩, T.b_Name_names⟩
    · exact ⟨(tcB_ok T.x_Value).cl, _, _, _, ⟨T.h_names_Value, T.y_Term_names, T.F_Term_names.kp⟩, F.imp fun vs H Q E ⟨t, v, e, h, hc, hd, h6, k⟩ => ⟨t, v, e, h, (by obtain ⟨s, rfl⟩ := cls_vl T hc; exact fun _ z => by cases z), hd, h6, k⟩, T.b_Term_names⟩
    · exact ⟨(tcB_ok T.x_Two).cl, _, _, _, ⟨T.h_names_Two, T.y_Term_names, T.F_Term_names.kp⟩, F.imp fun vs H Q E ⟨t, v, e, h, hc, hd, h6, k⟩ => ⟨t, v, e, h, (by obtain ⟨_, _, _, rfl⟩ := cls_two T hc; exact fun _ z => by cases z), hd, h6, k⟩, T.b_Term_names⟩
    · exact ⟨(tcB_ok T.x_Not).cl, _, _, _, ⟨T.h_names_Not, T.y_Term_names, T.F_Term_names.kp⟩, F.imp fun vs H Q E ⟨t, v, e, h, hc, hd, h6, k⟩ => ⟨t, v, e, h, (by obtain ⟨_, rfl⟩ := cls_nt T hc; exact fun _ z => by cases z), hd, h6, k⟩, T.b_Term_names⟩
    · exact ⟨(tcB_ok T.x_Pick).cl, _, _, _, ⟨T.h_names_Pick, T.y_Term_names, T.F_Term_names.kp⟩, F.imp fun vs H Q E ⟨t, v, e, h, hc, hd, h6, k⟩ => ⟨t, v, e, h, (by obtain ⟨_, _, _, rfl⟩ := cls_pk T hc; exact fun _ z => by cases z), hd, h6, k⟩, T.b_Term_names⟩

/-! ### what a term tells -/
def ToldAt (H : Hp) : Tm → V → Prop
  | .nm s, v => ∃ a, v = .ref a ∧ H a = some (.tup [.str "name", .str s])
  | .vl x, v => ∃ a, v = .ref a ∧ H a = some (.tup [.str "value", x])
  | .two op p q, v => ∃ a v1 v2, v = .ref a ∧ H a = some (.tup [.str "two", .str op, v1, v2]) ∧ ToldAt H p v1 ∧ ToldAt H q v2
  | .nt p, v => ∃ a v1, v = .ref a ∧ H a = some (.tup [.str "not", v1]) ∧ ToldAt H p v1
  | .pk c p q, v => ∃ a v0 v1 v2, v = .ref a ∧ H a = some (.tup [.str "pick", v0, v1, v2]) ∧ ToldAt H c v0 ∧ ToldAt H p v1 ∧ ToldAt H q v2
def TupK (H H2 : Hp) : Prop := ∀ a xs, H a = some (.tup xs) → H2 a = some (.tup xs)
theorem ToldAt.keep {H H2 : Hp} (e : TupK H H2) : ∀ {t : Tm} {v : V}, ToldAt H t v → ToldAt H2 t v := by
  intro t
  induction t with
  | nm s => rintro v ⟨a, h1, h2⟩; exact ⟨a, h1, e _ _ h2⟩
  | vl x => rintro v ⟨a, h1, h2⟩; exact ⟨a, h1, e _ _ h2⟩
  | two op p q ihp ihq => rintro v ⟨a, v1, v2, h1, h2, h3, h4⟩; exact ⟨a, v1, v2, h1, e _ _ h2, ihp h3, ihq h4⟩
  | nt p ihp => rintro v ⟨a, v1, h1, h2, h3⟩; exact ⟨a, v1, h1, e _ _ h2, ihp h3⟩
  | pk c p q ihc ihp ihq => rintro v ⟨a, v0, v1, v2, h1, h2, h3, h4, h5⟩; exact ⟨a, v0, v1, v2, h1, e _ _ h2, ihc h3, ihp h4, ihq h5⟩
theorem ToldAt.up {H H2 : Hp} {t : Tm} {v : V} (h : ToldAt H t v) (e : Ex H H2) : ToldAt H2 t v := h.keep fun a xs q => e _ _ q
theorem ToldAt.upB {H H2 : Hp} {t : Tm} {v : V} {b : Addr} (h : ToldAt H t v) (e : ExB b H H2) (hB : BoxAt H b) : ToldAt H2 t v := h.keep fun a xs q => e _ _ (box_ne hB q (fun _ _ _ z => by cases z)) q
def spt_told (Z : Adr) (n : Nat) (S : Tm → Prop) : Sp := fun vs H Q _ => ∃ t v, vs = [v] ∧ TermAt Z H t v ∧ S t ∧ t.dep ≤ n ∧ ∀ u H2, Ex H H2 → ToldAt H2 t u → Q u H2
def spm_told (Z : Adr) (n : Nat) (C : Addr) : Sp := spt_told Z n fun t => clsT Z t = C
theorem ok_Name_told (T : Txt K mg Z) : FnOk P w K mg base CX0 1 Z.f_Name_told Z.fd_Name_told ["self"] (spt_told Z 1 fun t => ∃ s, t = .nm s) := by
  refine T.F_Name_told.ok sc_Name_told (fun vs H Q E h => ?_) (fun cdv AA outer s H vs Q E hr h => ?_)
  · obtain ⟨t, v, rfl, _⟩ := h
    rfl
  · obtain ⟨t, v, rfl, ht, ⟨s, rfl⟩, _, k⟩ := h
    have TX := tcB_ok T.x_Name
    obtain ⟨a, dx, rfl, ha⟩ := ht
    refine ⟨_, (pss_one (ps_ret (pe_tup (pa_cons pe_str (pa_cons (pe_fld (pv 0) (by rfl)) pa_nil))))), ?_⟩
    walk_at "ss"
    refine ⟨_, _, _, _, _, rfl, ha, TX.cl, TX.no _ (by decide +kernel), lk_hd, ?_⟩
    walk_at "ss"
    exact newT fun p H2 hp e2 g2 => k _ _ e2 ⟨p, rfl, g2⟩
theorem ok_Value_told (T : Txt K mg Z) : FnOk P w K mg base CX0 1 Z.f_Value_told Z.fd_Value_told ["self"] (spt_told Z 1 fun t => ∃ s, t = .vl s) := by
  refine T.F_Value_told.ok sc_Value_told (fun vs H Q E h => ?_) (fun cdv AA outer s H vs Q E hr h => ?_)
  · obtain ⟨t, v, rfl, _⟩ := h
    rfl
  · obtain ⟨t, v, rfl, ht, ⟨s, rfl⟩, _, k⟩ := h
    have TX := tcB_ok T.x_Value
    obtain ⟨a, dx, rfl, ha⟩ := ht
    refine ⟨_, (pss_one (ps_ret (pe_tup (pa_cons pe_str (pa_cons (pe_fld (pv 0) (by rfl)) pa_nil))))), ?_⟩
    walk_at "ss"
    refine ⟨_, _, _, _, _, rfl, ha, TX.cl, TX.no _ (by decide +kernel), lk_hd, ?_⟩
    walk_at "ss"
    exact newT fun p H2 hp e2 g2 => k _ _ e2 ⟨p, rfl, g2⟩
theorem ok_Two_told (T : Txt K mg Z) {n : Nat} (GM_told : ∀ C, MC Z C → MOk P w K mg base CX0 (n + 2) C "told" (spm_told Z n C)) : FnOk P w K mg base CX0 (n + 3) Z.f_Two_told Z.fd_Two_told ["self"] (spt_told Z (n + 1) fun t => ∃ op a b, t = .two op a b) := by
  refine T.F_Two_told.ok sc_Two_told (fun vs H Q E h => ?_) (fun cdv AA outer s H vs Q E hr h => ?_)
  · obtain ⟨t, v, rfl, _⟩ := h
    rfl
  · obtain ⟨t, v, rfl, ht, ⟨op, x, y, rfl⟩, hd, k⟩ := h
    have TX := tcB_ok T.x_Two
    obtain ⟨a, dx, v1, v2, rfl, ha, h1, h2⟩ := ht
    simp only [Tm.dep] at hd
    refine ⟨_, (pss_one (ps_ret (pe_tup (pa_cons pe_str (pa_cons (pe_fld (pv 0) (by rfl)) (pa_cons (pe_methP0 (pe_fld (pv 0) (by rfl)) GM_told (hr.mono (by omega)) pass0) (pa_cons (pe_methP0 (pe_fld (pv 0) (by rfl)) GM_told (hr.mono (by omega)) pass0) pa_nil))))))), ?_⟩
    walk_at "ss"
    refine ⟨_, _, _, _, _, rfl, ha, TX.cl, TX.no _ (by decide +kernel), lk_hd, ?_⟩
    walk_at "ss"
    refine ⟨_, _, _, _, _, rfl, ha, TX.cl, TX.no _ (by decide +kernel), lk_tl (by decide +kernel) lk_hd, ?_⟩
    obtain ⟨a3, dx3, fs3, rfl, ha3, m1, m2, m3, m4⟩ := h1.cls
    refine ⟨a3, _, dx3, fs3, rfl, ha3, clsT_MC Z x, m4, ?_⟩
    walk_at "ss"
    refine ⟨x, _, rfl, h1, rfl, by omega, fun u1 H1 e1 t1 => ?_⟩
    walk_at "ss"
    refine ⟨_, _, _, _, _, rfl, e1 _ _ ha, TX.cl, TX.no _ (by decide +kernel), lk_tl (by decide +kernel) (lk_tl (by decide +kernel) lk_hd), ?_⟩
    have h2' := h2.up e1
    obtain ⟨a4, dx4, fs4, rfl, ha4, m1, m2, m3, m4⟩ := h2'.cls
    refine ⟨a4, _, dx4, fs4, rfl, ha4, clsT_MC Z y, m4, ?_⟩
    walk_at "ss"
    refine ⟨y, _, rfl, h2', rfl, by omega, fun u2 H2 e2 t2 => ?_⟩
    walk_at "ss"
    exact newT fun p H3 hp e3 g3 => k _ _ (e1.trans (e2.trans e3)) ⟨p, _, _, rfl, g3, t1.up (e2.trans e3), t2.up e3⟩
theorem ok_Not_told (T : Txt K mg Z) {n : Nat} (GM_told : ∀ C, MC Z C → MOk P w K mg base CX0 (n + 2) C "told" (spm_told Z n C)) : FnOk P w K mg base CX0 (n + 3) Z.f_Not_told Z.fd_Not_told ["self"] (spt_told Z (n + 1) fun t => ∃ a, t = .nt a) := by
  refine T.F_Not_told.ok sc_Not_told (fun vs H Q E h => ?_) (fun cdv AA outer s H vs Q E hr h => ?_)
  · obtain ⟨t, v, rfl, _⟩ := h
    rfl
  · obtain ⟨t, v, rfl, ht, ⟨x, rfl⟩, hd, k⟩ := h
    have TX := tcB_ok T.x_Not
    obtain ⟨a, dx, v1, rfl, ha, h1⟩ := ht
    simp only [Tm.dep] at hd
    refine ⟨_, (pss_one (ps_ret (pe_tup (pa_cons pe_str (pa_cons (pe_methP0 (pe_fld (pv 0) (by rfl)) GM_told (hr.mono (by omega)) pass0) pa_nil))))), ?_⟩
    walk_at "ss"
    refine ⟨_, _, _, _, _, rfl, ha, TX.cl, TX.no _ (by decide +kernel), lk_hd, ?_⟩
    obtain ⟨a3, dx3, fs3, rfl, ha3, m1, m2, m3, m4⟩ := h1.cls
    refine ⟨a3, _, dx3, fs3, rfl, ha3, clsT_MC Z x, m4, ?_⟩
    walk_at "ss"
    refine ⟨x, _, rfl, h1, rfl, by omega, fun u1 H1 e1 t1 => ?_⟩
    walk_at "ss"
    exact newT fun p H3 hp e3 g3 => k _ _ (e1.trans e3) ⟨p, _, rfl, g3, t1.up e3⟩
theorem ok_Pick_told (T : Txt K mg Z) {n : Nat} (GM_told : ∀ C, MC Z C → MOk P w K mg base CX0 (n + 2) C "told" (spm_told Z n C)) : FnOk P w K mg base CX0 (n + 3) Z.f_Pick_told Z.fd_Pick_told ["self"] (spt_told Z (n + 1) fun t => ∃ c a b, t = .pk c a b) := by
  refine T.F_Pick_told.ok sc_Pick_told (fun vs H Q E h => ?_) (fun cdv AA outer s H vs Q E hr h => ?_)
  · obtain ⟨t, v, rfl, _⟩ := h
    rfl
  · obtain ⟨t, v, rfl, ht, ⟨c, x, y, rfl⟩, hd, k⟩ := h
    have TX := tcB_ok T.x_Pick
    obtain ⟨a, dx, v0, v1, v2, rfl, ha, h0, h1, h2⟩ := ht
    simp only [Tm.dep] at hd
    refine ⟨_, (pss_one (ps_ret (pe_tup (pa_cons pe_str (pa_cons (pe_methP0 (pe_fld (pv 0) (by rfl)) GM_told (hr.mono (by omega)) pass0) (pa_cons (pe_methP0 (pe_fld (pv 0) (by rfl)) GM_told (hr.mono (by omega)) pass0) (pa_cons (pe_methP0 (pe_fld (pv 0) (by rfl)) GM_told (hr.mono (by omega)) pass0) pa_nil))))))), ?_⟩
    walk_at "ss"
    refine ⟨_, _, _, _, _, rfl, ha, TX.cl, TX.no _ (by decide +kernel), lk_hd, ?_⟩
    obtain ⟨a3, dx3, fs3, rfl, ha3, m1, m2, m3, m4⟩ := h0.cls
    refine ⟨a3, _, dx3, fs3, rfl, ha3, clsT_MC Z c, m4, ?_⟩
    walk_at "ss"
    refine ⟨c, _, rfl, h0, rfl, by omega, fun u0 H0 e0 t0 => ?_⟩
    walk_at "ss"
    refine ⟨_, _, _, _, _, rfl, e0 _ _ ha, TX.cl, TX.no _ (by decide +kernel), lk_tl (by decide +kernel) lk_hd, ?_⟩
    have h1' := h1.up e0
    obtain ⟨a4, dx4, fs4, rfl, ha4, m1, m2, m3, m4⟩ := h1'.cls
    refine ⟨a4, _, dx4, fs4, rfl, ha4, clsT_MC Z x, m4, ?_⟩
    walk_at "ss"
    refine ⟨x, _, rfl, h1', rfl, by omega, fun u1 H1 e1 t1 => ?_⟩
    walk_at "ss"
    refine ⟨_, _, _, _, _, rfl, e1 _ _ (e0 _ _ ha), TX.cl, TX.no _ (by decide +kernel), lk_tl (by decide +kernel) (lk_tl (by decide +kernel) lk_hd), ?_⟩
    have h2' := h2.up (e0.trans e1)
    obtain ⟨a5, dx5, fs5, rfl, ha5, m1, m2, m3, m4⟩ := h2'.cls
    refine ⟨a5, _, dx5, fs5, rfl, ha5, clsT_MC Z y, m4, ?_⟩
    walk_at "ss"
    refine ⟨y, _, rfl, h2', rfl, by omega, fun u2 H2 e2 t2 => ?_⟩
    walk_at "ss"
    exact newT fun p H3 hp e3 g3 => k _ _ (e0.trans (e1.trans (e2.trans e3))) ⟨p, _, _, _, rfl, g3, t0.up (e1.trans (e2.trans e3)), t1.up (e2.trans e3), t2.up e3⟩
theorem gm_told (T : Txt K mg Z) : ∀ n, ∀ C, MC Z C → MOk P w K mg base CX0 (n + 2) C "told" (spm_told Z n C) := by
  intro n
  induction n with
  | zero =>
    have hN : ∀ C vs H Q E, ¬ spm_told Z 0 C vs H Q E := fun C vs H Q E ⟨t, v, _, _, _, hd, _⟩ => by have := t.dep_pos; omega
    rintro C (rfl | rfl | rfl | rfl | rfl)
    · exact mok_none (n := 0) (tcB_ok T.x_Name).cl ⟨T.h_told_Name, T.y_Name_told, T.F_Name_told.kp⟩ T.b_Name_told (hN _)
    · exact mok_none (n := 0) (tcB_ok T.x_Value).cl ⟨T.h_told_Value, T.y_Value_told, T.F_Value_told.kp⟩ T.b_Value_told (hN _)
    · exact mok_none (n := 0) (tcB_ok T.x_Two).cl ⟨T.h_told_Two, T.y_Two_told, T.F_Two_told.kp⟩ T.b_Two_told (hN _)
    · exact mok_none (n := 0) (tcB_ok T.x_Not).cl ⟨T.h_told_Not, T.y_Not_told, T.F_Not_told.kp⟩ T.b_Not_told (hN _)
    · exact mok_none (n := 0) (tcB_ok T.x_Pick).cl ⟨T.h_told_Pick, T.y_Pick_told, T.F_Pick_told.kp⟩ T.b_Pick_told (hN _)
  | succ n ih =>
    have F1 := (ok_Name_told (P := P) (w := w) (base := base) T).mono (show 1 ≤ n + 1 + 2 by omega)
    have F2 := (ok_Value_told (P := P) (w := w) (base := base) T).mono (show 1 ≤ n + 1 + 2 by omega)
    have F3 := ok_Two_told (P := P) (w := w) (base := base) T ih
    have F4 := ok_Not_told (P := P) (w := w) (base := base) T ih
    have F5 := ok_Pick_told (P := P) (w := w) (base := base) T ih
    rintro C (rfl | rfl | rfl | rfl | rfl)
    · exact ⟨(tcB_ok T.x_Name).cl, _, _, _, ⟨T.h_told_Name, T.y_Name_told, T.F_Name_told.kp⟩, F1.imp fun vs H Q E ⟨t, v, e, h, hc, hd, k⟩ => ⟨t, v, e, h, cls_nm T hc, (by obtain ⟨s, rfl⟩ := cls_nm T hc; exact Nat.le_refl _), k⟩, T.b_Name_told⟩
    · exact ⟨(tcB_ok T.x_Value).cl, _, _, _, ⟨T.h_told_Value, T.y_Value_told, T.F_Value_told.kp⟩, F2.imp fun vs H Q E ⟨t, v, e, h, hc, hd, k⟩ => ⟨t, v, e, h, cls_vl T hc, (by obtain ⟨s, rfl⟩ := cls_vl T hc; exact Nat.le_refl _), k⟩, T.b_Value_told⟩
    · exact ⟨(tcB_ok T.x_Two).cl, _, _, _, ⟨T.h_told_Two, T.y_Two_told, T.F_Two_told.kp⟩, F3.imp fun vs H Q E ⟨t, v, e, h, hc, hd, k⟩ => ⟨t, v, e, h, cls_two T hc, hd, k⟩, T.b_Two_told⟩
    · exact ⟨(tcB_ok T.x_Not).cl, _, _, _, ⟨T.h_told_Not, T.y_Not_told, T.F_Not_told.kp⟩, F4.imp fun vs H Q E ⟨t, v, e, h, hc, hd, k⟩ => ⟨t, v, e, h, cls_nt T hc, hd, k⟩, T.b_Not_told⟩
    · exact ⟨(tcB_ok T.x_Pick).cl, _, _, _, ⟨T.h_told_Pick, T.y_Pick_told, T.F_Pick_told.kp⟩, F5.imp fun vs H Q E ⟨t, v, e, h, hc, hd, k⟩ => ⟨t, v, e, h, cls_pk T hc, hd, k⟩, T.b_Pick_told⟩

/-! ### terms made -/
def opsW : List Str := ["+", "-", "*", "/", "mod", "<", "=", "&", "|"]
def opsV2 : List V := opsW.map V.str
def sp_ops_told : Sp := fun vs H Q _ => vs = [] ∧ RetL opsV2 H Q
theorem ok_ops_told (T : Txt K mg Z) : FnOk P w K mg base CX0 1 Z.f_ops_told Z.fd_ops_told [] sp_ops_told := by
  refine T.F_ops_told.ok sc_ops_told (fun vs H Q E h => ?_) (fun cdv AA outer s H vs Q E hr h => ?_)
  · obtain ⟨rfl, _⟩ := h
    rfl
  · obtain ⟨rfl, k⟩ := h
    refine ⟨_, (pss_one (ps_ret (pe_callTy call_list_of (by rfl) T.n_list (by decide +kernel) (pa_cons (pe_gcst rfl T.c_OPS) pa_nil)))), ?_⟩
    walk_at "ss"
    refine ⟨_, _, rfl, .inr (T.t_OPS _), fun l hl => ?_⟩
    exact k l _ hl (Ex.new hl) upd_same
theorem subB_ok {C c : Addr} (h : subB K C c = true) : PySem.W.kitOne K (.ref C) (.ref c) = some true ∧ PySem.W.mroIn K C (.type "object") = some true ∧ PySem.W.findIn K (.ref C) "__eq__" = some (some (.builtin "object.__eq__")) := by
  unfold subB at h
  simp only [Bool.and_eq_true, decide_eq_true_eq] at h
  exact h
theorem TermAt.ty (T : Txt K mg Z) {H : Hp} {t : Tm} {v : V} (h : TermAt Z H t v) : TyX K H v (.ref (clsT Z t)) ∧ subB K (clsT Z t) Z.c_Term = true := by
  obtain ⟨a, dx, fs, rfl, ha, _⟩ := h.cls
  cases t with
  | nm s => exact ⟨(tcB_ok T.x_Name).ty ha, T.fact_is_Name⟩
  | vl s => exact ⟨(tcB_ok T.x_Value).ty ha, T.fact_is_Value⟩
  | two op x y => exact ⟨(tcB_ok T.x_Two).ty ha, T.fact_is_Two⟩
  | nt x => exact ⟨(tcB_ok T.x_Not).ty ha, T.fact_is_Not⟩
  | pk c x y => exact ⟨(tcB_ok T.x_Pick).ty ha, T.fact_is_Pick⟩
theorem is_term (T : Txt K mg Z) {H : Hp} {t : Tm} {v : V} {Q : VK} (h : TermAt Z H t v) (q : Q (.bl true) H) : rIsi K [v, .ref Z.c_Term] H Q :=
  ⟨v, .ref Z.c_Term, _, _, true, rfl, .own _, (h.ty T).1, (subB_ok (h.ty T).2).1, q⟩
theorem TermAt.noneOr (T : Txt K mg Z) {H : Hp} {t : Tm} {v : V} (h : TermAt Z H t v) : NoneOr K H v := by
  obtain ⟨a, dx, fs, rfl, ha, _⟩ := h.cls
  exact .inr ⟨a, _, dx, fs, rfl, ha, (subB_ok (h.ty T).2).2.1, (subB_ok (h.ty T).2).2.2⟩
def sp_need_term (Z : Adr) : Sp := fun vs H Q _ => ∃ t v, vs = [v] ∧ TermAt Z H t v ∧ t.dep ≤ 4 ∧ RetV v H Q
theorem ok_need_term (T : Txt K mg Z) : FnOk P w K mg base CX0 8 Z.f_need_term Z.fd_need_term ["thing"] (sp_need_term Z) := by
  refine T.F_need_term.ok sc_need_term (fun vs H Q E h => ?_) (fun cdv AA outer s H vs Q E hr h => ?_)
  · obtain ⟨t, v, rfl, _⟩ := h
    rfl
  · obtain ⟨t, v, rfl, ht, hd, k⟩ := h
    have GM_levels := gm_levels (P := P) (w := w) (base := base) T 4
    refine ⟨_, (pss_cons (ps_if (PW.pt (pw_or (pt_not (pt_val (pe_callB call_isi (by rfl) T.n_isinstance (by decide +kernel) (pa_cons (pv 0) (pa_cons (pe_gcst (v := .ref Z.c_Term) rfl ⟨_, T.m_Term, rfl⟩) pa_nil))))) (pw_or1 (pt_cmpR op_ge (pe_methP0 (pv 0) GM_levels (hr.mono (by omega)) pass0) (pe_gcst rfl T.c_MOST_LEVELS) (nomark _))))) (pss_one ps_never) pss_nil)
      (pss_one (ps_ret (pv 0)))), ?_⟩
    walk_at "ss"
    refine is_term T ht ?_
    walk_at "ss"
    obtain ⟨a, dx, fs, rfl, ha, l1, l2, l3, l4⟩ := ht.cls
    refine ⟨a, _, dx, fs, rfl, ha, clsT_MC Z t, l3, ?_⟩
    walk_at "ss"
    refine ⟨t, _, rfl, ht, hd, fun H1 e1 => ?_⟩
    walk_at "ss"
    refine if_ff (decide_eq_false (by omega)) ?_
    walk_at "ss"
    exact k _ e1
def isVal : V → Bool
  | .bl _ => true
  | .int i => decide (-1000000000 ≤ i) && decide (i ≤ 1000000000)
  | _ => false
theorem is_val {v : V} (h : isVal v = true) {H : Hp} {Q : VK} {E : XK} (q : Q (.bl true) H) : sp_is_value K [v] H Q E := by
  cases v with
  | bl b => exact ⟨_, rfl, .inr (.inl ⟨_, rfl, q⟩)⟩
  | int i =>
    refine ⟨_, rfl, .inl ⟨_, rfl, ?_⟩⟩
    rw [show (decide (-1000000000 ≤ i) && decide (i ≤ 1000000000)) = true from h]
    exact q
  | _ => exact absurd h Bool.false_ne_true
def sp_Name_init (Z : Adr) : Sp := fun vs H Q _ => ∃ x dx s H0, vs = [.ref x, .str s] ∧ H x = some (.ins Z.c_Name dx []) ∧ H0 x = none ∧ Ex H0 H ∧ isPointed s = true ∧ s.length ≤ 1000 ∧ ∀ H2, Ex H0 H2 → H2 x = some (.ins Z.c_Name dx [("name", .str s)]) → Q .non H2
def sp_Value_init (Z : Adr) : Sp := fun vs H Q _ => ∃ x dx v H0, vs = [.ref x, v] ∧ H x = some (.ins Z.c_Value dx []) ∧ H0 x = none ∧ Ex H0 H ∧ isVal v = true ∧ ∀ H2, Ex H0 H2 → H2 x = some (.ins Z.c_Value dx [("amount", v)]) → Q .non H2
def sp_Two_init (Z : Adr) : Sp := fun vs H Q _ => ∃ x dx op p q v1 v2 H0, vs = [.ref x, .str op, v1, v2] ∧ H x = some (.ins Z.c_Two dx []) ∧ H0 x = none ∧ Ex H0 H ∧ op ∈ opsW ∧ TermAt Z H0 p v1 ∧ TermAt Z H0 q v2 ∧ p.dep ≤ 4 ∧ q.dep ≤ 4 ∧
  ∀ H2, Ex H0 H2 → H2 x = some (.ins Z.c_Two dx [("op", .str op), ("one", v1), ("second", v2)]) → Q .non H2
def sp_Not_init (Z : Adr) : Sp := fun vs H Q _ => ∃ x dx p v1 H0, vs = [.ref x, v1] ∧ H x = some (.ins Z.c_Not dx []) ∧ H0 x = none ∧ Ex H0 H ∧ TermAt Z H0 p v1 ∧ p.dep ≤ 4 ∧ ∀ H2, Ex H0 H2 → H2 x = some (.ins Z.c_Not dx [("one", v1)]) → Q .non H2
def sp_Pick_init (Z : Adr) : Sp := fun vs H Q _ => ∃ x dx c p q v0 v1 v2 H0, vs = [.ref x, v0, v1, v2] ∧ H x = some (.ins Z.c_Pick dx []) ∧ H0 x = none ∧ Ex H0 H ∧ TermAt Z H0 c v0 ∧ TermAt Z H0 p v1 ∧ TermAt Z H0 q v2 ∧ c.dep ≤ 4 ∧ p.dep ≤ 4 ∧ q.dep ≤ 4 ∧
  ∀ H2, Ex H0 H2 → H2 x = some (.ins Z.c_Pick dx [("by", v0), ("one", v1), ("second", v2)]) → Q .non H2
theorem ok_Name_init (T : Txt K mg Z) : FnOk P w K mg base CX0 3 Z.f_Name_init Z.fd_Name_init ["self", "name"] (sp_Name_init Z) := by
  have G_is_pointed := ok_is_pointed (P := P) (w := w) (base := base) T
  refine T.F_Name_init.ok sc_Name_init (fun vs H Q E h => ?_) (fun cdv AA outer s H vs Q E hr h => ?_)
  · obtain ⟨x, dx, s, H0, rfl, _⟩ := h
    rfl
  · obtain ⟨x, dx, s, H0, rfl, hx, h0, e0, hp, hl, k⟩ := h
    have TX := tcB_ok T.x_Name
    refine ⟨_, (pss_cons (ps_if (pt_not (pt_val (pe_call G_is_pointed (hr.mono (by omega)) rfl T.g_is_pointed T.F_is_pointed.kp T.b_is_pointed .nil pass0 (pa_cons (pv 1) pa_nil)))) (pss_one ps_never) pss_nil)
      (pss_one (ps_fld (pv 0) (pv 1) (by rfl)))), ?_⟩
    walk_at "ss"
    refine ⟨_, rfl, .inl ⟨s, rfl, by omega, fun H1 e1 => ?_⟩⟩
    rw [hp]
    walk_at "ss"
    refine ⟨x, _, dx, _, rfl, e1 _ _ hx, TX.cl, TX.no _ (by decide +kernel), by simp, ?_⟩
    walk_at "ss"
    exact k _ (Ex.mut (e0.trans e1) h0) upd_same
theorem ok_Value_init (T : Txt K mg Z) : FnOk P w K mg base CX0 4 Z.f_Value_init Z.fd_Value_init ["self", "value"] (sp_Value_init Z) := by
  have G_is_value := ok_is_value (P := P) (w := w) (base := base) T
  refine T.F_Value_init.ok sc_Value_init (fun vs H Q E h => ?_) (fun cdv AA outer s H vs Q E hr h => ?_)
  · obtain ⟨x, dx, s, H0, rfl, _⟩ := h
    rfl
  · obtain ⟨x, dx, v, H0, rfl, hx, h0, e0, hp, k⟩ := h
    have TX := tcB_ok T.x_Value
    refine ⟨_, (pss_cons (ps_if (pt_not (pt_val (pe_call G_is_value (hr.mono (by omega)) rfl T.g_is_value T.F_is_value.kp T.b_is_value .nil pass0 (pa_cons (pv 1) pa_nil)))) (pss_one ps_never) pss_nil)
      (pss_one (ps_fld (pv 0) (pv 1) (by rfl)))), ?_⟩
    walk_at "ss"
    refine is_val hp ?_
    walk_at "ss"
    refine ⟨x, _, dx, _, rfl, hx, TX.cl, TX.no _ (by decide +kernel), by simp, ?_⟩
    walk_at "ss"
    exact k _ (Ex.mut e0 h0) upd_same
theorem in_ops {op : Str} (h : op ∈ opsW) : inV (.str op) opsV2 = true := by
  unfold opsV2
  rw [inV_str]
  exact List.contains_iff_mem.mpr h
theorem ok_Two_init (T : Txt K mg Z) : FnOk P w K mg base CX0 9 Z.f_Two_init Z.fd_Two_init ["self", "op", "one", "other"] (sp_Two_init Z) := by
  have G_ops_told := ok_ops_told (P := P) (w := w) (base := base) T
  have G_need_term := ok_need_term (P := P) (w := w) (base := base) T
  refine T.F_Two_init.ok sc_Two_init (fun vs H Q E h => ?_) (fun cdv AA outer s H vs Q E hr h => ?_)
  · obtain ⟨x, dx, op, p, q, v1, v2, H0, rfl, _⟩ := h
    rfl
  · obtain ⟨x, dx, op, p, q, v1, v2, H0, rfl, hx, h0, e0, ho, h1, h2, d1, d2, k⟩ := h
    have TX := tcB_ok T.x_Two
    refine ⟨_, (pss_cons (ps_if (PW.pt (pw_or (pt_not (pt_val (pe_callB call_isi (by rfl) T.n_isinstance (by decide +kernel) (pa_cons (pv 1) (pa_cons (pe_bltn (v := .ty "str") (by rfl) T.n_str (by decide +kernel) rfl) pa_nil))))) (pw_or1 (pt_cmpR op_notIn_seq (pv 1) (pe_call0 G_ops_told (hr.mono (by omega)) rfl T.g_ops_told T.F_ops_told.kp T.b_ops_told .nil pass0) (by rfl))))) (pss_one ps_never) pss_nil)
      (pss_cons (ps_fld (pv 0) (pv 1) (by rfl))
      (pss_cons (ps_fld (pv 0) (pe_call G_need_term (hr.mono (by omega)) rfl T.g_need_term T.F_need_term.kp T.b_need_term .nil pass0 (pa_cons (pv 2) pa_nil)) (by rfl))
      (pss_one (ps_fld (pv 0) (pe_call G_need_term (hr.mono (by omega)) rfl T.g_need_term T.F_need_term.kp T.b_need_term .nil pass0 (pa_cons (pv 3) pa_nil)) (by rfl)))))), ?_⟩
    walk_at "ss"
    refine isi (ty_str op) kb_ss ?_
    walk_at "ss"
    refine ⟨rfl, fun pl H1 hpl e1 g1 => ?_⟩
    refine c_notin (.inl (SqL.of g1)) rfl flat_strs ?_
    rw [in_ops ho]
    walk_at "ss"
    refine ⟨x, _, dx, _, rfl, e1 _ _ hx, TX.cl, TX.no _ (by decide +kernel), by simp, ?_⟩
    have e2 : Ex H0 (upd H1 x (.ins Z.c_Two dx (putF "op" (.str op) []))) := Ex.mut (e0.trans e1) h0
    have hx2 : upd H1 x (.ins Z.c_Two dx (putF "op" (.str op) [])) x = some (.ins Z.c_Two dx [("op", .str op)]) := upd_same
    generalize upd H1 x (.ins Z.c_Two dx (putF "op" (.str op) [])) = H2 at e2 hx2
    walk_at "ss"
    refine ⟨p, v1, rfl, h1.up e2, d1, fun H3 e3 => ?_⟩
    walk_at "ss"
    refine ⟨x, _, dx, _, rfl, e3 _ _ hx2, TX.cl, TX.no _ (by decide +kernel), by simp, ?_⟩
    rw [put_tl (by decide +kernel)]
    have e4 : Ex H0 (upd H3 x (.ins Z.c_Two dx (("op", .str op) :: putF "one" v1 []))) := Ex.mut (e2.trans e3) h0
    have hx4 : upd H3 x (.ins Z.c_Two dx (("op", .str op) :: putF "one" v1 [])) x = some (.ins Z.c_Two dx [("op", .str op), ("one", v1)]) := upd_same
    generalize upd H3 x (.ins Z.c_Two dx (("op", .str op) :: putF "one" v1 [])) = H4 at e4 hx4
    walk_at "ss"
    refine ⟨q, v2, rfl, h2.up e4, d2, fun H5 e5 => ?_⟩
    walk_at "ss"
    refine ⟨x, _, dx, _, rfl, e5 _ _ hx4, TX.cl, TX.no _ (by decide +kernel), by simp, ?_⟩
    rw [put_tl (by decide +kernel), put_tl (by decide +kernel)]
    walk_at "ss"
    exact k _ (Ex.mut (e4.trans e5) h0) upd_same
theorem ok_Not_init (T : Txt K mg Z) : FnOk P w K mg base CX0 9 Z.f_Not_init Z.fd_Not_init ["self", "one"] (sp_Not_init Z) := by
  have G_need_term := ok_need_term (P := P) (w := w) (base := base) T
  refine T.F_Not_init.ok sc_Not_init (fun vs H Q E h => ?_) (fun cdv AA outer s H vs Q E hr h => ?_)
  · obtain ⟨x, dx, p, v1, H0, rfl, _⟩ := h
    rfl
  · obtain ⟨x, dx, p, v1, H0, rfl, hx, h0, e0, h1, d1, k⟩ := h
    have TX := tcB_ok T.x_Not
    refine ⟨_, (pss_one (ps_fld (pv 0) (pe_call G_need_term (hr.mono (by omega)) rfl T.g_need_term T.F_need_term.kp T.b_need_term .nil pass0 (pa_cons (pv 1) pa_nil)) (by rfl))), ?_⟩
    walk_at "ss"
    refine ⟨p, v1, rfl, h1.up e0, d1, fun H3 e3 => ?_⟩
    walk_at "ss"
    refine ⟨x, _, dx, _, rfl, e3 _ _ hx, TX.cl, TX.no _ (by decide +kernel), by simp, ?_⟩
    walk_at "ss"
    exact k _ (Ex.mut (e0.trans e3) h0) upd_same
theorem ok_Pick_init (T : Txt K mg Z) : FnOk P w K mg base CX0 9 Z.f_Pick_init Z.fd_Pick_init ["self", "by", "one", "other"] (sp_Pick_init Z) := by
  have G_need_term := ok_need_term (P := P) (w := w) (base := base) T
  refine T.F_Pick_init.ok sc_Pick_init (fun vs H Q E h => ?_) (fun cdv AA outer s H vs Q E hr h => ?_)
  · obtain ⟨x, dx, c, p, q, v0, v1, v2, H0, rfl, _⟩ := h
    rfl
  · obtain ⟨x, dx, c, p, q, v0, v1, v2, H0, rfl, hx, h0, e0, hc, h1, h2, d0, d1, d2, k⟩ := h
    have TX := tcB_ok T.x_Pick
    refine ⟨_, (pss_cons (ps_fld (pv 0) (pe_call G_need_term (hr.mono (by omega)) rfl T.g_need_term T.F_need_term.kp T.b_need_term .nil pass0 (pa_cons (pv 1) pa_nil)) (by rfl))
      (pss_cons (ps_fld (pv 0) (pe_call G_need_term (hr.mono (by omega)) rfl T.g_need_term T.F_need_term.kp T.b_need_term .nil pass0 (pa_cons (pv 2) pa_nil)) (by rfl))
      (pss_one (ps_fld (pv 0) (pe_call G_need_term (hr.mono (by omega)) rfl T.g_need_term T.F_need_term.kp T.b_need_term .nil pass0 (pa_cons (pv 3) pa_nil)) (by rfl))))), ?_⟩
    walk_at "ss"
    refine ⟨c, v0, rfl, hc.up e0, d0, fun H1 e1 => ?_⟩
    walk_at "ss"
    refine ⟨x, _, dx, _, rfl, e1 _ _ hx, TX.cl, TX.no _ (by decide +kernel), by simp, ?_⟩
    have e2 : Ex H0 (upd H1 x (.ins Z.c_Pick dx (putF "by" v0 []))) := Ex.mut (e0.trans e1) h0
    have hx2 : upd H1 x (.ins Z.c_Pick dx (putF "by" v0 [])) x = some (.ins Z.c_Pick dx [("by", v0)]) := upd_same
    generalize upd H1 x (.ins Z.c_Pick dx (putF "by" v0 [])) = H2 at e2 hx2
    walk_at "ss"
    refine ⟨p, v1, rfl, h1.up e2, d1, fun H3 e3 => ?_⟩
    walk_at "ss"
    refine ⟨x, _, dx, _, rfl, e3 _ _ hx2, TX.cl, TX.no _ (by decide +kernel), by simp, ?_⟩
    rw [put_tl (by decide +kernel)]
    have e4 : Ex H0 (upd H3 x (.ins Z.c_Pick dx (("by", v0) :: putF "one" v1 []))) := Ex.mut (e2.trans e3) h0
    have hx4 : upd H3 x (.ins Z.c_Pick dx (("by", v0) :: putF "one" v1 [])) x = some (.ins Z.c_Pick dx [("by", v0), ("one", v1)]) := upd_same
    generalize upd H3 x (.ins Z.c_Pick dx (("by", v0) :: putF "one" v1 [])) = H4 at e4 hx4
    walk_at "ss"
    refine ⟨q, v2, rfl, h2.up e4, d2, fun H5 e5 => ?_⟩
    walk_at "ss"
    refine ⟨x, _, dx, _, rfl, e5 _ _ hx4, TX.cl, TX.no _ (by decide +kernel), by simp, ?_⟩
    rw [put_tl (by decide +kernel), put_tl (by decide +kernel)]
    walk_at "ss"
    exact k _ (Ex.mut (e4.trans e5) h0) upd_same
/-- what is made where: a new one, all else kept -/
def RetM (Z : Adr) (t : Tm) (H : Hp) (Q : VK) : Prop := ∀ v H2, Ex H H2 → TermAt Z H2 t v → Q v H2
theorem RetM.up {t : Tm} {H0 H : Hp} {Q : VK} (k : RetM Z t H0 Q) (e : Ex H0 H) : RetM Z t H Q := fun v H2 e2 => k v H2 (e.trans e2)
theorem mk_heap {H : Hp} {x dx : Addr} {C : Addr} (hx : H x = none) (hd : H dx = none) : Ex H (upd (upd H dx (.own x)) x (.ins C dx [])) := fun a o h => by
  rw [upd_ne (ne_of_none h hx), upd_ne (ne_of_none h hd)]
  exact h
theorem mk_Name {H : Hp} {Q : VK} {E : XK} {s : Str} (hp : isPointed s = true) (hl : s.length ≤ 1000) (k : RetM Z (.nm s) H Q) : MkP2 Z.c_Name (sp_Name_init Z) [.str s] H Q E := fun x dx hx hd _ =>
  ⟨x, dx, s, H, rfl, upd_same, hx, mk_heap hx hd, hp, hl, fun H2 e2 g2 => ⟨rfl, k _ _ e2 ⟨x, dx, rfl, g2⟩⟩⟩
theorem mk_Value {H : Hp} {Q : VK} {E : XK} {v : V} (hp : isVal v = true) (k : RetM Z (.vl v) H Q) : MkP2 Z.c_Value (sp_Value_init Z) [v] H Q E := fun x dx hx hd _ =>
  ⟨x, dx, v, H, rfl, upd_same, hx, mk_heap hx hd, hp, fun H2 e2 g2 => ⟨rfl, k _ _ e2 ⟨x, dx, rfl, g2⟩⟩⟩
theorem mk_Two {H : Hp} {Q : VK} {E : XK} {op : Str} {p q : Tm} {v1 v2 : V} (ho : op ∈ opsW) (h1 : TermAt Z H p v1) (h2 : TermAt Z H q v2) (d1 : p.dep ≤ 4) (d2 : q.dep ≤ 4) (k : RetM Z (.two op p q) H Q) : MkP2 Z.c_Two (sp_Two_init Z) [.str op, v1, v2] H Q E := fun x dx hx hd _ =>
  ⟨x, dx, op, p, q, v1, v2, H, rfl, upd_same, hx, mk_heap hx hd, ho, h1, h2, d1, d2, fun H2 e2 g2 => ⟨rfl, k _ _ e2 ⟨x, dx, v1, v2, rfl, g2, h1.up e2, h2.up e2⟩⟩⟩
theorem mk_Not {H : Hp} {Q : VK} {E : XK} {p : Tm} {v1 : V} (h1 : TermAt Z H p v1) (d1 : p.dep ≤ 4) (k : RetM Z (.nt p) H Q) : MkP2 Z.c_Not (sp_Not_init Z) [v1] H Q E := fun x dx hx hd _ =>
  ⟨x, dx, p, v1, H, rfl, upd_same, hx, mk_heap hx hd, h1, d1, fun H2 e2 g2 => ⟨rfl, k _ _ e2 ⟨x, dx, v1, rfl, g2, h1.up e2⟩⟩⟩
theorem mk_Pick {H : Hp} {Q : VK} {E : XK} {c p q : Tm} {v0 v1 v2 : V} (h0 : TermAt Z H c v0) (h1 : TermAt Z H p v1) (h2 : TermAt Z H q v2) (d0 : c.dep ≤ 4) (d1 : p.dep ≤ 4) (d2 : q.dep ≤ 4) (k : RetM Z (.pk c p q) H Q) : MkP2 Z.c_Pick (sp_Pick_init Z) [v0, v1, v2] H Q E := fun x dx hx hd _ =>
  ⟨x, dx, c, p, q, v0, v1, v2, H, rfl, upd_same, hx, mk_heap hx hd, h0, h1, h2, d0, d1, d2, fun H2 e2 g2 => ⟨rfl, k _ _ e2 ⟨x, dx, v0, v1, v2, rfl, g2, h0.up e2, h1.up e2, h2.up e2⟩⟩⟩

/-! ### terms of what was told -/
def Tm.good : Tm → Prop
  | .nm s => isPointed s = true ∧ s.length ≤ 80 ∧ OkT s
  | .vl v => isVal v = true
  | .two op a b => op ∈ opsW ∧ a.good ∧ b.good
  | .nt a => a.good
  | .pk c a b => c.good ∧ a.good ∧ b.good
def valD : V → PyData
  | .bl b => .bool b
  | .int i => .int i
  | _ => .none
def Tm.data : Tm → PyData
  | .nm s => .tuple [.str "name", .str s]
  | .vl v => .tuple [.str "value", valD v]
  | .two op a b => .tuple [.str "two", .str op, a.data, b.data]
  | .nt a => .tuple [.str "not", a.data]
  | .pk c a b => .tuple [.str "pick", c.data, a.data, b.data]
theorem ToldAt.dp {H : Hp} : ∀ {t : Tm} {u : V}, t.good → ToldAt H t u → Dp K H u t.data := by
  intro t
  induction t with
  | nm s => rintro u _ ⟨a, rfl, h⟩; exact .tup (SqT.of h) (.cons (.str _) (.cons (.str _) .nil))
  | vl v =>
    rintro u g ⟨a, rfl, h⟩
    refine .tup (SqT.of h) (.cons (.str _) (.cons ?_ .nil))
    cases v with
    | bl b => exact .bl b
    | int i => exact .int i
    | _ => exact absurd g Bool.false_ne_true
  | two op p q ihp ihq => rintro u g ⟨a, v1, v2, rfl, h, h1, h2⟩; exact .tup (SqT.of h) (.cons (.str _) (.cons (.str _) (.cons (ihp g.2.1 h1) (.cons (ihq g.2.2 h2) .nil))))
  | nt p ihp => rintro u g ⟨a, v1, rfl, h, h1⟩; exact .tup (SqT.of h) (.cons (.str _) (.cons (ihp g h1) .nil))
  | pk c p q ihc ihp ihq => rintro u g ⟨a, v0, v1, v2, rfl, h, h0, h1, h2⟩; exact .tup (SqT.of h) (.cons (.str _) (.cons (ihc g.1 h0) (.cons (ihp g.2.1 h1) (.cons (ihq g.2.2 h2) .nil))))
theorem ok_lit {s : Str} (h : (TL.tl s).all (fun c => decide (c < 1114112)) = true) {n : Nat} (hl : s.length ≤ n) : RpOk 0 n (.str s) := (rp_str (OkT.lit h)).mono (Nat.le_refl _) hl
theorem ops_lit {op : Str} (h : op ∈ opsW) : RpOk 0 5 (.str op) := by
  have : opsW.all (fun s => (TL.tl s).all (fun c => decide (c < 1114112)) && decide (s.length ≤ 5)) = true := by decide +kernel
  have := List.all_eq_true.mp this op h
  rw [Bool.and_eq_true, decide_eq_true_eq] at this
  exact ok_lit this.1 this.2
theorem Tm.rp : ∀ {t : Tm}, t.good → RpOk t.dep (200 * 4 ^ t.dep) t.data := by
  intro t
  induction t with
  | nm s =>
    intro g
    refine (rp_tup (rp_cons (ok_lit (n := 4) (by decide +kernel) (by decide +kernel)) (rp_cons (rp_str g.2.2) rp_nil))).mono (by show 0 + 1 ≤ 1; omega) ?_
    have := g.2.1
    show 4 + 1 + (s.length + 1 + 0) ≤ 200 * 4 ^ 1
    omega
  | vl v =>
    intro g
    have hv : RpOk 0 0 (valD v) := by
      cases v with
      | bl b => exact rp_bl b
      | int i =>
        have g' : (decide (-1000000000 ≤ i) && decide (i ≤ 1000000000)) = true := g
        rw [Bool.and_eq_true, decide_eq_true_eq, decide_eq_true_eq] at g'
        exact rp_int (by omega)
      | _ => exact absurd g Bool.false_ne_true
    exact (rp_tup (rp_cons (ok_lit (n := 5) (by decide +kernel) (by decide +kernel)) (rp_cons hv rp_nil))).mono (by show 0 + 1 ≤ 1; omega) (by show 5 + 1 + (0 + 1 + 0) ≤ 200 * 4 ^ 1; omega)
  | two op a b iha ihb =>
    intro g
    have p1 : 4 ^ a.dep ≤ 4 ^ max a.dep b.dep := Nat.pow_le_pow_right (by decide) (by omega)
    have p2 : 4 ^ b.dep ≤ 4 ^ max a.dep b.dep := Nat.pow_le_pow_right (by decide) (by omega)
    have p3 : 1 ≤ 4 ^ max a.dep b.dep := Nat.one_le_pow _ _ (by decide)
    have e : 4 ^ (1 + max a.dep b.dep) = 4 * 4 ^ max a.dep b.dep := by rw [Nat.pow_add]
    refine (rp_tup (rp_cons (ok_lit (n := 4) (by decide +kernel) (by decide +kernel)) (rp_cons (ops_lit g.1) (rp_cons (iha g.2.1) (rp_cons (ihb g.2.2) rp_nil))))).mono ?_ ?_
    · show max 0 (max 0 (max a.dep (max b.dep 0))) + 1 ≤ 1 + max a.dep b.dep
      omega
    · show 4 + 1 + (5 + 1 + (200 * 4 ^ a.dep + 1 + (200 * 4 ^ b.dep + 1 + 0))) ≤ 200 * 4 ^ (1 + max a.dep b.dep)
      rw [e]
      omega
  | nt a iha =>
    intro g
    have p3 : 1 ≤ 4 ^ a.dep := Nat.one_le_pow _ _ (by decide)
    have e : 4 ^ (1 + a.dep) = 4 * 4 ^ a.dep := by rw [Nat.pow_add]
    refine (rp_tup (rp_cons (ok_lit (n := 4) (by decide +kernel) (by decide +kernel)) (rp_cons (iha g) rp_nil))).mono ?_ ?_
    · show max 0 (max a.dep 0) + 1 ≤ 1 + a.dep
      omega
    · show 4 + 1 + (200 * 4 ^ a.dep + 1 + 0) ≤ 200 * 4 ^ (1 + a.dep)
      rw [e]
      omega
  | pk c a b ihc iha ihb =>
    intro g
    have p0 : 4 ^ c.dep ≤ 4 ^ max (max c.dep a.dep) b.dep := Nat.pow_le_pow_right (by decide) (by omega)
    have p1 : 4 ^ a.dep ≤ 4 ^ max (max c.dep a.dep) b.dep := Nat.pow_le_pow_right (by decide) (by omega)
    have p2 : 4 ^ b.dep ≤ 4 ^ max (max c.dep a.dep) b.dep := Nat.pow_le_pow_right (by decide) (by omega)
    have p3 : 1 ≤ 4 ^ max (max c.dep a.dep) b.dep := Nat.one_le_pow _ _ (by decide)
    have e : 4 ^ (1 + max (max c.dep a.dep) b.dep) = 4 * 4 ^ max (max c.dep a.dep) b.dep := by rw [Nat.pow_add]
    refine (rp_tup (rp_cons (ok_lit (n := 4) (by decide +kernel) (by decide +kernel)) (rp_cons (ihc g.1) (rp_cons (iha g.2.1) (rp_cons (ihb g.2.2) rp_nil))))).mono ?_ ?_
    · show max 0 (max c.dep (max a.dep (max b.dep 0))) + 1 ≤ 1 + max (max c.dep a.dep) b.dep
      omega
    · show 4 + 1 + (200 * 4 ^ c.dep + 1 + (200 * 4 ^ a.dep + 1 + (200 * 4 ^ b.dep + 1 + 0))) ≤ 200 * 4 ^ (1 + max (max c.dep a.dep) b.dep)
      rw [e]
      omega
theorem NL.ins {H H2 : Hp} (e : NL H H2) : InsK H H2 := fun a C dx fs h => e a _ (fun _ z => by cases z) h
theorem NL.tups {H H2 : Hp} (e : NL H H2) : TupK H H2 := fun a xs h => e a _ (fun _ z => by cases z) h
def sp_simple_of (Z : Adr) : Sp := fun vs H Q _ => (∃ s, vs = [.str "name", .str s] ∧ isPointed s = true ∧ s.length ≤ 80 ∧ RetM Z (.nm s) H Q) ∨ ∃ v, vs = [.str "value", v] ∧ isVal v = true ∧ RetM Z (.vl v) H Q
theorem ok_simple_of (T : Txt K mg Z) : FnOk P w K mg base CX0 6 Z.f_simple_of Z.fd_simple_of ["word", "thing"] (sp_simple_of Z) := by
  have G_is_pointed := ok_is_pointed (P := P) (w := w) (base := base) T
  have G_is_value := ok_is_value (P := P) (w := w) (base := base) T
  have G_Name_init := ok_Name_init (P := P) (w := w) (base := base) T
  have G_Value_init := ok_Value_init (P := P) (w := w) (base := base) T
  refine T.F_simple_of.ok sc_simple_of (fun vs H Q E h => ?_) (fun cdv AA outer s H vs Q E hr h => ?_)
  · rcases h with ⟨s, rfl, _⟩ | ⟨v, rfl, _⟩ <;> rfl
  · refine ⟨_, (pss_cons (ps_if (PW.pt (pw_and (pt_cmpR op_eq (pv 0) pe_str (nomark _)) (pw_and1 (pt_val (pe_call G_is_pointed (hr.mono (by omega)) rfl T.g_is_pointed T.F_is_pointed.kp T.b_is_pointed .nil pass0 (pa_cons (pv 1) pa_nil)))))) (pss_one (ps_ret (pe_make ⟨(tcB_ok T.x_Name).makes, T.i_Name, T.y_Name_init, (tcB_ok T.x_Name).kp⟩ G_Name_init (hr.mono (by omega)) rfl T.m_Name T.b_Name_init .nil pass0 (pa_cons (pv 1) pa_nil)))) pss_nil)
      (pss_cons (ps_if (PW.pt (pw_and (pt_cmpR op_eq (pv 0) pe_str (nomark _)) (pw_and1 (pt_val (pe_call G_is_value (hr.mono (by omega)) rfl T.g_is_value T.F_is_value.kp T.b_is_value .nil pass0 (pa_cons (pv 1) pa_nil)))))) (pss_one (ps_ret (pe_make ⟨(tcB_ok T.x_Value).makes, T.i_Value, T.y_Value_init, (tcB_ok T.x_Value).kp⟩ G_Value_init (hr.mono (by omega)) rfl T.m_Value T.b_Value_init .nil pass0 (pa_cons (pv 1) pa_nil)))) pss_nil)
      (pss_one (ps_ret pe_non)))), ?_⟩
    rcases h with ⟨s, rfl, hp, hl, k⟩ | ⟨v, rfl, hp, k⟩
    · walk_at "ss"
      rw [str_eq rfl]
      walk_at "ss"
      refine ⟨_, rfl, .inl ⟨s, rfl, by omega, fun H1 e1 => ?_⟩⟩
      rw [hp]
      walk_at "ss"
      exact mk_Name hp (by omega) (k.up e1)
    · walk_at "ss"
      rw [str_ne (by decide +kernel)]
      walk_at "ss"
      rw [str_eq rfl]
      walk_at "ss"
      refine is_val hp ?_
      walk_at "ss"
      exact mk_Value hp k

theorem int_ne {i j : Int} (h : i ≠ j) : decide (V.int i = V.int j) = false := decide_eq_false fun e => h (V.int.inj e)
theorem int_eq {i j : Int} (h : i = j) : decide (V.int i = V.int j) = true := decide_eq_true (by rw [h])
theorem kb_tt : kitB "tuple" "tuple" = some true := by decide +kernel
def sp_made (Z : Adr) (n : Nat) : Sp := fun vs H Q _ => ∃ (t : Tm) (u : V) (l : Nat), vs = [u, .int (l : Nat)] ∧ ToldAt H t u ∧ t.good ∧ t.dep ≤ l ∧ l ≤ n ∧ l ≤ 5 ∧ RetM Z t H Q
theorem ok_made_of_told (T : Txt K mg Z) {n : Nat} (G_made_of_told : FnOk P w K mg base CX0 (n + 12) Z.f_made_of_told Z.fd_made_of_told ["told", "left"] (sp_made Z n)) : FnOk P w K mg base CX0 (n + 13) Z.f_made_of_told Z.fd_made_of_told ["told", "left"] (sp_made Z (n + 1)) := by
  have G_simple_of := ok_simple_of (P := P) (w := w) (base := base) T
  have G_ops_told := ok_ops_told (P := P) (w := w) (base := base) T
  have G_Two_init := ok_Two_init (P := P) (w := w) (base := base) T
  have G_Not_init := ok_Not_init (P := P) (w := w) (base := base) T
  have G_Pick_init := ok_Pick_init (P := P) (w := w) (base := base) T
  refine T.F_made_of_told.ok sc_made_of_told (fun vs H Q E h => ?_) (fun cdv AA outer s H vs Q E hr h => ?_)
  · obtain ⟨t, u, l, rfl, _⟩ := h
    rfl
  · obtain ⟨t, u, l, rfl, ht, hg, hd, hl, h5, k⟩ := h
    have hd0 := t.dep_pos
    refine ⟨_, (pss_cons (ps_if (PW.pt (pw_or (pt_cmpR op_eq (pv 1) pe_int (nomark _)) (pw_or (pt_not (pt_val (pe_callB call_isi (by rfl) T.n_isinstance (by decide +kernel) (pa_cons (pv 0) (pa_cons (pe_bltn (v := .ty "tuple") (by rfl) T.n_tuple (by decide +kernel) rfl) pa_nil))))) (pw_or (pt_cmpR op_lt (pe_callB call_len_seq (by rfl) T.n_len (by decide +kernel) (pa_cons (pv 0) pa_nil)) pe_int (nomark _)) (pw_or1 (pt_not (pt_val (pe_callB call_isi (by rfl) T.n_isinstance (by decide +kernel) (pa_cons (pe_ix ix_tup (pv 0) pe_int (fun _ _ => rfl)) (pa_cons (pe_bltn (v := .ty "str") (by rfl) T.n_str (by decide +kernel) rfl) pa_nil)))))))))) (pss_one (ps_ret pe_non)) pss_nil)
      (pss_cons (ps_set (i := 2) sc_made_of_told.nd rfl (Or.inl rfl) (pe_ix ix_tup (pv 0) pe_int (fun _ _ => rfl)))
      (pss_cons (ps_if (PW.pt (pw_and (pt_cmpR op_in_seq (pv 2) (pe_tup (pa_cons pe_str (pa_cons pe_str pa_nil))) (by rfl)) (pw_and1 (pt_cmpR op_eq (pe_callB call_len_seq (by rfl) T.n_len (by decide +kernel) (pa_cons (pv 0) pa_nil)) pe_int (nomark _))))) (pss_one (ps_ret (pe_call G_simple_of (hr.mono (by omega)) rfl T.g_simple_of T.F_simple_of.kp T.b_simple_of .nil pass0 (pa_cons (pv 2) (pa_cons (pe_ix ix_tup (pv 0) pe_int (fun _ _ => rfl)) pa_nil))))) pss_nil)
      (pss_cons (ps_set (i := 3) sc_made_of_told.nd rfl (Or.inl rfl) (pe_op op_add pe_int (pe_callTy call_int1 (by rfl) T.n_int (by decide +kernel) (pa_cons (pe_cmpR op_eq (pv 2) pe_str (nomark _)) pa_nil))))
      (pss_cons (ps_setLc (i := 4) (own := [("one", 5)]) (g := (gName 5)) (tt := tYes) (te := (tCall (sp_made Z n) [] E0 (tCons (tVar 5) (tCons (tOp (rI0 fun i j => .int (i - j)) (tVar 1) (tC (.int 1))) tNil)))) rfl sc_made_of_told.nd rfl rfl (sw_true rfl rfl rfl (by decide +kernel)) (pi_tup (pe_slice sl_tup (pv 0) (po_some (pv 3)) po_none)) (blkOk_by (own := [("one", 5)]) (N := N_made_of_told) (sc := defScope s_made_of_told) (by decide +kernel)) (fun _ _ _ _ _ => (pg_name (i := 5) sc_made_of_told.nd rfl (Or.inl rfl))) (fun _ _ _ _ _ => pts_nil) (fun _ _ _ _ _ => (pe_call G_made_of_told (hr.mono (by omega)) rfl T.g_made_of_told T.F_made_of_told.kp T.b_made_of_told .nil pass0 (pa_cons (pv 5) (pa_cons (pe_op op_sub (pv 1) pe_int) pa_nil)))))
      (pss_cons (ps_if (pt_cmpR (op_noneIn hr.units) pe_non (pv 4) (by rfl)) (pss_one (ps_ret pe_non)) pss_nil)
      (pss_cons (ps_if (PW.pt (pw_and (pt_cmpR op_eq (pv 2) pe_str (nomark _)) (pw_and (pt_cmpR op_eq (pe_callB call_len_seq (by rfl) T.n_len (by decide +kernel) (pa_cons (pv 4) pa_nil)) pe_int (nomark _)) (pw_and (pt_val (pe_callB call_isi (by rfl) T.n_isinstance (by decide +kernel) (pa_cons (pe_ix ix_tup (pv 0) pe_int (fun _ _ => rfl)) (pa_cons (pe_bltn (v := .ty "str") (by rfl) T.n_str (by decide +kernel) rfl) pa_nil)))) (pw_and1 (pt_cmpR op_in_seq (pe_ix ix_tup (pv 0) pe_int (fun _ _ => rfl)) (pe_call0 G_ops_told (hr.mono (by omega)) rfl T.g_ops_told T.F_ops_told.kp T.b_ops_told .nil pass0) (by rfl))))))) (pss_one (ps_ret (pe_make ⟨(tcB_ok T.x_Two).makes, T.i_Two, T.y_Two_init, (tcB_ok T.x_Two).kp⟩ G_Two_init (hr.mono (by omega)) rfl T.m_Two T.b_Two_init .nil pass0 (pa_cons (pe_ix ix_tup (pv 0) pe_int (fun _ _ => rfl)) (pa_cons (pe_ix ix_list (pv 4) pe_int (fun _ _ => rfl)) (pa_cons (pe_ix ix_list (pv 4) pe_int (fun _ _ => rfl)) pa_nil)))))) pss_nil)
      (pss_cons (ps_if (PW.pt (pw_and (pt_cmpR op_eq (pv 2) pe_str (nomark _)) (pw_and1 (pt_cmpR op_eq (pe_callB call_len_seq (by rfl) T.n_len (by decide +kernel) (pa_cons (pv 4) pa_nil)) pe_int (nomark _))))) (pss_one (ps_ret (pe_make ⟨(tcB_ok T.x_Not).makes, T.i_Not, T.y_Not_init, (tcB_ok T.x_Not).kp⟩ G_Not_init (hr.mono (by omega)) rfl T.m_Not T.b_Not_init .nil pass0 (pa_cons (pe_ix ix_list (pv 4) pe_int (fun _ _ => rfl)) pa_nil)))) pss_nil)
      (pss_cons (ps_if (PW.pt (pw_and (pt_cmpR op_eq (pv 2) pe_str (nomark _)) (pw_and1 (pt_cmpR op_eq (pe_callB call_len_seq (by rfl) T.n_len (by decide +kernel) (pa_cons (pv 4) pa_nil)) pe_int (nomark _))))) (pss_one (ps_ret (pe_make ⟨(tcB_ok T.x_Pick).makes, T.i_Pick, T.y_Pick_init, (tcB_ok T.x_Pick).kp⟩ G_Pick_init (hr.mono (by omega)) rfl T.m_Pick T.b_Pick_init .nil pass0 (pa_cons (pe_ix ix_list (pv 4) pe_int (fun _ _ => rfl)) (pa_cons (pe_ix ix_list (pv 4) pe_int (fun _ _ => rfl)) (pa_cons (pe_ix ix_list (pv 4) pe_int (fun _ _ => rfl)) pa_nil)))))) pss_nil)
      (pss_one (ps_ret pe_non))))))))))), ?_⟩
    cases t with
    | nm s =>
      obtain ⟨a, rfl, ha⟩ := ht
      walk_at "ss"
      rw [int_ne (by omega)]
      walk_at "ss"
      refine isi (ty_tup ha) kb_tt ?_
      walk_at "ss"
      refine ⟨a, _, rfl, .inr (SqT.of ha), ?_⟩
      walk_at "ss"
      refine if_ff rfl ?_
      walk_at "ss"
      refine c_ixT (SqT.of ha) rfl ?_
      walk_at "ss"
      refine isi (ty_str _) kb_ss ?_
      walk_at "ss"
      refine c_ixT (SqT.of ha) rfl ?_
      walk_at "ss"
      refine newT fun p1 H1 hp1 e1 g1 => ?_
      refine c_in (.inr (SqT.of g1)) rfl rfl ?_
      have ha1 := e1 _ _ ha
      rw [show inV (V.str "name") [V.str "name", V.str "value"] = true from by decide +kernel]
      walk_at "ss"
      refine ⟨a, _, rfl, .inr (SqT.of ha1), ?_⟩
      walk_at "ss"
      refine if_tt rfl ?_
      walk_at "ss"
      refine c_ixT (SqT.of ha1) rfl ?_
      walk_at "ss"
      exact .inl ⟨_, rfl, hg.1, hg.2.1, k.up e1⟩
    | vl v =>
      obtain ⟨a, rfl, ha⟩ := ht
      walk_at "ss"
      rw [int_ne (by omega)]
      walk_at "ss"
      refine isi (ty_tup ha) kb_tt ?_
      walk_at "ss"
      refine ⟨a, _, rfl, .inr (SqT.of ha), ?_⟩
      walk_at "ss"
      refine if_ff rfl ?_
      walk_at "ss"
      refine c_ixT (SqT.of ha) rfl ?_
      walk_at "ss"
      refine isi (ty_str _) kb_ss ?_
      walk_at "ss"
      refine c_ixT (SqT.of ha) rfl ?_
      walk_at "ss"
      refine newT fun p1 H1 hp1 e1 g1 => ?_
      refine c_in (.inr (SqT.of g1)) rfl rfl ?_
      have ha1 := e1 _ _ ha
      rw [show inV (V.str "value") [V.str "name", V.str "value"] = true from by decide +kernel]
      walk_at "ss"
      refine ⟨a, _, rfl, .inr (SqT.of ha1), ?_⟩
      walk_at "ss"
      refine if_tt rfl ?_
      walk_at "ss"
      refine c_ixT (SqT.of ha1) rfl ?_
      walk_at "ss"
      exact .inr ⟨_, rfl, hg, k.up e1⟩
    | two op tx ty =>
      obtain ⟨a, v1, v2, rfl, ha, h_tx, h_ty⟩ := ht
      obtain ⟨gop, g_tx, g_ty⟩ := hg
      simp only [Tm.dep] at hd hd0
      walk_at "ss"
      rw [int_ne (by omega)]
      walk_at "ss"
      refine isi (ty_tup ha) kb_tt ?_
      walk_at "ss"
      refine ⟨a, _, rfl, .inr (SqT.of ha), ?_⟩
      walk_at "ss"
      refine if_ff rfl ?_
      walk_at "ss"
      refine c_ixT (SqT.of ha) rfl ?_
      walk_at "ss"
      refine isi (ty_str _) kb_ss ?_
      walk_at "ss"
      refine c_ixT (SqT.of ha) rfl ?_
      walk_at "ss"
      refine newT fun p1 H1 hp1 e1 g1 => ?_
      refine c_in (.inr (SqT.of g1)) rfl rfl ?_
      have ha1 := e1 _ _ ha
      rw [show inV (V.str "two") [V.str "name", V.str "value"] = false from by decide +kernel]
      walk_at "ss"
      rw [str_eq rfl]
      walk_at "ss"
      refine .inr ⟨_, rfl, ?_⟩
      walk_at "ss"
      refine ⟨a, _, rfl, SqT.of ha1, fun z => absurd (show (2 : Nat) = 0 from z.1) (by decide), fun p2 hp2 => ?_⟩
      have e2 : Ex H1 (upd H1 p2 (.tup [v1, v2])) := Ex.new hp2
      have g2 : upd H1 p2 (.tup [v1, v2]) p2 = some (.tup [v1, v2]) := upd_same
      show ∃ a, _
      rw [show cutV [V.str "two", V.str op, v1, v2] _ none = [v1, v2] from rfl]
      generalize upd H1 p2 (.tup [v1, v2]) = H2 at e2 g2
      have e12 := e1.trans e2
      refine ⟨p2, rfl, ⟨_, SqT.of g2⟩, lcTN (fun i y G => ∃ t, ([tx, ty] : List Tm)[i]? = some t ∧ TermAt Z G t y) (fun i y G G2 en ⟨t, h1, h2⟩ => ⟨t, h1, h2.keep (NL.ins en)⟩) (SqT.of g2) (by simp) (fun i x hx => ?_) ?_⟩
      · intro H3 e3 R N hR
        have hi : i < 2 := by simpa using (List.getElem?_eq_some_iff.mp hx).1
        walk_at "ss"
        have go : ∃ t, ([tx, ty] : List Tm)[i]? = some t ∧ ToldAt H t x ∧ t.good ∧ t.dep + 1 ≤ l := by
          have hi' : i = 0 ∨ i = 1 := by omega
          rcases hi' with rfl | rfl
          · have hv : v1 = x := by simpa using hx
            subst hv
            exact ⟨tx, rfl, h_tx, g_tx, by omega⟩
          · have hv : v2 = x := by simpa using hx
            subst hv
            exact ⟨ty, rfl, h_ty, g_ty, by omega⟩
        obtain ⟨t, ht1, ht2, ht3, ht4⟩ := go
        have el : ((l : Nat) : Int) - 1 = ((l - 1 : Nat) : Int) := by omega
        rw [el]
        refine ⟨t, x, l - 1, rfl, ht2.up (e12.trans e3), ht3, by omega, by omega, by omega, fun v H4 e4 tv => ?_⟩
        exact hR _ _ e4 ⟨t, ht1, tv⟩
      intro ys p3 H3 hyl hys hp3 e3 g3
      obtain ⟨y0, y1, rfl⟩ : ∃ y0 y1, ys = [y0, y1] := by
        match ys, hyl with
        | [y0, y1], _ => exact ⟨y0, y1, rfl⟩
      have k0 : TermAt Z H3 tx y0 := by
        obtain ⟨t, h1, h2⟩ := hys 0 y0 rfl
        have : tx = t := by simpa using h1
        subst this
        exact h2
      have k1 : TermAt Z H3 ty y1 := by
        obtain ⟨t, h1, h2⟩ := hys 1 y1 rfl
        have : ty = t := by simpa using h1
        subst this
        exact h2
      have e03 := e12.trans e3
      have ha3 := e03 _ _ ha
      walk_at "ss"
      refine c_noneIn (SqL.of g3) (fun z hz => ?_) (fun z hz => ?_) ?_
      · obtain ⟨i, hi⟩ := List.getElem?_of_mem hz
        obtain ⟨t, _, h2⟩ := hys i z hi
        exact h2.noneOr T
      · obtain ⟨i, hi⟩ := List.getElem?_of_mem hz
        obtain ⟨t, _, h2⟩ := hys i z hi
        obtain ⟨aa, _, _, rfl, _⟩ := h2.cls
        exact fun z => by cases z
      walk_at "ss"
      rw [str_eq rfl]
      walk_at "ss"
      refine ⟨p3, _, rfl, .inl (SqL.of g3), ?_⟩
      walk_at "ss"
      refine if_tt rfl ?_
      walk_at "ss"
      refine c_ixT (SqT.of ha3) rfl ?_
      walk_at "ss"
      refine isi (ty_str _) kb_ss ?_
      walk_at "ss"
      refine c_ixT (SqT.of ha3) rfl ?_
      walk_at "ss"
      refine ⟨rfl, fun p4 H4 hp4 e4 g4 => ?_⟩
      refine c_in (.inl (SqL.of g4)) rfl flat_strs ?_
      rw [in_ops gop]
      walk_at "ss"
      refine c_ixT (SqT.of (e4 _ _ ha3)) rfl ?_
      walk_at "ss"
      refine c_ixL (SqL.of (e4 _ _ g3)) rfl ?_
      walk_at "ss"
      refine c_ixL (SqL.of (e4 _ _ g3)) rfl ?_
      walk_at "ss"
      exact mk_Two gop (k0.up e4) (k1.up e4) (by omega) (by omega) (k.up (e03.trans e4))
    | nt tx =>
      obtain ⟨a, v1, rfl, ha, h_tx⟩ := ht
      have g_tx : tx.good := hg
      simp only [Tm.dep] at hd hd0
      walk_at "ss"
      rw [int_ne (by omega)]
      walk_at "ss"
      refine isi (ty_tup ha) kb_tt ?_
      walk_at "ss"
      refine ⟨a, _, rfl, .inr (SqT.of ha), ?_⟩
      walk_at "ss"
      refine if_ff rfl ?_
      walk_at "ss"
      refine c_ixT (SqT.of ha) rfl ?_
      walk_at "ss"
      refine isi (ty_str _) kb_ss ?_
      walk_at "ss"
      refine c_ixT (SqT.of ha) rfl ?_
      walk_at "ss"
      refine newT fun p1 H1 hp1 e1 g1 => ?_
      refine c_in (.inr (SqT.of g1)) rfl rfl ?_
      have ha1 := e1 _ _ ha
      rw [show inV (V.str "not") [V.str "name", V.str "value"] = false from by decide +kernel]
      walk_at "ss"
      rw [str_ne (by decide +kernel)]
      walk_at "ss"
      refine .inr ⟨_, rfl, ?_⟩
      walk_at "ss"
      refine ⟨a, _, rfl, SqT.of ha1, fun z => absurd (show (1 : Nat) = 0 from z.1) (by decide), fun p2 hp2 => ?_⟩
      have e2 : Ex H1 (upd H1 p2 (.tup [v1])) := Ex.new hp2
      have g2 : upd H1 p2 (.tup [v1]) p2 = some (.tup [v1]) := upd_same
      show ∃ a, _
      rw [show cutV [V.str "not", v1] _ none = [v1] from rfl]
      generalize upd H1 p2 (.tup [v1]) = H2 at e2 g2
      have e12 := e1.trans e2
      refine ⟨p2, rfl, ⟨_, SqT.of g2⟩, lcTN (fun i y G => ∃ t, ([tx] : List Tm)[i]? = some t ∧ TermAt Z G t y) (fun i y G G2 en ⟨t, h1, h2⟩ => ⟨t, h1, h2.keep (NL.ins en)⟩) (SqT.of g2) (by simp) (fun i x hx => ?_) ?_⟩
      · intro H3 e3 R N hR
        have hi : i < 1 := by simpa using (List.getElem?_eq_some_iff.mp hx).1
        walk_at "ss"
        have go : ∃ t, ([tx] : List Tm)[i]? = some t ∧ ToldAt H t x ∧ t.good ∧ t.dep + 1 ≤ l := by
          have hi' : i = 0 := by omega
          rcases hi' with rfl
          · have hv : v1 = x := by simpa using hx
            subst hv
            exact ⟨tx, rfl, h_tx, g_tx, by omega⟩
        obtain ⟨t, ht1, ht2, ht3, ht4⟩ := go
        have el : ((l : Nat) : Int) - 1 = ((l - 1 : Nat) : Int) := by omega
        rw [el]
        refine ⟨t, x, l - 1, rfl, ht2.up (e12.trans e3), ht3, by omega, by omega, by omega, fun v H4 e4 tv => ?_⟩
        exact hR _ _ e4 ⟨t, ht1, tv⟩
      intro ys p3 H3 hyl hys hp3 e3 g3
      obtain ⟨y0, rfl⟩ : ∃ y0, ys = [y0] := by
        match ys, hyl with
        | [y0], _ => exact ⟨y0, rfl⟩
      have k0 : TermAt Z H3 tx y0 := by
        obtain ⟨t, h1, h2⟩ := hys 0 y0 rfl
        have : tx = t := by simpa using h1
        subst this
        exact h2
      have e03 := e12.trans e3
      have ha3 := e03 _ _ ha
      walk_at "ss"
      refine c_noneIn (SqL.of g3) (fun z hz => ?_) (fun z hz => ?_) ?_
      · obtain ⟨i, hi⟩ := List.getElem?_of_mem hz
        obtain ⟨t, _, h2⟩ := hys i z hi
        exact h2.noneOr T
      · obtain ⟨i, hi⟩ := List.getElem?_of_mem hz
        obtain ⟨t, _, h2⟩ := hys i z hi
        obtain ⟨aa, _, _, rfl, _⟩ := h2.cls
        exact fun z => by cases z
      walk_at "ss"
      rw [str_ne (by decide +kernel)]
      walk_at "ss"
      rw [str_eq rfl]
      walk_at "ss"
      refine ⟨p3, _, rfl, .inl (SqL.of g3), ?_⟩
      walk_at "ss"
      refine if_tt rfl ?_
      walk_at "ss"
      refine c_ixL (SqL.of g3) rfl ?_
      walk_at "ss"
      exact mk_Not k0 (by omega) (k.up e03)
    | pk tc tx ty =>
      obtain ⟨a, v0, v1, v2, rfl, ha, h_tc, h_tx, h_ty⟩ := ht
      obtain ⟨g_tc, g_tx, g_ty⟩ := hg
      simp only [Tm.dep] at hd hd0
      walk_at "ss"
      rw [int_ne (by omega)]
      walk_at "ss"
      refine isi (ty_tup ha) kb_tt ?_
      walk_at "ss"
      refine ⟨a, _, rfl, .inr (SqT.of ha), ?_⟩
      walk_at "ss"
      refine if_ff rfl ?_
      walk_at "ss"
      refine c_ixT (SqT.of ha) rfl ?_
      walk_at "ss"
      refine isi (ty_str _) kb_ss ?_
      walk_at "ss"
      refine c_ixT (SqT.of ha) rfl ?_
      walk_at "ss"
      refine newT fun p1 H1 hp1 e1 g1 => ?_
      refine c_in (.inr (SqT.of g1)) rfl rfl ?_
      have ha1 := e1 _ _ ha
      rw [show inV (V.str "pick") [V.str "name", V.str "value"] = false from by decide +kernel]
      walk_at "ss"
      rw [str_ne (by decide +kernel)]
      walk_at "ss"
      refine .inr ⟨_, rfl, ?_⟩
      walk_at "ss"
      refine ⟨a, _, rfl, SqT.of ha1, fun z => absurd (show (1 : Nat) = 0 from z.1) (by decide), fun p2 hp2 => ?_⟩
      have e2 : Ex H1 (upd H1 p2 (.tup [v0, v1, v2])) := Ex.new hp2
      have g2 : upd H1 p2 (.tup [v0, v1, v2]) p2 = some (.tup [v0, v1, v2]) := upd_same
      show ∃ a, _
      rw [show cutV [V.str "pick", v0, v1, v2] _ none = [v0, v1, v2] from rfl]
      generalize upd H1 p2 (.tup [v0, v1, v2]) = H2 at e2 g2
      have e12 := e1.trans e2
      refine ⟨p2, rfl, ⟨_, SqT.of g2⟩, lcTN (fun i y G => ∃ t, ([tc, tx, ty] : List Tm)[i]? = some t ∧ TermAt Z G t y) (fun i y G G2 en ⟨t, h1, h2⟩ => ⟨t, h1, h2.keep (NL.ins en)⟩) (SqT.of g2) (by simp) (fun i x hx => ?_) ?_⟩
      · intro H3 e3 R N hR
        have hi : i < 3 := by simpa using (List.getElem?_eq_some_iff.mp hx).1
        walk_at "ss"
        have go : ∃ t, ([tc, tx, ty] : List Tm)[i]? = some t ∧ ToldAt H t x ∧ t.good ∧ t.dep + 1 ≤ l := by
          have hi' : i = 0 ∨ i = 1 ∨ i = 2 := by omega
          rcases hi' with rfl | rfl | rfl
          · have hv : v0 = x := by simpa using hx
            subst hv
            exact ⟨tc, rfl, h_tc, g_tc, by omega⟩
          · have hv : v1 = x := by simpa using hx
            subst hv
            exact ⟨tx, rfl, h_tx, g_tx, by omega⟩
          · have hv : v2 = x := by simpa using hx
            subst hv
            exact ⟨ty, rfl, h_ty, g_ty, by omega⟩
        obtain ⟨t, ht1, ht2, ht3, ht4⟩ := go
        have el : ((l : Nat) : Int) - 1 = ((l - 1 : Nat) : Int) := by omega
        rw [el]
        refine ⟨t, x, l - 1, rfl, ht2.up (e12.trans e3), ht3, by omega, by omega, by omega, fun v H4 e4 tv => ?_⟩
        exact hR _ _ e4 ⟨t, ht1, tv⟩
      intro ys p3 H3 hyl hys hp3 e3 g3
      obtain ⟨y0, y1, y2, rfl⟩ : ∃ y0 y1 y2, ys = [y0, y1, y2] := by
        match ys, hyl with
        | [y0, y1, y2], _ => exact ⟨y0, y1, y2, rfl⟩
      have k0 : TermAt Z H3 tc y0 := by
        obtain ⟨t, h1, h2⟩ := hys 0 y0 rfl
        have : tc = t := by simpa using h1
        subst this
        exact h2
      have k1 : TermAt Z H3 tx y1 := by
        obtain ⟨t, h1, h2⟩ := hys 1 y1 rfl
        have : tx = t := by simpa using h1
        subst this
        exact h2
      have k2 : TermAt Z H3 ty y2 := by
        obtain ⟨t, h1, h2⟩ := hys 2 y2 rfl
        have : ty = t := by simpa using h1
        subst this
        exact h2
      have e03 := e12.trans e3
      have ha3 := e03 _ _ ha
      walk_at "ss"
      refine c_noneIn (SqL.of g3) (fun z hz => ?_) (fun z hz => ?_) ?_
      · obtain ⟨i, hi⟩ := List.getElem?_of_mem hz
        obtain ⟨t, _, h2⟩ := hys i z hi
        exact h2.noneOr T
      · obtain ⟨i, hi⟩ := List.getElem?_of_mem hz
        obtain ⟨t, _, h2⟩ := hys i z hi
        obtain ⟨aa, _, _, rfl, _⟩ := h2.cls
        exact fun z => by cases z
      walk_at "ss"
      rw [str_ne (by decide +kernel)]
      walk_at "ss"
      rw [str_ne (by decide +kernel)]
      walk_at "ss"
      rw [str_eq rfl]
      walk_at "ss"
      refine ⟨p3, _, rfl, .inl (SqL.of g3), ?_⟩
      walk_at "ss"
      refine if_tt rfl ?_
      walk_at "ss"
      refine c_ixL (SqL.of g3) rfl ?_
      walk_at "ss"
      refine c_ixL (SqL.of g3) rfl ?_
      walk_at "ss"
      refine c_ixL (SqL.of g3) rfl ?_
      walk_at "ss"
      exact mk_Pick k0 k1 k2 (by omega) (by omega) (by omega) (k.up e03)
theorem okn_made (T : Txt K mg Z) : ∀ n, FnOk P w K mg base CX0 (n + 12) Z.f_made_of_told Z.fd_made_of_told ["told", "left"] (sp_made Z n)
  | 0 => ⟨fun vs H Q E ⟨t, u, l, e, _⟩ => by rw [e]; rfl, fun _ _ _ _ _ _ _ _ _ _ _ _ _ ⟨t, u, l, _, _, _, h1, h2, _⟩ => by have := t.dep_pos; omega⟩
  | n + 1 => ok_made_of_told T (okn_made T n)
def sp_term_of (Z : Adr) : Sp := fun vs H Q _ => ∃ t u, vs = [u] ∧ ToldAt H t u ∧ t.good ∧ t.dep ≤ 5 ∧ RetM Z t H Q
theorem ok_term_of (T : Txt K mg Z)  : FnOk P w K mg base CX0 (18) Z.f_term_of Z.fd_term_of ["told"] (sp_term_of Z) := by
  refine T.F_term_of.ok sc_term_of (fun vs H Q E h => ?_) (fun cdv AA outer s H vs Q E hr h => ?_)
  · obtain ⟨t, u, rfl, _⟩ := h
    rfl
  · obtain ⟨t, u, rfl, ht, hg, hd, k⟩ := h
    have G_made_of_told := okn_made (P := P) (w := w) (base := base) T 5
    refine ⟨_, (pss_cons (ps_set (i := 1) sc_term_of.nd rfl (Or.inl rfl) (pe_call G_made_of_told (hr.mono (by omega)) rfl T.g_made_of_told T.F_made_of_told.kp T.b_made_of_told .nil pass0 (pa_cons (pv 0) (pa_cons (pe_gcst rfl T.c_MOST_LEVELS) pa_nil))))
      (pss_cons (ps_if (pt_cmpR op_isN (pv 1) pe_non (nomark _)) (pss_one ps_never) pss_nil)
      (pss_one (ps_ret (pv 1))))), ?_⟩
    walk_at "ss"
    refine ⟨t, u, 5, rfl, ht, hg, hd, Nat.le_refl _, Nat.le_refl _, fun v H1 e1 tv => ?_⟩
    walk_at "ss"
    have nv : decide (v = V.non) = false := by
      obtain ⟨aa, _, _, rfl, _⟩ := tv.cls
      rfl
    rw [nv]
    walk_at "ss"
    exact k _ _ e1 tv

/-! ### rows: the plain side -/
inductive Rw where
  | pl (n : Str) (t : Tm)
  | vd (k : Nat) (n : Str) (v : V) (x : Str)
  | wh (n x y : Str)
  | sm (ns : List Str)
  | cl (os : List Str) (nd : Str) (xs : List Str)
def vword : Nat → Str
  | 0 => "before"
  | 1 => "hold"
  | _ => "like"
def Rw.kind : Rw → Nat
  | .pl _ _ => 0
  | .vd 0 _ _ _ => 1
  | .vd 1 _ _ _ => 2
  | .vd _ _ _ _ => 3
  | .wh _ _ _ => 4
  | .sm _ => 5
  | .cl _ _ _ => 6
def Rw.word : Rw → Str
  | .pl _ _ => "plain"
  | .vd k _ _ _ => vword k
  | .wh _ _ _ => "when"
  | .sm _ => "same"
  | .cl _ _ _ => "call"
theorem Rw.kind_lt (r : Rw) : r.kind < 7 := by
  cases r with
  | vd k n v x => rcases k with _ | _ | k <;> simp [Rw.kind]
  | _ => simp [Rw.kind]
def goodN (s : Str) : Prop := isPointed s = true ∧ s.length ≤ 80 ∧ OkT s
/-- each once, the first -/
def once (l : List Str) : List Str := l.foldl (fun acc n => addN acc [n]) []
def Rw.tells : Rw → List Str
  | .pl n _ => [n]
  | .vd _ n _ _ => [n]
  | .wh n _ _ => [n]
  | .sm _ => []
  | .cl os _ _ => os
def Rw.names : Rw → List Str
  | .pl _ t => t.names
  | .vd _ _ _ x => [x]
  | .wh _ x y => once [x, y]
  | .sm ns => once ns
  | .cl _ _ xs => once xs
def Rw.all (r : Rw) : List Str := r.tells ++ r.names
def Rw.good : Rw → Prop
  | .pl n t => goodN n ∧ t.good ∧ t.dep ≤ 5
  | .vd k n v x => k < 3 ∧ goodN n ∧ isVal v = true ∧ goodN x
  | .wh n x y => goodN n ∧ goodN x ∧ goodN y
  | .sm ns => 2 ≤ ns.length ∧ ns.length ≤ 100 ∧ ∀ s ∈ ns, goodN s
  | .cl os nd xs => 1 ≤ os.length ∧ os.length ≤ 100 ∧ (∀ s ∈ os, goodN s) ∧ (isName nd = true ∧ nd.length ≤ 8 ∧ OkT nd) ∧ 1 ≤ xs.length ∧ xs.length ≤ 100 ∧ ∀ s ∈ xs, goodN s
/-! rows as tuples -/
def RowAt (H : Hp) : Rw → V → Prop
  | .pl n t, u => ∃ a w, u = .ref a ∧ H a = some (.tup [.str "plain", .str n, w]) ∧ ToldAt H t w
  | .vd k n v x, u => ∃ a, u = .ref a ∧ H a = some (.tup [.str (vword k), .str n, v, .str x])
  | .wh n x y, u => ∃ a, u = .ref a ∧ H a = some (.tup [.str "when", .str n, .str x, .str y])
  | .sm ns, u => ∃ a p, u = .ref a ∧ H a = some (.tup [.str "same", .ref p]) ∧ H p = some (.tup (ns.map V.str))
  | .cl os nd xs, u => ∃ a p q, u = .ref a ∧ H a = some (.tup [.str "call", .ref p, .str nd, .ref q]) ∧ H p = some (.tup (os.map V.str)) ∧ H q = some (.tup (xs.map V.str))
theorem NL.tup {H H2 : Hp} (e : NL H H2) {a : Addr} {xs : List V} (h : H a = some (.tup xs)) : H2 a = some (.tup xs) := e _ _ (fun _ z => by cases z) h
theorem RowAt.nl {H H2 : Hp} (e : NL H H2) {r : Rw} {u : V} (h : RowAt H r u) : RowAt H2 r u := by
  cases r with
  | pl n t => obtain ⟨a, w, h1, h2, h3⟩ := h; exact ⟨a, w, h1, NL.tup e h2, h3.keep (NL.tups e)⟩
  | vd k n v x => obtain ⟨a, h1, h2⟩ := h; exact ⟨a, h1, NL.tup e h2⟩
  | wh n x y => obtain ⟨a, h1, h2⟩ := h; exact ⟨a, h1, NL.tup e h2⟩
  | sm ns => obtain ⟨a, p, h1, h2, h3⟩ := h; exact ⟨a, p, h1, NL.tup e h2, NL.tup e h3⟩
  | cl os nd xs => obtain ⟨a, p, q, h1, h2, h3, h4⟩ := h; exact ⟨a, p, q, h1, NL.tup e h2, NL.tup e h3, NL.tup e h4⟩
theorem RowAt.up {H H2 : Hp} {r : Rw} {u : V} (h : RowAt H r u) (e : Ex H H2) : RowAt H2 r u := h.nl (NL.of e)
/-- the row: a tuple that begins with its word -/
theorem RowAt.hd {H : Hp} {r : Rw} {u : V} (h : RowAt H r u) : ∃ a xs, u = .ref a ∧ H a = some (.tup (.str r.word :: xs)) := by
  cases r with
  | pl n t => obtain ⟨a, w, h1, h2, h3⟩ := h; exact ⟨a, _, h1, h2⟩
  | vd k n v x => obtain ⟨a, h1, h2⟩ := h; exact ⟨a, _, h1, h2⟩
  | wh n x y => obtain ⟨a, h1, h2⟩ := h; exact ⟨a, _, h1, h2⟩
  | sm ns => obtain ⟨a, p, h1, h2, h3⟩ := h; exact ⟨a, _, h1, h2⟩
  | cl os nd xs => obtain ⟨a, p, q, h1, h2, h3, h4⟩ := h; exact ⟨a, _, h1, h2⟩
def strsD (ns : List Str) : PyData := .tuple (ns.map PyData.str)
def Rw.data : Rw → PyData
  | .pl n t => .tuple [.str "plain", .str n, t.data]
  | .vd k n v x => .tuple [.str (vword k), .str n, valD v, .str x]
  | .wh n x y => .tuple [.str "when", .str n, .str x, .str y]
  | .sm ns => .tuple [.str "same", strsD ns]
  | .cl os nd xs => .tuple [.str "call", strsD os, .str nd, strsD xs]
theorem dp_strs {H : Hp} : ∀ {ns : List Str}, DpAll K H (ns.map V.str) (ns.map PyData.str)
  | [] => .nil
  | s :: ns => .cons (.str s) dp_strs
theorem dp_val {H : Hp} {v : V} (h : isVal v = true) : Dp K H v (valD v) := by
  cases v with
  | bl b => exact .bl b
  | int i => exact .int i
  | _ => exact absurd h Bool.false_ne_true
theorem RowAt.dp {H : Hp} {r : Rw} {u : V} (g : r.good) (h : RowAt H r u) : Dp K H u r.data := by
  cases r with
  | pl n t => obtain ⟨a, w, rfl, h2, h3⟩ := h; exact .tup (SqT.of h2) (.cons (.str _) (.cons (.str _) (.cons (h3.dp g.2.1) .nil)))
  | vd k n v x => obtain ⟨a, rfl, h2⟩ := h; exact .tup (SqT.of h2) (.cons (.str _) (.cons (.str _) (.cons (dp_val g.2.2.1) (.cons (.str _) .nil))))
  | wh n x y => obtain ⟨a, rfl, h2⟩ := h; exact .tup (SqT.of h2) (.cons (.str _) (.cons (.str _) (.cons (.str _) (.cons (.str _) .nil))))
  | sm ns => obtain ⟨a, p, rfl, h2, h3⟩ := h; exact .tup (SqT.of h2) (.cons (.str _) (.cons (.tup (SqT.of h3) dp_strs) .nil))
  | cl os nd xs => obtain ⟨a, p, q, rfl, h2, h3, h4⟩ := h; exact .tup (SqT.of h2) (.cons (.str _) (.cons (.tup (SqT.of h3) dp_strs) (.cons (.str _) (.cons (.tup (SqT.of h4) dp_strs) .nil))))
theorem rp_N {s : Str} (h : goodN s) : RpOk 0 80 (.str s) := (rp_str h.2.2).mono (Nat.le_refl _) h.2.1
theorem rp_val {v : V} (g : isVal v = true) : RpOk 0 0 (valD v) := by
  cases v with
  | bl b => exact rp_bl b
  | int i =>
    have g' : (decide (-1000000000 ≤ i) && decide (i ≤ 1000000000)) = true := g
    rw [Bool.and_eq_true, decide_eq_true_eq, decide_eq_true_eq] at g'
    exact rp_int (by omega)
  | _ => exact absurd g Bool.false_ne_true
theorem rp_strs {ns : List Str} (h : ∀ s ∈ ns, goodN s) (hl : ns.length ≤ 100) : RpOk 1 8100 (strsD ns) := by
  have h1 : RpAll 0 ((ns.map PyData.str).length * (80 + 1)) (ns.map PyData.str) := rp_all fun d hd => by
    obtain ⟨s, hs, rfl⟩ := List.mem_map.mp hd
    exact rp_N (h s hs)
  rw [List.length_map] at h1
  exact (rp_tup h1).mono (Nat.le_refl _) (by omega)
theorem vword_in (k : Nat) : vword k = "before" ∨ vword k = "hold" ∨ vword k = "like" := by
  rcases k with _ | _ | k
  · exact .inl rfl
  · exact .inr (.inl rfl)
  · exact .inr (.inr rfl)
theorem rp_vword (k : Nat) : RpOk 0 6 (.str (vword k)) := by
  rcases vword_in k with e | e | e <;> (rw [e]; exact ok_lit (by decide +kernel) (by decide +kernel))
theorem Rw.rp {r : Rw} (g : r.good) : RpOk 6 250000 r.data := by
  cases r with
  | pl n t =>
    have hB : 200 * 4 ^ t.dep ≤ 204800 := by
      have : 4 ^ t.dep ≤ 4 ^ 5 := Nat.pow_le_pow_right (by decide) g.2.2
      have e : (4 : Nat) ^ 5 = 1024 := rfl
      omega
    have hd := g.2.2
    exact (rp_tup (rp_cons (ok_lit (n := 5) (by decide +kernel) (by decide +kernel)) (rp_cons (rp_N g.1) (rp_cons (Tm.rp g.2.1) rp_nil)))).mono (by omega) (by omega)
  | vd k n v x => exact (rp_tup (rp_cons (rp_vword k) (rp_cons (rp_N g.2.1) (rp_cons (rp_val g.2.2.1) (rp_cons (rp_N g.2.2.2) rp_nil))))).mono (by omega) (by omega)
  | wh n x y => exact (rp_tup (rp_cons (ok_lit (n := 5) (by decide +kernel) (by decide +kernel)) (rp_cons (rp_N g.1) (rp_cons (rp_N g.2.1) (rp_cons (rp_N g.2.2) rp_nil))))).mono (by omega) (by omega)
  | sm ns => exact (rp_tup (rp_cons (ok_lit (n := 5) (by decide +kernel) (by decide +kernel)) (rp_cons (rp_strs g.2.2 g.2.1) rp_nil))).mono (by omega) (by omega)
  | cl os nd xs => exact (rp_tup (rp_cons (ok_lit (n := 5) (by decide +kernel) (by decide +kernel)) (rp_cons (rp_strs g.2.2.1 g.2.1) (rp_cons ((rp_str g.2.2.2.1.2.2).mono (Nat.le_refl _) g.2.2.2.1.2.1) (rp_cons (rp_strs g.2.2.2.2.2.2 g.2.2.2.2.2.1) rp_nil))))).mono (by omega) (by omega)
/-! rows as objects -/
def clsK (Z : Adr) : Nat → Addr
  | 0 => Z.c_Plain
  | 1 => Z.c_Before
  | 2 => Z.c_Hold
  | 3 => Z.c_Like
  | 4 => Z.c_When
  | 5 => Z.c_Same
  | _ => Z.c_Call
def MCE (Z : Adr) (C : Addr) : Prop := ∃ i, i < 7 ∧ C = clsK Z i
theorem clsK_at {i : Nat} (h : i < 7) : ([Z.c_Plain, Z.c_Before, Z.c_Hold, Z.c_Like, Z.c_When, Z.c_Same, Z.c_Call] : List Addr)[i]? = some (clsK Z i) := by
  have : i = 0 ∨ i = 1 ∨ i = 2 ∨ i = 3 ∨ i = 4 ∨ i = 5 ∨ i = 6 := by omega
  rcases this with rfl | rfl | rfl | rfl | rfl | rfl | rfl <;> rfl
theorem clsK_inj (T : Txt K mg Z) {i j : Nat} (hi : i < 7) (hj : j < 7) (e : clsK Z i = clsK Z j) : i = j := by
  rcases Nat.lt_trichotomy i j with h | h | h
  · exact absurd e (difB_ne T.fact_difE (clsK_at hi) (clsK_at hj) h)
  · exact h
  · exact absurd e.symm (difB_ne T.fact_difE (clsK_at hj) (clsK_at hi) h)
def offE (fs : List (Str × V)) : Prop := fs.lookup ("told" : Str) = none ∧ fs.lookup ("tells" : Str) = none ∧ fs.lookup ("names" : Str) = none ∧ fs.lookup ("term" : Str) = none ∧ fs.lookup ("is_call" : Str) = none
def offX (fs : List (Str × V)) : Prop := fs.lookup ("put_otherwise" : Str) = none ∧ fs.lookup ("renamed" : Str) = none
def EqAt (Z : Adr) (H : Hp) (r : Rw) (v u : V) : Prop := ∃ a dx fs, v = .ref a ∧ H a = some (.ins (clsK Z r.kind) dx fs) ∧ RowAt H r u ∧ fs.lookup ("told_row" : Str) = some u ∧ (offE fs ∧ offX fs) ∧ ∀ n t, r = .pl n t → ∃ tv, fs.lookup ("kept_term" : Str) = some tv ∧ TermAt Z H t tv
theorem EqAt.nl {H H2 : Hp} {r : Rw} {v u : V} (h : EqAt Z H r v u) (e : NL H H2) : EqAt Z H2 r v u := by
  obtain ⟨a, dx, fs, h1, h2, h3, h4, h5, h6⟩ := h
  refine ⟨a, dx, fs, h1, NL.ins e _ _ _ _ h2, h3.nl e, h4, h5, fun n t he => ?_⟩
  obtain ⟨tv, h7, h8⟩ := h6 n t he
  exact ⟨tv, h7, h8.keep (NL.ins e)⟩
theorem EqAt.up {H H2 : Hp} {r : Rw} {v u : V} (h : EqAt Z H r v u) (e : Ex H H2) : EqAt Z H2 r v u := h.nl (NL.of e)
theorem kitTab_ok {cs : List Addr} {E : Addr} (h : kitTab K cs E = true) {c : Addr} (hc : c ∈ cs) : PySem.W.kitOne K (.ref c) (.ref E) = some true ∧ PySem.W.mroIn K c (.type "object") = some true ∧ PySem.W.findIn K (.ref c) "__eq__" = some (some (.builtin "object.__eq__")) ∧ ∀ c' ∈ cs, PySem.W.kitOne K (.ref c) (.ref c') = some (decide (c = c')) := by
  have := List.all_eq_true.mp h c hc
  simp only [Bool.and_eq_true, decide_eq_true_eq, List.all_eq_true] at this
  exact this
theorem clsK_mem {i : Nat} (h : i < 7) : clsK Z i ∈ ([Z.c_Plain, Z.c_Before, Z.c_Hold, Z.c_Like, Z.c_When, Z.c_Same, Z.c_Call] : List Addr) := List.mem_of_getElem? (clsK_at h)
theorem tcE (T : Txt K mg Z) {i : Nat} (h : i < 7) : Cls K (clsK Z i) ∧ NoAttr K (clsK Z i) "told_row" ∧ (i = 0 → NoAttr K (clsK Z i) "kept_term") ∧ ∀ {H : Hp} {a dx : Addr} {gs : List (Str × V)}, H a = some (.ins (clsK Z i) dx gs) → TyX K H (.ref a) (.ref (clsK Z i)) := by
  have : i = 0 ∨ i = 1 ∨ i = 2 ∨ i = 3 ∨ i = 4 ∨ i = 5 ∨ i = 6 := by omega
  rcases this with rfl | rfl | rfl | rfl | rfl | rfl | rfl
  · exact ⟨(tcB_ok T.x_Plain).cl, (tcB_ok T.x_Plain).no _ (by decide +kernel), fun _ => (tcB_ok T.x_Plain).no _ (by decide +kernel), fun e => (tcB_ok T.x_Plain).ty e⟩
  · exact ⟨(tcB_ok T.x_Before).cl, (tcB_ok T.x_Before).no _ (by decide +kernel), (fun z => absurd z (by decide)), fun e => (tcB_ok T.x_Before).ty e⟩
  · exact ⟨(tcB_ok T.x_Hold).cl, (tcB_ok T.x_Hold).no _ (by decide +kernel), (fun z => absurd z (by decide)), fun e => (tcB_ok T.x_Hold).ty e⟩
  · exact ⟨(tcB_ok T.x_Like).cl, (tcB_ok T.x_Like).no _ (by decide +kernel), (fun z => absurd z (by decide)), fun e => (tcB_ok T.x_Like).ty e⟩
  · exact ⟨(tcB_ok T.x_When).cl, (tcB_ok T.x_When).no _ (by decide +kernel), (fun z => absurd z (by decide)), fun e => (tcB_ok T.x_When).ty e⟩
  · exact ⟨(tcB_ok T.x_Same).cl, (tcB_ok T.x_Same).no _ (by decide +kernel), (fun z => absurd z (by decide)), fun e => (tcB_ok T.x_Same).ty e⟩
  · exact ⟨(tcB_ok T.x_Call).cl, (tcB_ok T.x_Call).no _ (by decide +kernel), (fun z => absurd z (by decide)), fun e => (tcB_ok T.x_Call).ty e⟩
theorem is_row (T : Txt K mg Z) {H : Hp} {r : Rw} {v u : V} {Q : VK} (h : EqAt Z H r v u) (q : Q (.bl true) H) : rIsi K [v, .ref Z.c_Equation] H Q := by
  obtain ⟨a, dx, fs, rfl, h2, _⟩ := h
  exact ⟨_, _, _, _, true, rfl, .own _, (tcE T r.kind_lt).2.2.2 h2, (kitTab_ok T.fact_kitE (clsK_mem r.kind_lt)).1, q⟩
theorem is_kind (T : Txt K mg Z) {H : Hp} {r : Rw} {v u : V} {Q : VK} {i : Nat} (hi : i < 7) (h : EqAt Z H r v u) (q : Q (.bl (decide (r.kind = i))) H) : rIsi K [v, .ref (clsK Z i)] H Q := by
  obtain ⟨a, dx, fs, rfl, h2, _⟩ := h
  have e := (kitTab_ok T.fact_kitE (clsK_mem r.kind_lt)).2.2.2 _ (clsK_mem hi)
  have ed : decide (clsK Z r.kind = clsK Z i) = decide (r.kind = i) := by
    by_cases h : r.kind = i
    · rw [decide_eq_true h, decide_eq_true (by rw [h])]
    · rw [decide_eq_false h, decide_eq_false fun z => h (clsK_inj T r.kind_lt hi z)]
  rw [ed] at e
  exact ⟨_, _, _, _, _, rfl, .own _, (tcE T r.kind_lt).2.2.2 h2, e, q⟩

/-! ### each name once -/
theorem once_app (l : List Str) (n : Str) : once (l ++ [n]) = addN (once l) [n] := by
  unfold once
  rw [List.foldl_append] <;> rfl
theorem addN_one (a : List Str) (n : Str) : addN a [n] = if a.contains n then a else a ++ [n] := by
  unfold addN
  rw [List.filter_cons, List.filter_nil]
  cases h : a.contains n <;> simp
theorem once_len (l : List Str) : (once l).length ≤ l.length := by
  have h : ∀ (l acc : List Str), (l.foldl (fun acc n => addN acc [n]) acc).length ≤ acc.length + l.length := by
    intro l
    induction l with
    | nil => intro acc; exact Nat.le_refl _
    | cons a l ih =>
      intro acc
      have h1 := ih (addN acc [a])
      have h2 := addN_len acc [a]
      rw [List.length_singleton] at h2
      rw [List.foldl_cons, List.length_cons]
      omega
  have := h l []
  rw [List.length_nil, Nat.zero_add] at this
  exact this
def keyT (n : Str) : Key × V := (.inr n, .bl true)
theorem put_once (l : List Str) (n : Str) : putK (l.map keyT) (.inr n) (.bl true) = (addN l [n]).map keyT := by
  rw [addN_one]
  unfold putK
  have e : ((l.map keyT).any fun kv => decide (kv.1 = Sum.inr n)) = l.contains n := by
    induction l with
    | nil => rfl
    | cons a l ih =>
      rw [List.map_cons, List.any_cons, ih, List.contains_cons]
      have : decide ((keyT a).1 = (Sum.inr n : Key)) = (n == a) := by
        show decide ((Sum.inr a : Key) = Sum.inr n) = _
        by_cases h : a = n
        · subst h; simp
        · rw [decide_eq_false (fun z => h (Sum.inr.inj z))]
          simp
          exact fun z => h z.symm
      rw [this]
  rw [e]
  cases h : l.contains n with
  | true =>
    rw [if_pos rfl, if_pos rfl]
    have : (fun kv : Key × V => if kv.1 = (Sum.inr n : Key) then (kv.1, V.bl true) else kv) ∘ keyT = keyT := by
      funext a
      show (if (Sum.inr a : Key) = Sum.inr n then ((Sum.inr a : Key), V.bl true) else keyT a) = keyT a
      split <;> rfl
    rw [List.map_map, this]
  | false => rw [if_neg (by decide), if_neg (by decide), List.map_append] <;> rfl
theorem kV_keyT (l : List Str) : (l.map keyT).map (fun kv => kV kv.1) = l.map V.str := by rw [List.map_map]; rfl
def sp_each_once : Sp := fun vs H Q _ => ∃ a ns, vs = [.ref a] ∧ H a = some (.lst (ns.map V.str)) ∧ ns.length ≤ 1000 ∧ RetL ((once ns).map V.str) H Q
def sp_each_onceT : Sp := fun vs H Q _ => ∃ a ns, vs = [.ref a] ∧ H a = some (.tup (ns.map V.str)) ∧ ns.length ≤ 1000 ∧ RetL ((once ns).map V.str) H Q

theorem ok_each_once (T : Txt K mg Z) : FnOk P w K mg base CX0 1 Z.f_each_once Z.fd_each_once ["names"] sp_each_once := by
  refine T.F_each_once.ok sc_each_once (fun vs H Q E h => ?_) (fun cdv AA outer s H vs Q E hr h => ?_)
  · obtain ⟨a, ns, rfl, _⟩ := h
    rfl
  · obtain ⟨a, ns, rfl, ha, hl, k⟩ := h
    refine ⟨_, (pss_cons (ps_set (i := 1) sc_each_once.nd rfl (Or.inl rfl) pe_dnewK)
      (pss_cons (ps_for PassesOwn.never rfl (pi_list (pv 0)) (pg_name (i := 2) sc_each_once.nd rfl (Or.inl rfl)) (pss_one (ps_dput (hu_of hr) (pv 1) (pv 2) pe_bl rfl)))
      (pss_one (ps_ret (pe_callTy (call_listD rfl) (by rfl) T.n_list (by decide +kernel) (pa_cons (pv 1) pa_nil)))))), ?_⟩
    walk_at "ss"
    intro d hd
    walk_at "ss"
    have e1 : Ex H (upd H d (.dK [])) := Ex.new hd
    refine ⟨⟨_, SqL.of (e1 _ _ ha)⟩, forL (xs := ns.map V.str) (fun i σ' G => (∃ v2, σ' = [some (.ref a), some (.ref d), v2]) ∧ Ex H G ∧ G a = some (.lst (ns.map V.str)) ∧ G d = some (.dK ((once (ns.take i)).map keyT))) ⟨⟨_, rfl⟩, e1, e1 _ _ ha, upd_same⟩ (fun i σ' G _ q => SqL.of q.2.2.1) ?_ ?_⟩
    · rintro i x σ' G hx ⟨⟨v2, rfl⟩, eG, ga, gd⟩
      rw [List.getElem?_map] at hx
      obtain ⟨n, hn, rfl⟩ := Option.map_eq_some_iff.mp hx
      have hlen := once_len (ns.take i)
      have htl : (ns.take i).length ≤ 1000 := by rw [List.length_take]; omega
      walk_at "ss"
      refine ⟨d, _, rfl, .inl ⟨_, .inr n, gd, rfl, Evl.sz_lt (by rw [List.length_map]; omega), rfl⟩, ?_⟩
      walk_at "ss"
      refine ⟨⟨_, rfl⟩, Ex.mut eG hd, ?_, ?_⟩
      · have nda : a ≠ d := ne_of_none ha hd
        rw [upd_ne nda]
        exact ga
      · rw [upd_same, List.take_add_one, hn]
        show some (HO.dK (putK _ _ _)) = some (HO.dK ((once (ns.take i ++ [n])).map keyT))
        rw [put_once, once_app]
    · rintro σ' G ⟨⟨v2, rfl⟩, eG, ga, gd⟩
      rw [List.length_map, List.take_length] at gd
      walk_at "ss"
      refine ⟨d, _, rfl, .inl gd, fun p hp => ?_⟩
      rw [kV_keyT]
      exact k p _ (fresh_back eG hp) (eG.trans (Ex.new hp)) upd_same

theorem ok_each_onceT (T : Txt K mg Z) : FnOk P w K mg base CX0 1 Z.f_each_once Z.fd_each_once ["names"] sp_each_onceT := by
  refine T.F_each_once.ok sc_each_once (fun vs H Q E h => ?_) (fun cdv AA outer s H vs Q E hr h => ?_)
  · obtain ⟨a, ns, rfl, _⟩ := h
    rfl
  · obtain ⟨a, ns, rfl, ha, hl, k⟩ := h
    refine ⟨_, (pss_cons (ps_set (i := 1) sc_each_once.nd rfl (Or.inl rfl) pe_dnewK)
      (pss_cons (ps_for PassesOwn.never rfl (pi_tup (pv 0)) (pg_name (i := 2) sc_each_once.nd rfl (Or.inl rfl)) (pss_one (ps_dput (hu_of hr) (pv 1) (pv 2) pe_bl rfl)))
      (pss_one (ps_ret (pe_callTy (call_listD rfl) (by rfl) T.n_list (by decide +kernel) (pa_cons (pv 1) pa_nil)))))), ?_⟩
    walk_at "ss"
    intro d hd
    walk_at "ss"
    have e1 : Ex H (upd H d (.dK [])) := Ex.new hd
    refine ⟨⟨_, SqT.of (e1 _ _ ha)⟩, forT (xs := ns.map V.str) (fun i σ' G => (∃ v2, σ' = [some (.ref a), some (.ref d), v2]) ∧ Ex H G ∧ G a = some (.tup (ns.map V.str)) ∧ G d = some (.dK ((once (ns.take i)).map keyT))) ⟨⟨_, rfl⟩, e1, e1 _ _ ha, upd_same⟩ (fun i σ' G _ q => SqT.of q.2.2.1) ?_ ?_⟩
    · rintro i x σ' G hx ⟨⟨v2, rfl⟩, eG, ga, gd⟩
      rw [List.getElem?_map] at hx
      obtain ⟨n, hn, rfl⟩ := Option.map_eq_some_iff.mp hx
      have hlen := once_len (ns.take i)
      have htl : (ns.take i).length ≤ 1000 := by rw [List.length_take]; omega
      walk_at "ss"
      refine ⟨d, _, rfl, .inl ⟨_, .inr n, gd, rfl, Evl.sz_lt (by rw [List.length_map]; omega), rfl⟩, ?_⟩
      walk_at "ss"
      refine ⟨⟨_, rfl⟩, Ex.mut eG hd, ?_, ?_⟩
      · have nda : a ≠ d := ne_of_none ha hd
        rw [upd_ne nda]
        exact ga
      · rw [upd_same, List.take_add_one, hn]
        show some (HO.dK (putK _ _ _)) = some (HO.dK ((once (ns.take i ++ [n])).map keyT))
        rw [put_once, once_app]
    · rintro σ' G ⟨⟨v2, rfl⟩, eG, ga, gd⟩
      rw [List.length_map, List.take_length] at gd
      walk_at "ss"
      refine ⟨d, _, rfl, .inl gd, fun p hp => ?_⟩
      rw [kV_keyT]
      exact k p _ (fresh_back eG hp) (eG.trans (Ex.new hp)) upd_same

/-! ### methods of rows -/
def spE (Z : Adr) (S : Rw → Prop) (R : Rw → V → V → Hp → VK → Prop) : Sp := fun vs H Q _ => ∃ r v u, vs = [v] ∧ EqAt Z H r v u ∧ r.good ∧ S r ∧ R r v u H Q
def Re_told : Rw → V → V → Hp → VK → Prop := fun _ _ u H Q => Q u H
def Re_tells : Rw → V → V → Hp → VK → Prop := fun r _ _ H Q => RetL (r.tells.map V.str) H Q
def Re_names : Rw → V → V → Hp → VK → Prop := fun r _ _ H Q => RetL (r.names.map V.str) H Q
def Re_term (Z : Adr) : Rw → V → V → Hp → VK → Prop := fun r _ _ H Q => match r with
  | .pl _ t => ∀ tv, TermAt Z H t tv → Q tv H
  | _ => Q .non H
def Re_is_call : Rw → V → V → Hp → VK → Prop := fun r _ _ H Q => Q (.bl (decide (r.kind = 6))) H

def spmE_told (Z : Adr) (C : Addr) : Sp := spE Z (fun r => clsK Z r.kind = C) Re_told
def spmE_tells (Z : Adr) (C : Addr) : Sp := spE Z (fun r => clsK Z r.kind = C) Re_tells
def spmE_names (Z : Adr) (C : Addr) : Sp := spE Z (fun r => clsK Z r.kind = C) Re_names
def spmE_term (Z : Adr) (C : Addr) : Sp := spE Z (fun r => clsK Z r.kind = C) (Re_term Z)
theorem ok_Equation_told (T : Txt K mg Z) : FnOk P w K mg base CX0 1 Z.f_Equation_told Z.fd_Equation_told ["self"] (spE Z (fun r => True) Re_told) := by
  refine T.F_Equation_told.ok sc_Equation_told (fun vs H Q E h => ?_) (fun cdv AA outer s H vs Q E hr h => ?_)
  · obtain ⟨r, v, u, rfl, _⟩ := h
    rfl
  · obtain ⟨r, v, u, rfl, ⟨a, dx, fs, rfl, ha, hr2, hrow, hoff, htm⟩, hg, hS, k⟩ := h
    have TX := tcE T r.kind_lt
    refine ⟨_, (pss_one (ps_ret (pe_fld (pv 0) (by rfl)))), ?_⟩
    walk_at "ss"
    exact ⟨_, _, _, _, _, rfl, ha, TX.1, TX.2.1, hrow, k⟩
theorem kind_pl {r : Rw} (h : r.kind = 0) : ∃ n t, r = .pl n t := by
  cases r with
  | pl n t => exact ⟨_, _, rfl⟩
  | vd k n v x => rcases k with _ | _ | k <;> cases h
  | wh n x y => cases h
  | sm ns => cases h
  | cl a b c => cases h
theorem kind_vd {r : Rw} (h : r.kind = 1 ∨ r.kind = 2 ∨ r.kind = 3) : ∃ k n v x, r = .vd k n v x := by
  cases r with
  | vd k n v x => exact ⟨_, _, _, _, rfl⟩
  | _ => simp [Rw.kind] at h
theorem kind_wh {r : Rw} (h : r.kind = 4) : ∃ n x y, r = .wh n x y := by
  cases r with
  | wh n x y => exact ⟨_, _, _, rfl⟩
  | vd k n v x => rcases k with _ | _ | k <;> cases h
  | _ => cases h
theorem kind_sm {r : Rw} (h : r.kind = 5) : ∃ ns, r = .sm ns := by
  cases r with
  | sm ns => exact ⟨_, rfl⟩
  | vd k n v x => rcases k with _ | _ | k <;> cases h
  | _ => cases h
theorem kind_cl {r : Rw} (h : r.kind = 6) : ∃ os nd xs, r = .cl os nd xs := by
  cases r with
  | cl a b c => exact ⟨_, _, _, rfl⟩
  | vd k n v x => rcases k with _ | _ | k <;> cases h
  | _ => cases h
/-- the row's second thing, where it tells one name -/
theorem row_one {H : Hp} {r : Rw} {u : V} (h : RowAt H r u) (hk : r.kind = 0 ∨ r.kind = 1 ∨ r.kind = 2 ∨ r.kind = 3 ∨ r.kind = 4) : ∃ a xs n, u = .ref a ∧ H a = some (.tup (.str r.word :: .str n :: xs)) ∧ r.tells = [n] := by
  cases r with
  | pl n t => obtain ⟨a, w, h1, h2, h3⟩ := h; exact ⟨a, _, _, h1, h2, rfl⟩
  | vd k n v x => obtain ⟨a, h1, h2⟩ := h; exact ⟨a, _, _, h1, h2, rfl⟩
  | wh n x y => obtain ⟨a, h1, h2⟩ := h; exact ⟨a, _, _, h1, h2, rfl⟩
  | sm ns => simp [Rw.kind] at hk
  | cl a b c => simp [Rw.kind] at hk
theorem at_hd {x : V} {xs : List V} : atI (x :: xs) 0 = some x := atI_nat (j := 0) rfl
theorem at_1 {x y : V} {xs : List V} : atI (x :: y :: xs) 1 = some y := atI_nat (j := 1) rfl
theorem ok_Equation_tells (T : Txt K mg Z) : FnOk P w K mg base CX0 1 Z.f_Equation_tells Z.fd_Equation_tells ["self"] (spE Z (fun r => r.kind = 0 ∨ r.kind = 1 ∨ r.kind = 2 ∨ r.kind = 3 ∨ r.kind = 4) Re_tells) := by
  refine T.F_Equation_tells.ok sc_Equation_tells (fun vs H Q E h => ?_) (fun cdv AA outer s H vs Q E hr h => ?_)
  · obtain ⟨r, v, u, rfl, _⟩ := h
    rfl
  · obtain ⟨r, v, u, rfl, ⟨a, dx, fs, rfl, ha, hr2, hrow, hoff, htm⟩, hg, hS, k⟩ := h
    have TX := tcE T r.kind_lt
    obtain ⟨b, xs, n, rfl, hb, ht⟩ := row_one hr2 hS
    refine ⟨_, (pss_one (ps_ret (pe_lst (pa_cons (pe_ix ix_tup (pe_fld (pv 0) (by rfl)) pe_int (fun _ _ => rfl)) pa_nil)))), ?_⟩
    walk_at "ss"
    refine ⟨_, _, _, _, _, rfl, ha, TX.1, TX.2.1, hrow, ?_⟩
    walk_at "ss"
    refine c_ixT (SqT.of hb) at_1 ?_
    walk_at "ss"
    unfold Re_tells at k
    rw [ht] at k
    exact newL k
theorem ok_Same_tells (T : Txt K mg Z) : FnOk P w K mg base CX0 1 Z.f_Same_tells Z.fd_Same_tells ["self"] (spE Z (fun r => r.kind = 5) Re_tells) := by
  refine T.F_Same_tells.ok sc_Same_tells (fun vs H Q E h => ?_) (fun cdv AA outer s H vs Q E hr h => ?_)
  · obtain ⟨r, v, u, rfl, _⟩ := h
    rfl
  · obtain ⟨r, v, u, rfl, ⟨a, dx, fs, rfl, ha, hr2, hrow, hoff, htm⟩, hg, hS, k⟩ := h
    have TX := tcE T r.kind_lt
    obtain ⟨ns, rfl⟩ := kind_sm hS
    refine ⟨_, (pss_one (ps_ret (pe_lst pa_nil))), ?_⟩
    walk_at "ss"
    exact newL k
theorem ok_Call_tells (T : Txt K mg Z) : FnOk P w K mg base CX0 1 Z.f_Call_tells Z.fd_Call_tells ["self"] (spE Z (fun r => r.kind = 6) Re_tells) := by
  refine T.F_Call_tells.ok sc_Call_tells (fun vs H Q E h => ?_) (fun cdv AA outer s H vs Q E hr h => ?_)
  · obtain ⟨r, v, u, rfl, _⟩ := h
    rfl
  · obtain ⟨r, v, u, rfl, ⟨a, dx, fs, rfl, ha, hr2, hrow, hoff, htm⟩, hg, hS, k⟩ := h
    have TX := tcE T r.kind_lt
    obtain ⟨os, nd, xs, rfl⟩ := kind_cl hS
    obtain ⟨b, p, q, rfl, hb, hp, hq⟩ := hr2
    refine ⟨_, (pss_one (ps_ret (pe_callTy call_list_of (by rfl) T.n_list (by decide +kernel) (pa_cons (pe_ix ix_tup (pe_fld (pv 0) (by rfl)) pe_int (fun _ _ => rfl)) pa_nil)))), ?_⟩
    walk_at "ss"
    refine ⟨_, _, _, _, _, rfl, ha, TX.1, TX.2.1, hrow, ?_⟩
    walk_at "ss"
    refine c_ixT (SqT.of hb) rfl ?_
    walk_at "ss"
    refine ⟨_, _, rfl, .inr (SqT.of hp), fun l hl => ?_⟩
    exact k l _ hl (Ex.new hl) upd_same
theorem ok_Equation_names (T : Txt K mg Z) : FnOk P w K mg base CX0 1 Z.f_Equation_names Z.fd_Equation_names ["self"] (spE Z (fun r => r.kind = 1 ∨ r.kind = 2 ∨ r.kind = 3) Re_names) := by
  refine T.F_Equation_names.ok sc_Equation_names (fun vs H Q E h => ?_) (fun cdv AA outer s H vs Q E hr h => ?_)
  · obtain ⟨r, v, u, rfl, _⟩ := h
    rfl
  · obtain ⟨r, v, u, rfl, ⟨a, dx, fs, rfl, ha, hr2, hrow, hoff, htm⟩, hg, hS, k⟩ := h
    have TX := tcE T r.kind_lt
    obtain ⟨kk, n, w0, x, rfl⟩ := kind_vd hS
    obtain ⟨b, rfl, hb⟩ := hr2
    refine ⟨_, (pss_one (ps_ret (pe_lst (pa_cons (pe_ix ix_tup (pe_fld (pv 0) (by rfl)) pe_int (fun _ _ => rfl)) pa_nil)))), ?_⟩
    walk_at "ss"
    refine ⟨_, _, _, _, _, rfl, ha, TX.1, TX.2.1, hrow, ?_⟩
    walk_at "ss"
    refine c_ixT (SqT.of hb) rfl ?_
    walk_at "ss"
    exact newL k
theorem ok_Plain_names (T : Txt K mg Z)  : FnOk P w K mg base CX0 (9) Z.f_Plain_names Z.fd_Plain_names ["self"] (spE Z (fun r => r.kind = 0) Re_names) := by
  refine T.F_Plain_names.ok sc_Plain_names (fun vs H Q E h => ?_) (fun cdv AA outer s H vs Q E hr h => ?_)
  · obtain ⟨r, v, u, rfl, _⟩ := h
    rfl
  · obtain ⟨r, v, u, rfl, ⟨a, dx, fs, rfl, ha, hr2, hrow, hoff, htm⟩, hg, hS, k⟩ := h
    have TX := tcE T r.kind_lt
    obtain ⟨n, t, rfl⟩ := kind_pl hS
    obtain ⟨tv, hk, htv⟩ := htm n t rfl
    have GM_names := gm_names (P := P) (w := w) (base := base) T 5
    refine ⟨_, (pss_one (ps_ret (pe_methP0 (pe_fld (pv 0) (by rfl)) GM_names (hr.mono (by omega)) pass0))), ?_⟩
    walk_at "ss"
    refine ⟨_, _, _, _, _, rfl, ha, TX.1, TX.2.2.1 rfl, hk, ?_⟩
    obtain ⟨a2, dx2, fs2, rfl, ha2, l1, l2, l3, l4⟩ := htv.cls
    refine ⟨a2, _, dx2, fs2, rfl, ha2, clsT_MC Z t, l2, ?_⟩
    walk_at "ss"
    have h5 := hg.2.2
    exact ⟨t, _, rfl, htv, rfl, h5, by omega, k⟩
theorem ok_When_names (T : Txt K mg Z) : FnOk P w K mg base CX0 2 Z.f_When_names Z.fd_When_names ["self"] (spE Z (fun r => r.kind = 4) Re_names) := by
  have G_each_once := ok_each_once (P := P) (w := w) (base := base) T
  refine T.F_When_names.ok sc_When_names (fun vs H Q E h => ?_) (fun cdv AA outer s H vs Q E hr h => ?_)
  · obtain ⟨r, v, u, rfl, _⟩ := h
    rfl
  · obtain ⟨r, v, u, rfl, ⟨a, dx, fs, rfl, ha, hr2, hrow, hoff, htm⟩, hg, hS, k⟩ := h
    have TX := tcE T r.kind_lt
    obtain ⟨n, x, y, rfl⟩ := kind_wh hS
    obtain ⟨b, rfl, hb⟩ := hr2
    refine ⟨_, (pss_one (ps_ret (pe_call G_each_once (hr.mono (by omega)) rfl T.g_each_once T.F_each_once.kp T.b_each_once .nil pass0 (pa_cons (pe_callTy call_list_of (by rfl) T.n_list (by decide +kernel) (pa_cons (pe_slice sl_tup (pe_fld (pv 0) (by rfl)) (po_some pe_int) po_none) pa_nil)) pa_nil)))), ?_⟩
    walk_at "ss"
    refine ⟨_, _, _, _, _, rfl, ha, TX.1, TX.2.1, hrow, ?_⟩
    walk_at "ss"
    refine ⟨b, _, rfl, SqT.of hb, fun z => absurd (show (2 : Nat) = 0 from z.1) (by decide), fun p2 hp2 => ?_⟩
    walk_at "ss"
    refine ⟨_, _, rfl, .inr (SqT.of upd_same), fun l hl => ?_⟩
    walk_at "ss"
    refine ⟨l, [x, y], rfl, upd_same, by simp, RetL.up k ((Ex.new hp2).trans (Ex.new hl))⟩
theorem ok_Same_names (T : Txt K mg Z)  : FnOk P w K mg base CX0 (2) Z.f_Same_names Z.fd_Same_names ["self"] (spE Z (fun r => r.kind = 5) Re_names) := by
  refine T.F_Same_names.ok sc_Same_names (fun vs H Q E h => ?_) (fun cdv AA outer s H vs Q E hr h => ?_)
  · obtain ⟨r, v, u, rfl, _⟩ := h
    rfl
  · obtain ⟨r, v, u, rfl, ⟨a, dx, fs, rfl, ha, hr2, hrow, hoff, htm⟩, hg, hS, k⟩ := h
    have TX := tcE T r.kind_lt
    obtain ⟨ns, rfl⟩ := kind_sm hS
    obtain ⟨b, p, rfl, hb, hp⟩ := hr2
    have G_each_once := ok_each_onceT (P := P) (w := w) (base := base) T
    refine ⟨_, (pss_one (ps_ret (pe_call G_each_once (hr.mono (by omega)) rfl T.g_each_once T.F_each_once.kp T.b_each_once .nil pass0 (pa_cons (pe_ix ix_tup (pe_fld (pv 0) (by rfl)) pe_int (fun _ _ => rfl)) pa_nil)))), ?_⟩
    walk_at "ss"
    refine ⟨_, _, _, _, _, rfl, ha, TX.1, TX.2.1, hrow, ?_⟩
    walk_at "ss"
    refine c_ixT (SqT.of hb) rfl ?_
    walk_at "ss"
    have hlen := hg.2.1
    exact ⟨p, ns, rfl, hp, by omega, k⟩
theorem ok_Call_names (T : Txt K mg Z)  : FnOk P w K mg base CX0 (2) Z.f_Call_names Z.fd_Call_names ["self"] (spE Z (fun r => r.kind = 6) Re_names) := by
  refine T.F_Call_names.ok sc_Call_names (fun vs H Q E h => ?_) (fun cdv AA outer s H vs Q E hr h => ?_)
  · obtain ⟨r, v, u, rfl, _⟩ := h
    rfl
  · obtain ⟨r, v, u, rfl, ⟨a, dx, fs, rfl, ha, hr2, hrow, hoff, htm⟩, hg, hS, k⟩ := h
    have TX := tcE T r.kind_lt
    obtain ⟨os, nd, xs, rfl⟩ := kind_cl hS
    obtain ⟨b, q, p, rfl, hb, hq, hp⟩ := hr2
    have G_each_once := ok_each_onceT (P := P) (w := w) (base := base) T
    refine ⟨_, (pss_one (ps_ret (pe_call G_each_once (hr.mono (by omega)) rfl T.g_each_once T.F_each_once.kp T.b_each_once .nil pass0 (pa_cons (pe_ix ix_tup (pe_fld (pv 0) (by rfl)) pe_int (fun _ _ => rfl)) pa_nil)))), ?_⟩
    walk_at "ss"
    refine ⟨_, _, _, _, _, rfl, ha, TX.1, TX.2.1, hrow, ?_⟩
    walk_at "ss"
    refine c_ixT (SqT.of hb) rfl ?_
    walk_at "ss"
    have hlen := hg.2.2.2.2.2.1
    exact ⟨p, xs, rfl, hp, by omega, k⟩
theorem ok_Equation_term (T : Txt K mg Z) : FnOk P w K mg base CX0 1 Z.f_Equation_term Z.fd_Equation_term ["self"] (spE Z (fun r => r.kind = 1 ∨ r.kind = 2 ∨ r.kind = 3 ∨ r.kind = 4 ∨ r.kind = 5 ∨ r.kind = 6) (Re_term Z)) := by
  refine T.F_Equation_term.ok sc_Equation_term (fun vs H Q E h => ?_) (fun cdv AA outer s H vs Q E hr h => ?_)
  · obtain ⟨r, v, u, rfl, _⟩ := h
    rfl
  · obtain ⟨r, v, u, rfl, ⟨a, dx, fs, rfl, ha, hr2, hrow, hoff, htm⟩, hg, hS, k⟩ := h
    have TX := tcE T r.kind_lt
    refine ⟨_, (pss_one (ps_ret pe_non)), ?_⟩
    walk_at "ss"
    cases r with
    | pl n t => simp [Rw.kind] at hS
    | _ => exact k
theorem ok_Plain_term (T : Txt K mg Z) : FnOk P w K mg base CX0 1 Z.f_Plain_term Z.fd_Plain_term ["self"] (spE Z (fun r => r.kind = 0) (Re_term Z)) := by
  refine T.F_Plain_term.ok sc_Plain_term (fun vs H Q E h => ?_) (fun cdv AA outer s H vs Q E hr h => ?_)
  · obtain ⟨r, v, u, rfl, _⟩ := h
    rfl
  · obtain ⟨r, v, u, rfl, ⟨a, dx, fs, rfl, ha, hr2, hrow, hoff, htm⟩, hg, hS, k⟩ := h
    have TX := tcE T r.kind_lt
    obtain ⟨n, t, rfl⟩ := kind_pl hS
    obtain ⟨tv, hk, htv⟩ := htm n t rfl
    refine ⟨_, (pss_one (ps_ret (pe_fld (pv 0) (by rfl)))), ?_⟩
    walk_at "ss"
    exact ⟨_, _, _, _, _, rfl, ha, TX.1, TX.2.2.1 rfl, hk, k tv htv⟩
theorem gmE_told (T : Txt K mg Z) : ∀ C, MCE Z C → MOk P w K mg base CX0 1 C "told" (spmE_told Z C) := by
  rintro C ⟨i, hi, rfl⟩
  have hi' : i = 0 ∨ i = 1 ∨ i = 2 ∨ i = 3 ∨ i = 4 ∨ i = 5 ∨ i = 6 := by omega
  rcases hi' with rfl | rfl | rfl | rfl | rfl | rfl | rfl
  · exact ⟨(tcB_ok T.x_Plain).cl, _, _, _, ⟨T.h_told_Plain, T.y_Equation_told, T.F_Equation_told.kp⟩, ((ok_Equation_told (P := P) (w := w) (base := base) T).mono (by decide)).imp fun vs H Q E ⟨r, v, u, e, h, hg, hc, k⟩ => ⟨r, v, u, e, h, hg, True.intro, k⟩, T.b_Equation_told⟩
  · exact ⟨(tcB_ok T.x_Before).cl, _, _, _, ⟨T.h_told_Before, T.y_Equation_told, T.F_Equation_told.kp⟩, ((ok_Equation_told (P := P) (w := w) (base := base) T).mono (by decide)).imp fun vs H Q E ⟨r, v, u, e, h, hg, hc, k⟩ => ⟨r, v, u, e, h, hg, True.intro, k⟩, T.b_Equation_told⟩
  · exact ⟨(tcB_ok T.x_Hold).cl, _, _, _, ⟨T.h_told_Hold, T.y_Equation_told, T.F_Equation_told.kp⟩, ((ok_Equation_told (P := P) (w := w) (base := base) T).mono (by decide)).imp fun vs H Q E ⟨r, v, u, e, h, hg, hc, k⟩ => ⟨r, v, u, e, h, hg, True.intro, k⟩, T.b_Equation_told⟩
  · exact ⟨(tcB_ok T.x_Like).cl, _, _, _, ⟨T.h_told_Like, T.y_Equation_told, T.F_Equation_told.kp⟩, ((ok_Equation_told (P := P) (w := w) (base := base) T).mono (by decide)).imp fun vs H Q E ⟨r, v, u, e, h, hg, hc, k⟩ => ⟨r, v, u, e, h, hg, True.intro, k⟩, T.b_Equation_told⟩
  · exact ⟨(tcB_ok T.x_When).cl, _, _, _, ⟨T.h_told_When, T.y_Equation_told, T.F_Equation_told.kp⟩, ((ok_Equation_told (P := P) (w := w) (base := base) T).mono (by decide)).imp fun vs H Q E ⟨r, v, u, e, h, hg, hc, k⟩ => ⟨r, v, u, e, h, hg, True.intro, k⟩, T.b_Equation_told⟩
  · exact ⟨(tcB_ok T.x_Same).cl, _, _, _, ⟨T.h_told_Same, T.y_Equation_told, T.F_Equation_told.kp⟩, ((ok_Equation_told (P := P) (w := w) (base := base) T).mono (by decide)).imp fun vs H Q E ⟨r, v, u, e, h, hg, hc, k⟩ => ⟨r, v, u, e, h, hg, True.intro, k⟩, T.b_Equation_told⟩
  · exact ⟨(tcB_ok T.x_Call).cl, _, _, _, ⟨T.h_told_Call, T.y_Equation_told, T.F_Equation_told.kp⟩, ((ok_Equation_told (P := P) (w := w) (base := base) T).mono (by decide)).imp fun vs H Q E ⟨r, v, u, e, h, hg, hc, k⟩ => ⟨r, v, u, e, h, hg, True.intro, k⟩, T.b_Equation_told⟩
theorem gmE_tells (T : Txt K mg Z) : ∀ C, MCE Z C → MOk P w K mg base CX0 1 C "tells" (spmE_tells Z C) := by
  rintro C ⟨i, hi, rfl⟩
  have hi' : i = 0 ∨ i = 1 ∨ i = 2 ∨ i = 3 ∨ i = 4 ∨ i = 5 ∨ i = 6 := by omega
  rcases hi' with rfl | rfl | rfl | rfl | rfl | rfl | rfl
  · exact ⟨(tcB_ok T.x_Plain).cl, _, _, _, ⟨T.h_tells_Plain, T.y_Equation_tells, T.F_Equation_tells.kp⟩, ((ok_Equation_tells (P := P) (w := w) (base := base) T).mono (by decide)).imp fun vs H Q E ⟨r, v, u, e, h, hg, hc, k⟩ => ⟨r, v, u, e, h, hg, (by have := clsK_inj T r.kind_lt hi hc; omega), k⟩, T.b_Equation_tells⟩
  · exact ⟨(tcB_ok T.x_Before).cl, _, _, _, ⟨T.h_tells_Before, T.y_Equation_tells, T.F_Equation_tells.kp⟩, ((ok_Equation_tells (P := P) (w := w) (base := base) T).mono (by decide)).imp fun vs H Q E ⟨r, v, u, e, h, hg, hc, k⟩ => ⟨r, v, u, e, h, hg, (by have := clsK_inj T r.kind_lt hi hc; omega), k⟩, T.b_Equation_tells⟩
  · exact ⟨(tcB_ok T.x_Hold).cl, _, _, _, ⟨T.h_tells_Hold, T.y_Equation_tells, T.F_Equation_tells.kp⟩, ((ok_Equation_tells (P := P) (w := w) (base := base) T).mono (by decide)).imp fun vs H Q E ⟨r, v, u, e, h, hg, hc, k⟩ => ⟨r, v, u, e, h, hg, (by have := clsK_inj T r.kind_lt hi hc; omega), k⟩, T.b_Equation_tells⟩
  · exact ⟨(tcB_ok T.x_Like).cl, _, _, _, ⟨T.h_tells_Like, T.y_Equation_tells, T.F_Equation_tells.kp⟩, ((ok_Equation_tells (P := P) (w := w) (base := base) T).mono (by decide)).imp fun vs H Q E ⟨r, v, u, e, h, hg, hc, k⟩ => ⟨r, v, u, e, h, hg, (by have := clsK_inj T r.kind_lt hi hc; omega), k⟩, T.b_Equation_tells⟩
  · exact ⟨(tcB_ok T.x_When).cl, _, _, _, ⟨T.h_tells_When, T.y_Equation_tells, T.F_Equation_tells.kp⟩, ((ok_Equation_tells (P := P) (w := w) (base := base) T).mono (by decide)).imp fun vs H Q E ⟨r, v, u, e, h, hg, hc, k⟩ => ⟨r, v, u, e, h, hg, (by have := clsK_inj T r.kind_lt hi hc; omega), k⟩, T.b_Equation_tells⟩
  · exact ⟨(tcB_ok T.x_Same).cl, _, _, _, ⟨T.h_tells_Same, T.y_Same_tells, T.F_Same_tells.kp⟩, ((ok_Same_tells (P := P) (w := w) (base := base) T).mono (by decide)).imp fun vs H Q E ⟨r, v, u, e, h, hg, hc, k⟩ => ⟨r, v, u, e, h, hg, (by have := clsK_inj T r.kind_lt hi hc; omega), k⟩, T.b_Same_tells⟩
  · exact ⟨(tcB_ok T.x_Call).cl, _, _, _, ⟨T.h_tells_Call, T.y_Call_tells, T.F_Call_tells.kp⟩, ((ok_Call_tells (P := P) (w := w) (base := base) T).mono (by decide)).imp fun vs H Q E ⟨r, v, u, e, h, hg, hc, k⟩ => ⟨r, v, u, e, h, hg, (by have := clsK_inj T r.kind_lt hi hc; omega), k⟩, T.b_Call_tells⟩
theorem gmE_names (T : Txt K mg Z) : ∀ C, MCE Z C → MOk P w K mg base CX0 9 C "names" (spmE_names Z C) := by
  rintro C ⟨i, hi, rfl⟩
  have hi' : i = 0 ∨ i = 1 ∨ i = 2 ∨ i = 3 ∨ i = 4 ∨ i = 5 ∨ i = 6 := by omega
  rcases hi' with rfl | rfl | rfl | rfl | rfl | rfl | rfl
  · exact ⟨(tcB_ok T.x_Plain).cl, _, _, _, ⟨T.h_names_Plain, T.y_Plain_names, T.F_Plain_names.kp⟩, ((ok_Plain_names (P := P) (w := w) (base := base) T).mono (by decide)).imp fun vs H Q E ⟨r, v, u, e, h, hg, hc, k⟩ => ⟨r, v, u, e, h, hg, (by have := clsK_inj T r.kind_lt hi hc; omega), k⟩, T.b_Plain_names⟩
  · exact ⟨(tcB_ok T.x_Before).cl, _, _, _, ⟨T.h_names_Before, T.y_Equation_names, T.F_Equation_names.kp⟩, ((ok_Equation_names (P := P) (w := w) (base := base) T).mono (by decide)).imp fun vs H Q E ⟨r, v, u, e, h, hg, hc, k⟩ => ⟨r, v, u, e, h, hg, (by have := clsK_inj T r.kind_lt hi hc; omega), k⟩, T.b_Equation_names⟩
  · exact ⟨(tcB_ok T.x_Hold).cl, _, _, _, ⟨T.h_names_Hold, T.y_Equation_names, T.F_Equation_names.kp⟩, ((ok_Equation_names (P := P) (w := w) (base := base) T).mono (by decide)).imp fun vs H Q E ⟨r, v, u, e, h, hg, hc, k⟩ => ⟨r, v, u, e, h, hg, (by have := clsK_inj T r.kind_lt hi hc; omega), k⟩, T.b_Equation_names⟩
  · exact ⟨(tcB_ok T.x_Like).cl, _, _, _, ⟨T.h_names_Like, T.y_Equation_names, T.F_Equation_names.kp⟩, ((ok_Equation_names (P := P) (w := w) (base := base) T).mono (by decide)).imp fun vs H Q E ⟨r, v, u, e, h, hg, hc, k⟩ => ⟨r, v, u, e, h, hg, (by have := clsK_inj T r.kind_lt hi hc; omega), k⟩, T.b_Equation_names⟩
  · exact ⟨(tcB_ok T.x_When).cl, _, _, _, ⟨T.h_names_When, T.y_When_names, T.F_When_names.kp⟩, ((ok_When_names (P := P) (w := w) (base := base) T).mono (by decide)).imp fun vs H Q E ⟨r, v, u, e, h, hg, hc, k⟩ => ⟨r, v, u, e, h, hg, (by have := clsK_inj T r.kind_lt hi hc; omega), k⟩, T.b_When_names⟩
  · exact ⟨(tcB_ok T.x_Same).cl, _, _, _, ⟨T.h_names_Same, T.y_Same_names, T.F_Same_names.kp⟩, ((ok_Same_names (P := P) (w := w) (base := base) T).mono (by decide)).imp fun vs H Q E ⟨r, v, u, e, h, hg, hc, k⟩ => ⟨r, v, u, e, h, hg, (by have := clsK_inj T r.kind_lt hi hc; omega), k⟩, T.b_Same_names⟩
  · exact ⟨(tcB_ok T.x_Call).cl, _, _, _, ⟨T.h_names_Call, T.y_Call_names, T.F_Call_names.kp⟩, ((ok_Call_names (P := P) (w := w) (base := base) T).mono (by decide)).imp fun vs H Q E ⟨r, v, u, e, h, hg, hc, k⟩ => ⟨r, v, u, e, h, hg, (by have := clsK_inj T r.kind_lt hi hc; omega), k⟩, T.b_Call_names⟩
theorem gmE_term (T : Txt K mg Z) : ∀ C, MCE Z C → MOk P w K mg base CX0 1 C "term" (spmE_term Z C) := by
  rintro C ⟨i, hi, rfl⟩
  have hi' : i = 0 ∨ i = 1 ∨ i = 2 ∨ i = 3 ∨ i = 4 ∨ i = 5 ∨ i = 6 := by omega
  rcases hi' with rfl | rfl | rfl | rfl | rfl | rfl | rfl
  · exact ⟨(tcB_ok T.x_Plain).cl, _, _, _, ⟨T.h_term_Plain, T.y_Plain_term, T.F_Plain_term.kp⟩, ((ok_Plain_term (P := P) (w := w) (base := base) T).mono (by decide)).imp fun vs H Q E ⟨r, v, u, e, h, hg, hc, k⟩ => ⟨r, v, u, e, h, hg, (by have := clsK_inj T r.kind_lt hi hc; omega), k⟩, T.b_Plain_term⟩
  · exact ⟨(tcB_ok T.x_Before).cl, _, _, _, ⟨T.h_term_Before, T.y_Equation_term, T.F_Equation_term.kp⟩, ((ok_Equation_term (P := P) (w := w) (base := base) T).mono (by decide)).imp fun vs H Q E ⟨r, v, u, e, h, hg, hc, k⟩ => ⟨r, v, u, e, h, hg, (by have := clsK_inj T r.kind_lt hi hc; omega), k⟩, T.b_Equation_term⟩
  · exact ⟨(tcB_ok T.x_Hold).cl, _, _, _, ⟨T.h_term_Hold, T.y_Equation_term, T.F_Equation_term.kp⟩, ((ok_Equation_term (P := P) (w := w) (base := base) T).mono (by decide)).imp fun vs H Q E ⟨r, v, u, e, h, hg, hc, k⟩ => ⟨r, v, u, e, h, hg, (by have := clsK_inj T r.kind_lt hi hc; omega), k⟩, T.b_Equation_term⟩
  · exact ⟨(tcB_ok T.x_Like).cl, _, _, _, ⟨T.h_term_Like, T.y_Equation_term, T.F_Equation_term.kp⟩, ((ok_Equation_term (P := P) (w := w) (base := base) T).mono (by decide)).imp fun vs H Q E ⟨r, v, u, e, h, hg, hc, k⟩ => ⟨r, v, u, e, h, hg, (by have := clsK_inj T r.kind_lt hi hc; omega), k⟩, T.b_Equation_term⟩
  · exact ⟨(tcB_ok T.x_When).cl, _, _, _, ⟨T.h_term_When, T.y_Equation_term, T.F_Equation_term.kp⟩, ((ok_Equation_term (P := P) (w := w) (base := base) T).mono (by decide)).imp fun vs H Q E ⟨r, v, u, e, h, hg, hc, k⟩ => ⟨r, v, u, e, h, hg, (by have := clsK_inj T r.kind_lt hi hc; omega), k⟩, T.b_Equation_term⟩
  · exact ⟨(tcB_ok T.x_Same).cl, _, _, _, ⟨T.h_term_Same, T.y_Equation_term, T.F_Equation_term.kp⟩, ((ok_Equation_term (P := P) (w := w) (base := base) T).mono (by decide)).imp fun vs H Q E ⟨r, v, u, e, h, hg, hc, k⟩ => ⟨r, v, u, e, h, hg, (by have := clsK_inj T r.kind_lt hi hc; omega), k⟩, T.b_Equation_term⟩
  · exact ⟨(tcB_ok T.x_Call).cl, _, _, _, ⟨T.h_term_Call, T.y_Equation_term, T.F_Equation_term.kp⟩, ((ok_Equation_term (P := P) (w := w) (base := base) T).mono (by decide)).imp fun vs H Q E ⟨r, v, u, e, h, hg, hc, k⟩ => ⟨r, v, u, e, h, hg, (by have := clsK_inj T r.kind_lt hi hc; omega), k⟩, T.b_Equation_term⟩

/-! ### rows made -/
theorem TermAt.keepM {H H2 : Hp} (e : ∀ a C dx fs, MC Z C → H a = some (.ins C dx fs) → H2 a = some (.ins C dx fs)) : ∀ {t : Tm} {v : V}, TermAt Z H t v → TermAt Z H2 t v := by
  intro t
  induction t with
  | nm s => rintro v ⟨a, dx, h1, h2⟩; exact ⟨a, dx, h1, e _ _ _ _ (clsT_MC Z (.nm s)) h2⟩
  | vl x => rintro v ⟨a, dx, h1, h2⟩; exact ⟨a, dx, h1, e _ _ _ _ (clsT_MC Z (.vl x)) h2⟩
  | two op p q ihp ihq => rintro v ⟨a, dx, v1, v2, h1, h2, h3, h4⟩; exact ⟨a, dx, v1, v2, h1, e _ _ _ _ (clsT_MC Z (.two op p q)) h2, ihp h3, ihq h4⟩
  | nt p ihp => rintro v ⟨a, dx, v1, h1, h2, h3⟩; exact ⟨a, dx, v1, h1, e _ _ _ _ (clsT_MC Z (.nt p)) h2, ihp h3⟩
  | pk c p q ihc ihp ihq => rintro v ⟨a, dx, v0, v1, v2, h1, h2, h3, h4, h5⟩; exact ⟨a, dx, v0, v1, v2, h1, e _ _ _ _ (clsT_MC Z (.pk c p q)) h2, ihc h3, ihp h4, ihq h5⟩
theorem MC_ne (T : Txt K mg Z) {C : Addr} (h : MC Z C) : C ≠ Z.c_Plain := by
  rcases h with rfl | rfl | rfl | rfl | rfl
  · exact (difB_ne (i := 0) (j := 1) T.fact_difT rfl rfl (by decide)).symm
  · exact (difB_ne (i := 0) (j := 2) T.fact_difT rfl rfl (by decide)).symm
  · exact (difB_ne (i := 0) (j := 3) T.fact_difT rfl rfl (by decide)).symm
  · exact (difB_ne (i := 0) (j := 4) T.fact_difT rfl rfl (by decide)).symm
  · exact (difB_ne (i := 0) (j := 5) T.fact_difT rfl rfl (by decide)).symm
def RetE (Z : Adr) (r : Rw) (u : V) (H : Hp) (Q : VK) : Prop := ∀ v H2, Ex H H2 → EqAt Z H2 r v u → Q v H2
theorem RetE.up {r : Rw} {u : V} {H0 H : Hp} {Q : VK} (k : RetE Z r u H0 Q) (e : Ex H0 H) : RetE Z r u H Q := fun v H2 e2 => k v H2 (e.trans e2)
def sp_Equation_init (Z : Adr) : Sp := fun vs H Q _ => ∃ x dx i v, vs = [.ref x, v] ∧ i < 7 ∧ H x = some (.ins (clsK Z i) dx []) ∧ Q .non (upd H x (.ins (clsK Z i) dx [("told_row", v)]))
theorem ok_Equation_init (T : Txt K mg Z) : FnOk P w K mg base CX0 1 Z.f_Equation_init Z.fd_Equation_init ["self", "row"] (sp_Equation_init Z) := by
  refine T.F_Equation_init.ok sc_Equation_init (fun vs H Q E h => ?_) (fun cdv AA outer s H vs Q E hr h => ?_)
  · obtain ⟨x, dx, i, v, rfl, _⟩ := h
    rfl
  · obtain ⟨x, dx, i, v, rfl, hi, hx, k⟩ := h
    have TX := tcE T hi
    refine ⟨_, (pss_one (ps_fld (pv 0) (pv 1) (by rfl))), ?_⟩
    walk_at "ss"
    refine ⟨x, _, dx, _, rfl, hx, TX.1, TX.2.1, by simp, ?_⟩
    walk_at "ss"
    exact k
def sp_Plain_init (Z : Adr) : Sp := fun vs H Q _ => ∃ x dx n t u H0, vs = [.ref x, u] ∧ H x = some (.ins Z.c_Plain dx []) ∧ H0 x = none ∧ Ex H0 H ∧ RowAt H0 (.pl n t) u ∧ t.good ∧ t.dep ≤ 5 ∧
  ∀ H2 tv, Ex H0 H2 → H2 x = some (.ins Z.c_Plain dx [("told_row", u), ("kept_term", tv)]) → TermAt Z H2 t tv → Q .non H2
theorem ok_Plain_init (T : Txt K mg Z)  : FnOk P w K mg base CX0 (20) Z.f_Plain_init Z.fd_Plain_init ["self", "row"] (sp_Plain_init Z) := by
  have G_Equation_init := ok_Equation_init (P := P) (w := w) (base := base) T
  have G_term_of := ok_term_of (P := P) (w := w) (base := base) T
  refine T.F_Plain_init.ok sc_Plain_init (fun vs H Q E h => ?_) (fun cdv AA outer s H vs Q E hr h => ?_)
  · obtain ⟨x, dx, n, t, u, H0, rfl, _⟩ := h
    rfl
  · obtain ⟨x, dx, n, t, u, H0, rfl, hx, h0, e0, ⟨b, tw, rfl, hb, hw⟩, hg, hd, k⟩ := h
    have TX := tcE T (i := 0) (by decide)
    refine ⟨_, (pss_cons (ps_expr (pe_cm rfl T.m_Equation (cmB_ok T.fact_cm_Equation) G_Equation_init (hr.mono (by omega)) T.F_Equation_init.kp T.b_Equation_init pass0 (pa_cons (pv 0) (pa_cons (pv 1) pa_nil))))
      (pss_one (ps_fld (pv 0) (pe_call G_term_of (hr.mono (by omega)) rfl T.g_term_of T.F_term_of.kp T.b_term_of .nil pass0 (pa_cons (pe_ix ix_tup (pv 1) pe_int (fun _ _ => rfl)) pa_nil)) (by rfl)))), ?_⟩
    walk_at "ss"
    refine ⟨x, dx, 0, _, rfl, by decide, hx, ?_⟩
    have e1 : Ex H0 (upd H x (.ins (clsK Z 0) dx [("told_row", .ref b)])) := Ex.mut e0 h0
    have hx1 : upd H x (.ins (clsK Z 0) dx [("told_row", .ref b)]) x = some (.ins (clsK Z 0) dx [("told_row", .ref b)]) := upd_same
    generalize upd H x (.ins (clsK Z 0) dx [("told_row", .ref b)]) = H1 at e1 hx1
    walk_at "ss"
    refine c_ixT (SqT.of (e1 _ _ hb)) rfl ?_
    walk_at "ss"
    refine ⟨t, tw, rfl, hw.up e1, hg, hd, fun tv H2 e2 htv => ?_⟩
    walk_at "ss"
    refine ⟨x, _, dx, _, rfl, e2 _ _ hx1, TX.1, TX.2.2.1 rfl, by simp, ?_⟩
    rw [put_tl (by decide +kernel)]
    walk_at "ss"
    refine k _ tv (Ex.mut (e1.trans e2) h0) upd_same (htv.keepM fun a C dx' fs hC ha => ?_)
    rw [upd_ne]
    · exact ha
    · intro z
      subst z
      have := (e2 _ _ hx1).symm.trans ha
      injection this with this
      injection this with h1
      exact MC_ne T hC h1.symm
theorem offE1 {u : V} : offE [("told_row", u)] := by
  refine ⟨?_, ?_, ?_, ?_, ?_⟩ <;> exact lk_tl (by decide +kernel) rfl
theorem offE2 {u v : V} : offE [("told_row", u), ("kept_term", v)] := by
  refine ⟨?_, ?_, ?_, ?_, ?_⟩ <;> exact lk_tl (by decide +kernel) (lk_tl (by decide +kernel) rfl)
theorem offX1 {u : V} : offX [("told_row", u)] := by
  refine ⟨?_, ?_⟩ <;> exact lk_tl (by decide +kernel) rfl
theorem offX2 {u v : V} : offX [("told_row", u), ("kept_term", v)] := by
  refine ⟨?_, ?_⟩ <;> exact lk_tl (by decide +kernel) (lk_tl (by decide +kernel) rfl)
theorem mk_row {H : Hp} {Q : VK} {E : XK} {i : Nat} {r : Rw} {u : V} (hi : r.kind = i) (h0 : i ≠ 0) (hr : RowAt H r u) (k : RetE Z r u H Q) : MkP2 (clsK Z i) (sp_Equation_init Z) [u] H Q E := fun x dx hx hd _ => by
  have hk := r.kind_lt
  refine ⟨x, dx, i, u, rfl, by omega, upd_same, rfl, ?_⟩
  have e1 : Ex H (upd (upd (upd H dx (.own x)) x (.ins (clsK Z i) dx [])) x (.ins (clsK Z i) dx [("told_row", u)])) := Ex.mut (mk_heap hx hd) hx
  refine k _ _ e1 ⟨x, dx, _, rfl, by rw [hi]; exact upd_same, hr.up e1, lk_hd, ⟨offE1, offX1⟩, fun n t e => ?_⟩
  subst e
  exact absurd hi.symm h0
theorem mk_Plain {H : Hp} {Q : VK} {E : XK} {n : Str} {t : Tm} {u : V} (hr : RowAt H (.pl n t) u) (hg : t.good) (hd5 : t.dep ≤ 5) (k : RetE Z (.pl n t) u H Q) : MkP2 Z.c_Plain (sp_Plain_init Z) [u] H Q E := fun x dx hx hd _ =>
  ⟨x, dx, n, t, u, H, rfl, upd_same, hx, mk_heap hx hd, hr, hg, hd5, fun H2 tv e2 g2 htv => ⟨rfl, k _ _ e2 ⟨x, dx, _, rfl, g2, hr.up e2, lk_hd, ⟨offE2, offX2⟩, fun n' t' e => by cases e; exact ⟨tv, lk_tl (by decide +kernel) lk_hd, htv⟩⟩⟩⟩
/-! are_pointed .. equation_of -/
def sp_are_pointed : Sp := fun vs H Q _ => ∃ (p : Addr) (ns : List Str) (m : Int), vs = [.ref p, .int m] ∧ H p = some (.tup (ns.map V.str)) ∧ (∀ s ∈ ns, goodN s) ∧ m ≤ (ns.length : Int) ∧ ns.length ≤ 1000 ∧ RetV (.bl true) H Q
theorem ok_are_pointed (T : Txt K mg Z) : FnOk P w K mg base CX0 3 Z.f_are_pointed Z.fd_are_pointed ["thing", "least"] sp_are_pointed := by
  have G_is_pointed := ok_is_pointed (P := P) (w := w) (base := base) T
  refine T.F_are_pointed.ok sc_are_pointed (fun vs H Q E h => ?_) (fun cdv AA outer s H vs Q E hr h => ?_)
  · obtain ⟨p, ns, m, rfl, _⟩ := h
    rfl
  · obtain ⟨p, ns, m, rfl, hp, hg, hm, hl, k⟩ := h
    refine ⟨_, (pss_one (ps_ret (pe_and (pe_callB call_isi (by rfl) T.n_isinstance (by decide +kernel) (pa_cons (pv 0) (pa_cons (pe_bltn (v := .ty "tuple") (by rfl) T.n_tuple (by decide +kernel) rfl) pa_nil))) (pe_and (pe_cmpR op_ge (pe_callB call_len_seq (by rfl) T.n_len (by decide +kernel) (pa_cons (pv 0) pa_nil)) (pv 1) (nomark _)) (pe_one (pe_callB (cr_all rfl) (by rfl) T.n_all (by decide +kernel) (pa_cons (pe_lc (own := [("name", 2)]) (g := (gName 2)) (tt := tYes) (te := (tCall (sp_is_pointed K) [] E0 (tCons (tVar 2) tNil))) rfl sc_are_pointed.nd (pi_tup (pv 0)) (blkOk_by (own := [("name", 2)]) (N := N_are_pointed) (sc := defScope s_are_pointed) (by decide +kernel)) (fun _ _ _ _ _ => (pg_name (i := 2) sc_are_pointed.nd rfl (Or.inl rfl))) (fun _ _ _ _ _ => pts_nil) (fun _ _ _ _ _ => (pe_call G_is_pointed (hr.mono (by omega)) rfl T.g_is_pointed T.F_is_pointed.kp T.b_is_pointed .nil pass0 (pa_cons (pv 2) pa_nil)))) pa_nil))))))), ?_⟩
    walk_at "ss"
    refine isi (ty_tup hp) kb_tt ?_
    walk_at "ss"
    refine ⟨p, _, rfl, .inr (SqT.of hp), ?_⟩
    walk_at "ss"
    refine if_tt (decide_eq_true (by rw [List.length_map]; exact hm)) ?_
    walk_at "ss"
    refine ⟨⟨_, SqT.of hp⟩, lcT (fun i => (ns[i]?).bind fun _ => some (.bl true)) (SqT.of hp) (by rw [List.length_map]; omega) (fun i x hx => ?_) ?_⟩
    · rw [List.getElem?_map] at hx
      obtain ⟨s, hs, rfl⟩ := Option.map_eq_some_iff.mp hx
      have hgs := hg s (List.mem_of_getElem? hs)
      have := hgs.2.1
      intro H2 e2 R hR
      walk_at "ss"
      refine ⟨_, rfl, .inl ⟨s, rfl, by omega, fun H3 e3 => ?_⟩⟩
      rw [hgs.1]
      rw [hs] at hR
      exact hR _ e3
    rw [List.length_map, fm_range, fm_some]
    intro p2 H2 hp2 e2 g2
    walk_at "ss"
    refine ⟨p2, ns.map fun _ => true, rfl, SqL.of (by rw [g2, List.map_map]; rfl), ?_⟩
    have ea : (ns.map fun _ => true).all id = true := by
      rw [List.all_eq_true]
      intro b hb
      obtain ⟨_, _, rfl⟩ := List.mem_map.mp hb
      rfl
    rw [ea]
    exact k _ e2
/-- a row with a value, or one whose name is none -/
def sp_is_valued : Sp := fun vs H Q _ => ∃ a w n v x, vs = [.ref a] ∧ H a = some (.tup [.str w, .str n, v, .str x]) ∧ n.length ≤ 1000 ∧ ((isPointed n = true ∧ isVal v = true ∧ goodN x ∧ RetV (.bl true) H Q) ∨ (isPointed n = false ∧ RetV (.bl false) H Q))
theorem ok_is_valued (T : Txt K mg Z) : FnOk P w K mg base CX0 4 Z.f_is_valued Z.fd_is_valued ["row"] sp_is_valued := by
  have G_is_pointed := ok_is_pointed (P := P) (w := w) (base := base) T
  have G_is_value := ok_is_value (P := P) (w := w) (base := base) T
  refine T.F_is_valued.ok sc_is_valued (fun vs H Q E h => ?_) (fun cdv AA outer s H vs Q E hr h => ?_)
  · obtain ⟨a, w0, n, v, x, rfl, _⟩ := h
    rfl
  · obtain ⟨a, w0, n, v, x, rfl, ha, hn, h⟩ := h
    refine ⟨_, (pss_one (ps_ret (pe_and (pe_cmpR op_eq (pe_callB call_len_seq (by rfl) T.n_len (by decide +kernel) (pa_cons (pv 0) pa_nil)) pe_int (nomark _)) (pe_and (pe_call G_is_pointed (hr.mono (by omega)) rfl T.g_is_pointed T.F_is_pointed.kp T.b_is_pointed .nil pass0 (pa_cons (pe_ix ix_tup (pv 0) pe_int (fun _ _ => rfl)) pa_nil)) (pe_and (pe_call G_is_value (hr.mono (by omega)) rfl T.g_is_value T.F_is_value.kp T.b_is_value .nil pass0 (pa_cons (pe_ix ix_tup (pv 0) pe_int (fun _ _ => rfl)) pa_nil)) (pe_one (pe_call G_is_pointed (hr.mono (by omega)) rfl T.g_is_pointed T.F_is_pointed.kp T.b_is_pointed .nil pass0 (pa_cons (pe_ix ix_tup (pv 0) pe_int (fun _ _ => rfl)) pa_nil)))))))), ?_⟩
    walk_at "ss"
    refine ⟨a, _, rfl, .inr (SqT.of ha), ?_⟩
    walk_at "ss"
    refine if_tt rfl ?_
    walk_at "ss"
    refine c_ixT (SqT.of ha) rfl ?_
    walk_at "ss"
    refine ⟨_, rfl, .inl ⟨n, rfl, by omega, fun H1 e1 => ?_⟩⟩
    rcases h with ⟨h1, h2, h3, k⟩ | ⟨h1, k⟩
    · rw [h1]
      walk_at "ss"
      refine c_ixT (SqT.of (e1 _ _ ha)) rfl ?_
      walk_at "ss"
      refine is_val h2 ?_
      walk_at "ss"
      refine c_ixT (SqT.of (e1 _ _ ha)) rfl ?_
      walk_at "ss"
      have := h3.2.1
      refine ⟨_, rfl, .inl ⟨x, rfl, by omega, fun H2 e2 => ?_⟩⟩
      rw [h3.1]
      exact k _ (e1.trans e2)
    · rw [h1]
      walk_at "ss"
      exact k _ e1
def sp_plain_of (Z : Adr) : Sp := fun vs H Q _ => ∃ n t u, vs = [u] ∧ RowAt H (.pl n t) u ∧ Rw.good (.pl n t) ∧ RetE Z (.pl n t) u H Q
theorem ok_plain_of (T : Txt K mg Z) : FnOk P w K mg base CX0 22 Z.f_plain_of Z.fd_plain_of ["row"] (sp_plain_of Z) := by
  have G_is_pointed := ok_is_pointed (P := P) (w := w) (base := base) T
  have G_Plain_init := ok_Plain_init (P := P) (w := w) (base := base) T
  refine T.F_plain_of.ok sc_plain_of (fun vs H Q E h => ?_) (fun cdv AA outer s H vs Q E hr h => ?_)
  · obtain ⟨n, t, u, rfl, _⟩ := h
    rfl
  · obtain ⟨n, t, u, rfl, hr2, hg, k⟩ := h
    have hr3 := hr2
    obtain ⟨a, tw, rfl, ha, hw⟩ := hr2
    refine ⟨_, (pss_cons (ps_if (PW.pt (pw_or (pt_cmpR op_ne (pe_callB call_len_seq (by rfl) T.n_len (by decide +kernel) (pa_cons (pv 0) pa_nil)) pe_int (nomark _)) (pw_or1 (pt_not (pt_val (pe_call G_is_pointed (hr.mono (by omega)) rfl T.g_is_pointed T.F_is_pointed.kp T.b_is_pointed .nil pass0 (pa_cons (pe_ix ix_tup (pv 0) pe_int (fun _ _ => rfl)) pa_nil))))))) (pss_one (ps_ret pe_non)) pss_nil)
      (pss_one (ps_try_thru0 (pss_one (ps_ret (pe_make ⟨(tcB_ok T.x_Plain).makes, T.i_Plain, T.y_Plain_init, (tcB_ok T.x_Plain).kp⟩ G_Plain_init (hr.mono (by omega)) rfl T.m_Plain T.b_Plain_init .nil pass0 (pa_cons (pv 0) pa_nil))))))), ?_⟩
    walk_at "ss"
    refine ⟨a, _, rfl, .inr (SqT.of ha), ?_⟩
    walk_at "ss"
    refine if_ff rfl ?_
    walk_at "ss"
    refine c_ixT (SqT.of ha) rfl ?_
    walk_at "ss"
    have := hg.1.2.1
    refine ⟨_, rfl, .inl ⟨n, rfl, by omega, fun H1 e1 => ?_⟩⟩
    rw [hg.1.1]
    walk_at "ss"
    exact mk_Plain (hr3.up e1) hg.2.1 hg.2.2 (k.up e1)
def badV (H : Hp) (u : V) : Prop := ∃ a n v x, u = .ref a ∧ H a = some (.tup [.str "before", .str n, v, .str x]) ∧ n.length ≤ 1000 ∧ isPointed n = false
def sp_valued_of (Z : Adr) : Sp := fun vs H Q _ => ∃ u, vs = [u] ∧ ((∃ kk n v x, RowAt H (.vd kk n v x) u ∧ Rw.good (.vd kk n v x) ∧ RetE Z (.vd kk n v x) u H Q) ∨ (badV H u ∧ RetV .non H Q))
theorem ok_valued_of (T : Txt K mg Z) : FnOk P w K mg base CX0 5 Z.f_valued_of Z.fd_valued_of ["row"] (sp_valued_of Z) := by
  have G_Equation_init := ok_Equation_init (P := P) (w := w) (base := base) T
  have G_is_valued := ok_is_valued (P := P) (w := w) (base := base) T
  refine T.F_valued_of.ok sc_valued_of (fun vs H Q E h => ?_) (fun cdv AA outer s H vs Q E hr h => ?_)
  · obtain ⟨u, rfl, _⟩ := h
    rfl
  · obtain ⟨u, rfl, h⟩ := h
    refine ⟨_, (pss_cons (ps_if (pt_not (pt_val (pe_call G_is_valued (hr.mono (by omega)) rfl T.g_is_valued T.F_is_valued.kp T.b_is_valued .nil pass0 (pa_cons (pv 0) pa_nil)))) (pss_one (ps_ret pe_non)) pss_nil)
      (pss_cons (ps_if (pt_cmpR op_eq (pe_ix ix_tup (pv 0) pe_int (fun _ _ => rfl)) pe_str (nomark _)) (pss_one (ps_ret (pe_make ⟨(tcB_ok T.x_Before).makes, T.i_Before, T.y_Equation_init, (tcB_ok T.x_Before).kp⟩ G_Equation_init (hr.mono (by omega)) rfl T.m_Before T.b_Equation_init .nil pass0 (pa_cons (pv 0) pa_nil)))) pss_nil)
      (pss_cons (ps_if (pt_cmpR op_eq (pe_ix ix_tup (pv 0) pe_int (fun _ _ => rfl)) pe_str (nomark _)) (pss_one (ps_ret (pe_make ⟨(tcB_ok T.x_Hold).makes, T.i_Hold, T.y_Equation_init, (tcB_ok T.x_Hold).kp⟩ G_Equation_init (hr.mono (by omega)) rfl T.m_Hold T.b_Equation_init .nil pass0 (pa_cons (pv 0) pa_nil)))) pss_nil)
      (pss_one (ps_ret (pe_make ⟨(tcB_ok T.x_Like).makes, T.i_Like, T.y_Equation_init, (tcB_ok T.x_Like).kp⟩ G_Equation_init (hr.mono (by omega)) rfl T.m_Like T.b_Equation_init .nil pass0 (pa_cons (pv 0) pa_nil))))))), ?_⟩
    rcases h with ⟨kk, n, v, x, hr2, hg, k⟩ | ⟨⟨a, n, v, x, rfl, ha, hn, hb⟩, k⟩
    · have hr3 := hr2
      obtain ⟨a, rfl, ha⟩ := hr2
      have h80 := hg.2.1.2.1
      walk_at "ss"
      refine ⟨a, _, n, v, x, rfl, ha, by omega, .inl ⟨hg.2.1.1, hg.2.2.1, hg.2.2.2, fun H1 e1 => ?_⟩⟩
      have ha1 := e1 _ _ ha
      walk_at "ss"
      refine c_ixT (SqT.of ha1) rfl ?_
      walk_at "ss"
      have hk3 := hg.1
      have hk : kk = 0 ∨ kk = 1 ∨ kk = 2 := by omega
      rcases hk with rfl | rfl | rfl
      · refine if_tt (str_eq rfl) ?_
        walk_at "ss"
        exact mk_row (i := 1) rfl (by decide) (hr3.up e1) (k.up e1)
      · refine if_ff (str_ne (by decide +kernel)) ?_
        walk_at "ss"
        refine c_ixT (SqT.of ha1) rfl ?_
        walk_at "ss"
        refine if_tt (str_eq rfl) ?_
        walk_at "ss"
        exact mk_row (i := 2) rfl (by decide) (hr3.up e1) (k.up e1)
      · refine if_ff (str_ne (by decide +kernel)) ?_
        walk_at "ss"
        refine c_ixT (SqT.of ha1) rfl ?_
        walk_at "ss"
        refine if_ff (str_ne (by decide +kernel)) ?_
        walk_at "ss"
        exact mk_row (i := 3) rfl (by decide) (hr3.up e1) (k.up e1)
    · walk_at "ss"
      refine ⟨a, _, n, v, x, rfl, ha, by omega, .inr ⟨hb, fun H1 e1 => ?_⟩⟩
      walk_at "ss"
      exact k _ e1
def sp_call_of (Z : Adr) : Sp := fun vs H Q _ => ∃ os nd xs u, vs = [u] ∧ RowAt H (.cl os nd xs) u ∧ Rw.good (.cl os nd xs) ∧ RetE Z (.cl os nd xs) u H Q
theorem ok_call_of (T : Txt K mg Z) : FnOk P w K mg base CX0 4 Z.f_call_of Z.fd_call_of ["row"] (sp_call_of Z) := by
  have G_is_name := ok_is_name (P := P) (w := w) (base := base) T
  have G_Equation_init := ok_Equation_init (P := P) (w := w) (base := base) T
  have G_are_pointed := ok_are_pointed (P := P) (w := w) (base := base) T
  refine T.F_call_of.ok sc_call_of (fun vs H Q E h => ?_) (fun cdv AA outer s H vs Q E hr h => ?_)
  · obtain ⟨os, nd, xs, u, rfl, _⟩ := h
    rfl
  · obtain ⟨os, nd, xs, u, rfl, hr2, hg, k⟩ := h
    have hr3 := hr2
    obtain ⟨a, p, q, rfl, ha, hp, hq⟩ := hr2
    obtain ⟨g1, g2, g3, ⟨g4, g5, g6⟩, g7, g8, g9⟩ := hg
    refine ⟨_, (pss_cons (ps_if (PW.pt (pw_or (pt_cmpR op_ne (pe_callB call_len_seq (by rfl) T.n_len (by decide +kernel) (pa_cons (pv 0) pa_nil)) pe_int (nomark _)) (pw_or (pt_not (pt_val (pe_call G_are_pointed (hr.mono (by omega)) rfl T.g_are_pointed T.F_are_pointed.kp T.b_are_pointed .nil pass0 (pa_cons (pe_ix ix_tup (pv 0) pe_int (fun _ _ => rfl)) (pa_cons pe_int pa_nil))))) (pw_or (pt_not (pt_val (pe_call G_is_name (hr.mono (by omega)) rfl T.g_is_name T.F_is_name.kp T.b_is_name .nil pass0 (pa_cons (pe_ix ix_tup (pv 0) pe_int (fun _ _ => rfl)) pa_nil)))) (pw_or1 (pt_not (pt_val (pe_call G_are_pointed (hr.mono (by omega)) rfl T.g_are_pointed T.F_are_pointed.kp T.b_are_pointed .nil pass0 (pa_cons (pe_ix ix_tup (pv 0) pe_int (fun _ _ => rfl)) (pa_cons pe_int pa_nil)))))))))) (pss_one (ps_ret pe_non)) pss_nil)
      (pss_one (ps_ret (pe_make ⟨(tcB_ok T.x_Call).makes, T.i_Call, T.y_Equation_init, (tcB_ok T.x_Call).kp⟩ G_Equation_init (hr.mono (by omega)) rfl T.m_Call T.b_Equation_init .nil pass0 (pa_cons (pv 0) pa_nil))))), ?_⟩
    walk_at "ss"
    refine ⟨a, _, rfl, .inr (SqT.of ha), ?_⟩
    walk_at "ss"
    refine if_ff rfl ?_
    walk_at "ss"
    refine c_ixT (SqT.of ha) rfl ?_
    walk_at "ss"
    refine ⟨p, os, 1, rfl, hp, g3, by omega, by omega, fun H1 e1 => ?_⟩
    walk_at "ss"
    refine c_ixT (SqT.of (e1 _ _ ha)) rfl ?_
    walk_at "ss"
    refine ⟨_, rfl, .inl ⟨nd, rfl, by omega, fun H2 e2 => ?_⟩⟩
    rw [g4]
    walk_at "ss"
    have e12 := e1.trans e2
    refine c_ixT (SqT.of (e12 _ _ ha)) rfl ?_
    walk_at "ss"
    refine ⟨q, xs, 1, rfl, e12 _ _ hq, g9, by omega, by omega, fun H3 e3 => ?_⟩
    walk_at "ss"
    exact mk_row (i := 6) rfl (by decide) (hr3.up (e12.trans e3)) (k.up (e12.trans e3))
def sp_made_of (Z : Adr) : Sp := fun vs H Q _ => ∃ u, vs = [u] ∧ ((∃ r, RowAt H r u ∧ r.good ∧ RetE Z r u H Q) ∨ (badV H u ∧ RetV .non H Q))
theorem in_vw (k : Nat) : inV (.str (vword k)) [.str "before", .str "hold", .str "like"] = true := by
  rcases vword_in k with e | e | e <;> (rw [e]; decide +kernel)
theorem vw_ne {k : Nat} : vword k ≠ "plain" := by
  rcases vword_in k with e | e | e <;> (rw [e]; decide +kernel)
theorem ok_made_of (T : Txt K mg Z) : FnOk P w K mg base CX0 23 Z.f_made_of Z.fd_made_of ["row"] (sp_made_of Z) := by
  have G_Equation_init := ok_Equation_init (P := P) (w := w) (base := base) T
  have G_are_pointed := ok_are_pointed (P := P) (w := w) (base := base) T
  have G_plain_of := ok_plain_of (P := P) (w := w) (base := base) T
  have G_valued_of := ok_valued_of (P := P) (w := w) (base := base) T
  have G_call_of := ok_call_of (P := P) (w := w) (base := base) T
  refine T.F_made_of.ok sc_made_of (fun vs H Q E h => ?_) (fun cdv AA outer s H vs Q E hr h => ?_)
  · obtain ⟨u, rfl, _⟩ := h
    rfl
  · obtain ⟨u, rfl, h⟩ := h
    refine ⟨_, (pss_cons (ps_if (pt_cmpR op_eq (pe_ix ix_tup (pv 0) pe_int (fun _ _ => rfl)) pe_str (nomark _)) (pss_one (ps_ret (pe_call G_plain_of (hr.mono (by omega)) rfl T.g_plain_of T.F_plain_of.kp T.b_plain_of .nil pass0 (pa_cons (pv 0) pa_nil)))) pss_nil)
      (pss_cons (ps_if (pt_cmpR op_in_seq (pe_ix ix_tup (pv 0) pe_int (fun _ _ => rfl)) (pe_tup (pa_cons pe_str (pa_cons pe_str (pa_cons pe_str pa_nil)))) (by rfl)) (pss_one (ps_ret (pe_call G_valued_of (hr.mono (by omega)) rfl T.g_valued_of T.F_valued_of.kp T.b_valued_of .nil pass0 (pa_cons (pv 0) pa_nil)))) pss_nil)
      (pss_cons (ps_if (pt_cmpR op_eq (pe_ix ix_tup (pv 0) pe_int (fun _ _ => rfl)) pe_str (nomark _)) (pss_one (ps_ret (pe_call G_call_of (hr.mono (by omega)) rfl T.g_call_of T.F_call_of.kp T.b_call_of .nil pass0 (pa_cons (pv 0) pa_nil)))) pss_nil)
      (pss_cons (ps_if (PW.pt (pw_and (pt_cmpR op_eq (pe_ix ix_tup (pv 0) pe_int (fun _ _ => rfl)) pe_str (nomark _)) (pw_and (pt_cmpR op_eq (pe_callB call_len_seq (by rfl) T.n_len (by decide +kernel) (pa_cons (pv 0) pa_nil)) pe_int (nomark _)) (pw_and1 (pt_val (pe_call G_are_pointed (hr.mono (by omega)) rfl T.g_are_pointed T.F_are_pointed.kp T.b_are_pointed .nil pass0 (pa_cons (pe_slice sl_tup (pv 0) (po_some pe_int) po_none) (pa_cons pe_int pa_nil)))))))) (pss_one (ps_ret (pe_make ⟨(tcB_ok T.x_When).makes, T.i_When, T.y_Equation_init, (tcB_ok T.x_When).kp⟩ G_Equation_init (hr.mono (by omega)) rfl T.m_When T.b_Equation_init .nil pass0 (pa_cons (pv 0) pa_nil)))) pss_nil)
      (pss_cons (ps_if (PW.pt (pw_and (pt_cmpR op_eq (pe_ix ix_tup (pv 0) pe_int (fun _ _ => rfl)) pe_str (nomark _)) (pw_and (pt_cmpR op_eq (pe_callB call_len_seq (by rfl) T.n_len (by decide +kernel) (pa_cons (pv 0) pa_nil)) pe_int (nomark _)) (pw_and1 (pt_val (pe_call G_are_pointed (hr.mono (by omega)) rfl T.g_are_pointed T.F_are_pointed.kp T.b_are_pointed .nil pass0 (pa_cons (pe_ix ix_tup (pv 0) pe_int (fun _ _ => rfl)) (pa_cons pe_int pa_nil)))))))) (pss_one (ps_ret (pe_make ⟨(tcB_ok T.x_Same).makes, T.i_Same, T.y_Equation_init, (tcB_ok T.x_Same).kp⟩ G_Equation_init (hr.mono (by omega)) rfl T.m_Same T.b_Equation_init .nil pass0 (pa_cons (pv 0) pa_nil)))) pss_nil)
      (pss_one (ps_ret pe_non))))))), ?_⟩
    rcases h with ⟨r, hr2, hg, k⟩ | ⟨⟨a, n, v, x, rfl, ha, hn, hb⟩, k⟩
    · have hr3 := hr2
      cases r with
      | pl n t =>
        obtain ⟨a, tw, rfl, ha, hw⟩ := hr2
        walk_at "ss"
        refine c_ixT (SqT.of ha) rfl ?_
        walk_at "ss"
        rw [str_eq rfl]
        walk_at "ss"
        exact ⟨n, t, _, rfl, hr3, hg, k⟩
      | vd kk n v x =>
        obtain ⟨a, rfl, ha⟩ := hr2
        walk_at "ss"
        refine c_ixT (SqT.of ha) rfl ?_
        walk_at "ss"
        rw [str_ne vw_ne]
        walk_at "ss"
        refine c_ixT (SqT.of ha) rfl ?_
        walk_at "ss"
        refine newT fun p1 H1 hp1 e1 g1 => ?_
        refine c_in (.inr (SqT.of g1)) rfl rfl ?_
        rw [in_vw]
        walk_at "ss"
        exact ⟨_, rfl, .inl ⟨kk, n, v, x, hr3.up e1, hg, k.up e1⟩⟩
      | cl os nd xs =>
        obtain ⟨a, p, q, rfl, ha, hp, hq⟩ := hr2
        walk_at "ss"
        refine c_ixT (SqT.of ha) rfl ?_
        walk_at "ss"
        rw [str_ne (by decide +kernel)]
        walk_at "ss"
        refine c_ixT (SqT.of ha) rfl ?_
        walk_at "ss"
        refine newT fun p1 H1 hp1 e1 g1 => ?_
        refine c_in (.inr (SqT.of g1)) rfl rfl ?_
        rw [show inV (V.str "call") [.str "before", .str "hold", .str "like"] = false from by decide +kernel]
        walk_at "ss"
        refine c_ixT (SqT.of (e1 _ _ ha)) rfl ?_
        walk_at "ss"
        rw [str_eq rfl]
        walk_at "ss"
        exact ⟨os, nd, xs, _, rfl, hr3.up e1, hg, k.up e1⟩
      | wh n x y =>
        obtain ⟨a, rfl, ha⟩ := hr2
        walk_at "ss"
        refine c_ixT (SqT.of ha) rfl ?_
        walk_at "ss"
        rw [str_ne (by decide +kernel)]
        walk_at "ss"
        refine c_ixT (SqT.of ha) rfl ?_
        walk_at "ss"
        refine newT fun p1 H1 hp1 e1 g1 => ?_
        refine c_in (.inr (SqT.of g1)) rfl rfl ?_
        rw [show inV (V.str "when") [.str "before", .str "hold", .str "like"] = false from by decide +kernel]
        have ha1 := e1 _ _ ha
        walk_at "ss"
        refine c_ixT (SqT.of ha1) rfl ?_
        walk_at "ss"
        rw [str_ne (by decide +kernel)]
        walk_at "ss"
        refine c_ixT (SqT.of ha1) rfl ?_
        walk_at "ss"
        rw [str_eq rfl]
        walk_at "ss"
        refine ⟨a, _, rfl, .inr (SqT.of ha1), ?_⟩
        walk_at "ss"
        refine if_tt rfl ?_
        walk_at "ss"
        refine ⟨a, _, rfl, SqT.of ha1, fun z => absurd (show (1 : Nat) = 0 from z.1) (by decide), fun p2 hp2 => ?_⟩
        walk_at "ss"
        have e2 := Ex.new (H := H1) (p := p2) (o := .tup ([n, x, y].map V.str)) hp2
        refine ⟨p2, [n, x, y], 3, rfl, upd_same, fun s hs => ?_, by simp, by simp, fun H3 e3 => ?_⟩
        · simp only [List.mem_cons, List.not_mem_nil, or_false] at hs
          rcases hs with rfl | rfl | rfl
          · exact hg.1
          · exact hg.2.1
          · exact hg.2.2
        walk_at "ss"
        exact mk_row (i := 4) rfl (by decide) (hr3.up (e1.trans (e2.trans e3))) (k.up (e1.trans (e2.trans e3)))
      | sm ns =>
        obtain ⟨a, p, rfl, ha, hp⟩ := hr2
        walk_at "ss"
        refine c_ixT (SqT.of ha) rfl ?_
        walk_at "ss"
        rw [str_ne (by decide +kernel)]
        walk_at "ss"
        refine c_ixT (SqT.of ha) rfl ?_
        walk_at "ss"
        refine newT fun p1 H1 hp1 e1 g1 => ?_
        refine c_in (.inr (SqT.of g1)) rfl rfl ?_
        rw [show inV (V.str "same") [.str "before", .str "hold", .str "like"] = false from by decide +kernel]
        have ha1 := e1 _ _ ha
        walk_at "ss"
        refine c_ixT (SqT.of ha1) rfl ?_
        walk_at "ss"
        rw [str_ne (by decide +kernel)]
        walk_at "ss"
        refine c_ixT (SqT.of ha1) rfl ?_
        walk_at "ss"
        rw [str_ne (by decide +kernel)]
        walk_at "ss"
        refine c_ixT (SqT.of ha1) rfl ?_
        walk_at "ss"
        rw [str_eq rfl]
        walk_at "ss"
        refine ⟨a, _, rfl, .inr (SqT.of ha1), ?_⟩
        walk_at "ss"
        refine if_tt rfl ?_
        walk_at "ss"
        refine c_ixT (SqT.of ha1) rfl ?_
        walk_at "ss"
        have g1' := hg.1
        have g2' := hg.2.1
        refine ⟨p, ns, 2, rfl, e1 _ _ hp, hg.2.2, by omega, by omega, fun H3 e3 => ?_⟩
        walk_at "ss"
        exact mk_row (i := 5) rfl (by decide) (hr3.up (e1.trans e3)) (k.up (e1.trans e3))
    · walk_at "ss"
      refine c_ixT (SqT.of ha) rfl ?_
      walk_at "ss"
      rw [str_ne (by decide +kernel)]
      walk_at "ss"
      refine c_ixT (SqT.of ha) rfl ?_
      walk_at "ss"
      refine newT fun p1 H1 hp1 e1 g1 => ?_
      refine c_in (.inr (SqT.of g1)) rfl rfl ?_
      rw [show inV (V.str "before") [.str "before", .str "hold", .str "like"] = true from by decide +kernel]
      walk_at "ss"
      exact ⟨_, rfl, .inr ⟨⟨a, n, v, x, rfl, e1 _ _ ha, hn, hb⟩, k.up e1⟩⟩
theorem ne_empty {H : Hp} {Q : VK} {a p : Addr} {d : PyData} {ds : List PyData} {D B : Nat} (h : Dp K H (.ref a) (.tuple (d :: ds))) (r : RpOk D B (.tuple (d :: ds))) (hD : D ≤ 64) (g : H p = some (.tup [])) (q : Q (.bl true) H) : rNeD K (.ref a) (.ref p) H Q := by
  refine ⟨_, .tuple [], h, .tup (SqT.of g) .nil, r.shaped hD, by decide +kernel, ?_⟩
  rw [show PyData.eqv (.tuple (d :: ds)) (.tuple []) = false from by simp [PyData.eqv, PyData.eqvAll]]
  exact q
theorem Rw.data_cons (r : Rw) : ∃ d ds, r.data = .tuple (d :: ds) := by cases r <;> exact ⟨_, _, rfl⟩
def sp_equation_of (Z : Adr) : Sp := fun vs H Q _ => ∃ r u, vs = [u] ∧ RowAt H r u ∧ r.good ∧ RetE Z r u H Q
theorem ok_equation_of (T : Txt K mg Z) : FnOk P w K mg base CX0 24 Z.f_equation_of Z.fd_equation_of ["told"] (sp_equation_of Z) := by
  have G_made_of := ok_made_of (P := P) (w := w) (base := base) T
  refine T.F_equation_of.ok sc_equation_of (fun vs H Q E h => ?_) (fun cdv AA outer s H vs Q E hr h => ?_)
  · obtain ⟨r, u, rfl, _⟩ := h
    rfl
  · obtain ⟨r, u, rfl, hr2, hg, k⟩ := h
    have hr3 := hr2
    obtain ⟨a, xs, rfl, ha⟩ := hr2.hd
    refine ⟨_, (pss_cons (ps_set (i := 1) sc_equation_of.nd rfl (Or.inl rfl) pe_non)
      (pss_cons (ps_if (PW.pt (pw_and (pt_val (pe_callB call_isi (by rfl) T.n_isinstance (by decide +kernel) (pa_cons (pv 0) (pa_cons (pe_bltn (v := .ty "tuple") (by rfl) T.n_tuple (by decide +kernel) rfl) pa_nil)))) (pw_and (pt_cmpR (op_neD hr.units) (pv 0) (pe_tup pa_nil) (nomark _)) (pw_and1 (pt_val (pe_callB call_isi (by rfl) T.n_isinstance (by decide +kernel) (pa_cons (pe_ix ix_tup (pv 0) pe_int (fun _ _ => rfl)) (pa_cons (pe_bltn (v := .ty "str") (by rfl) T.n_str (by decide +kernel) rfl) pa_nil)))))))) (pss_one (ps_set (i := 1) sc_equation_of.nd rfl (Or.inl rfl) (pe_call G_made_of (hr.mono (by omega)) rfl T.g_made_of T.F_made_of.kp T.b_made_of .nil pass0 (pa_cons (pv 0) pa_nil)))) pss_nil)
      (pss_cons (ps_if (pt_cmpR op_isN (pv 1) pe_non (nomark _)) (pss_one ps_never) pss_nil)
      (pss_one (ps_ret (pv 1)))))), ?_⟩
    walk_at "ss"
    refine isi (ty_tup ha) kb_tt ?_
    walk_at "ss"
    refine newT fun p1 H1 hp1 e1 g1 => ?_
    obtain ⟨d, ds, hdd⟩ := r.data_cons
    have hdp := (hr3.up e1).dp (K := K) hg
    have hrp := Rw.rp hg
    rw [hdd] at hdp hrp
    refine ne_empty hdp hrp (by decide) g1 ?_
    walk_at "ss"
    refine c_ixT (SqT.of (e1 _ _ ha)) at_hd ?_
    walk_at "ss"
    refine isi (ty_str _) kb_ss ?_
    walk_at "ss"
    refine ⟨_, rfl, .inl ⟨r, hr3.up e1, hg, fun v H2 e2 hv => ?_⟩⟩
    walk_at "ss"
    have nv : decide (v = V.non) = false := by
      obtain ⟨aa, _, _, rfl, _⟩ := hv
      rfl
    rw [nv]
    walk_at "ss"
    exact k _ _ (e1.trans e2) hv

def Tm.flat : Tm → List Str
  | .nm s => [s]
  | .vl _ => []
  | .two _ a b => a.flat ++ b.flat
  | .nt a => a.flat
  | .pk c a b => c.flat ++ a.flat ++ b.flat
/-! ### the law's own names, values, terms, rows -/
def W14 : List Str := ["a", "inx", "outs", "nodea", "beats", "b", "ab", "holdx", "whenq", "z", "cfgjpv", "truex", "likely", "modest"]
theorem goodN_of {s : Str} (h : (isPointed s && (decide (s.length ≤ 80) && (TL.tl s).all fun c => decide (c < 1114112))) = true) : goodN s := by
  rw [Bool.and_eq_true, Bool.and_eq_true, decide_eq_true_eq] at h
  exact ⟨h.1, h.2.1, OkT.lit h.2.2⟩
def okNb (s : Str) : Bool := isPointed s && (decide (s.length ≤ 80) && (TL.tl s).all fun c => decide (c < 1114112))
theorem w14_good : ∀ w ∈ W14, goodN w ∧ goodN ("p." ++ w) ∧ goodN (w ++ ".holdx" ++ Str.empty) ∧ goodN (w ++ ".holdx" ++ ".y") := by
  have h : W14.all (fun w => okNb w && (okNb ("p." ++ w) && (okNb (w ++ ".holdx" ++ Str.empty) && okNb (w ++ ".holdx" ++ ".y")))) = true := by decide +kernel
  intro w hw
  have := List.all_eq_true.mp h w hw
  rw [Bool.and_eq_true, Bool.and_eq_true, Bool.and_eq_true] at this
  exact ⟨goodN_of this.1, goodN_of this.2.1, goodN_of this.2.2.1, goodN_of this.2.2.2⟩
def sp_names_l : Sp := fun vs H Q _ => ∃ (b : Addr) (m : Nat), vs = [.ref b, .int (m : Nat)] ∧ BoxAt H b ∧ m ≤ 14 ∧ ∀ (ns : List Str) (p : Addr) (H2 : Hp), ns.length = m → (∀ s ∈ ns, goodN s) → H p = none → ExB b H H2 → BoxAt H2 b → H2 p = some (.lst (ns.map V.str)) → Q (.ref p) H2
theorem at4i {x0 x1 x2 x3 : Int} {d : Int} (h0 : 0 ≤ d) (h1 : d < 4) : ∃ m, atI [V.int x0, .int x1, .int x2, .int x3] d = some (.int m) ∧ (m = x0 ∨ m = x1 ∨ m = x2 ∨ m = x3) := by
  have : d = 0 ∨ d = 1 ∨ d = 2 ∨ d = 3 := by omega
  rcases this with rfl | rfl | rfl | rfl
  · exact ⟨_, rfl, .inl rfl⟩
  · exact ⟨_, rfl, .inr (.inl rfl)⟩
  · exact ⟨_, rfl, .inr (.inr (.inl rfl))⟩
  · exact ⟨_, rfl, .inr (.inr (.inr rfl))⟩
theorem ok_names_l (T : Txt K mg Z) : FnOk P w K mg base CX0 2 Z.f_names_l Z.fd_names_l ["_law_box_here", "_law_many"] sp_names_l := by
  have G_take_l := ok_take_l (P := P) (w := w) (base := base) T
  refine T.F_names_l.ok sc_names_l (fun vs H Q E h => ?_) (fun cdv AA outer s H vs Q E hr h => ?_)
  · obtain ⟨b, m, rfl, _⟩ := h
    rfl
  · obtain ⟨b, m, rfl, hB, hm, k⟩ := h
    refine ⟨_, (pss_cons (ps_set (i := 2) sc_names_l.nd rfl (Or.inl rfl) (pe_lst (pa_cons pe_str (pa_cons pe_str (pa_cons pe_str (pa_cons pe_str (pa_cons pe_str (pa_cons pe_str (pa_cons pe_str (pa_cons pe_str (pa_cons pe_str pa_nil)))))))))))
      (pss_cons (ps_set (i := 2) sc_names_l.nd rfl (Or.inl rfl) (pe_op op_cat (pv 2) (pe_lst (pa_cons pe_str (pa_cons pe_str (pa_cons pe_str (pa_cons pe_str (pa_cons pe_str pa_nil))))))))
      (pss_cons (ps_set (i := 3) sc_names_l.nd rfl (Or.inl rfl) (pe_call G_take_l (hr.mono (by omega)) rfl T.g_take_l T.F_take_l.kp T.b_take_l .nil pass0 (pa_cons (pv 0) (pa_cons pe_int pa_nil))))
      (pss_cons (ps_set (i := 4) sc_names_l.nd rfl (Or.inl rfl) (pe_ix ix_list (pe_lst (pa_cons pe_int (pa_cons pe_int (pa_cons pe_int (pa_cons pe_int pa_nil))))) (pe_call G_take_l (hr.mono (by omega)) rfl T.g_take_l T.F_take_l.kp T.b_take_l .nil pass0 (pa_cons (pv 0) (pa_cons pe_int pa_nil))) (fun _ _ => rfl)))
      (pss_cons (ps_set (i := 5) sc_names_l.nd rfl (Or.inl rfl) (pe_call G_take_l (hr.mono (by omega)) rfl T.g_take_l T.F_take_l.kp T.b_take_l .nil pass0 (pa_cons (pv 0) (pa_cons pe_int pa_nil))))
      (pss_cons (ps_set (i := 6) sc_names_l.nd rfl (Or.inl rfl) (pe_lst pa_nil))
      (pss_cons (ps_for PassesOwn.never rfl (pi_range1 (by rfl) T.n_range (pa_cons (pv 1) pa_nil)) (pg_name (i := 7) sc_names_l.nd rfl (Or.inl rfl)) (pss_cons (ps_set (i := 8) sc_names_l.nd rfl (Or.inl rfl) (pe_ix ix_list (pv 2) (pe_op op_mod (pe_op op_add (pv 3) (pe_op op_mul (pv 4) (pv 7))) pe_int) (fun _ _ => rfl)))
      (Evl.pss_cut (ps_if (pt_cmpR op_ge (pv 7) pe_int (nomark _)) (pss_one (ps_set (i := 8) sc_names_l.nd rfl (Or.inl rfl) (pe_op op_add_str (pe_op op_add_str pe_str (pe_ix ix_str pe_str (pe_op op_fdiv (pv 7) pe_int) (fun _ _ => rfl))) (pe_ix ix_str pe_str (pe_op op_mod (pv 7) pe_int) (fun _ _ => rfl))))) pss_nil)
      (Evl.pss_cut (ps_if (PW.pt (pw_and (pt_cmpR op_eq (pv 5) pe_int (nomark _)) (pw_and1 (pt_cmpR op_eq (pe_op op_mod (pv 7) pe_int) pe_int (nomark _))))) (pss_one (ps_set (i := 8) sc_names_l.nd rfl (Or.inl rfl) (pe_op op_add_str pe_str (pv 8)))) pss_nil)
      (Evl.pss_cut (ps_if (PW.pt (pw_and (pt_cmpR op_eq (pv 5) pe_int (nomark _)) (pw_and1 (pt_cmpR op_eq (pe_op op_mod (pv 7) pe_int) pe_int (nomark _))))) (pss_one (ps_set (i := 8) sc_names_l.nd rfl (Or.inl rfl) (pe_op op_add_str (pe_op op_add_str (pv 8) pe_str) (pe_op op_rep_str01 pe_str (pe_callTy call_int1 (by rfl) T.n_int (by decide +kernel) (pa_cons (pe_cmpR op_eq (pe_op op_mod (pv 7) pe_int) pe_int (nomark _)) pa_nil)))))) pss_nil)
      (pss_one (ps_expr (pe_bm PySem.F.plainAttrs_list PySem.F.slot_list_append PySem.F.type_list_append mt_append (pv 6) (pa_cons (pv 8) pa_nil)))))))))
      (pss_one (ps_ret (pv 6)))))))))), ?_⟩
    walk_at "ss"
    refine newL fun p1 H1 hp1 e1 g1 => ?_
    walk_at "ss"
    refine newL fun p2 H2 hp2 e2 g2 => ?_
    refine c_cat (e2 _ _ g1) g2 (fun sm H3 hsm e3 g3 => ?_)
    have gs : H3 sm = some (.lst (W14.map V.str)) := g3
    walk_at "ss"
    have E3 := e1.trans (e2.trans e3)
    refine ⟨b, 14, rfl, hB.ex E3, by decide, by decide, fun st H4 h40 h41 e4 b4 => ?_⟩
    walk_at "ss"
    refine newL fun p5 H5 hp5 e5 g5 => ?_
    walk_at "ss"
    refine ⟨b, 4, rfl, b4.ex e5, by decide, by decide, fun d6 H6 h60 h61 e6 b6 => ?_⟩
    obtain ⟨stp, hstp, hst⟩ := at4i (x0 := 1) (x1 := 3) (x2 := 5) (x3 := 9) h60 h61
    have np5 : p5 ≠ b := by
      obtain ⟨ob, hob⟩ := b4.some
      exact (ne_of_none hob hp5).symm
    refine c_ixL (SqL.of (e6 _ _ np5 g5)) hstp ?_
    walk_at "ss"
    refine ⟨b, 3, rfl, b6, by decide, by decide, fun tn H7 h70 h71 e7 b7 => ?_⟩
    walk_at "ss"
    refine newL fun f H8 hf e8 g8 => ?_
    have nsb : sm ≠ b := by
      obtain ⟨ob, hob⟩ := (hB.ex (e1.trans e2)).some
      exact (ne_of_none hob hsm).symm
    have gs7 : H7 sm = some (.lst (W14.map V.str)) := e7 _ _ nsb (e6 _ _ nsb (e5 _ _ (e4 _ _ nsb gs)))
    have EB7 : ExB b H H7 := (ExB.of E3).trans (e4.trans ((ExB.of e5).trans (e6.trans e7)))
    have hfH : H f = none := by
      cases hq : H f with
      | none => rfl
      | some o =>
        by_cases hfb : f = b
        · subst hfb
          obtain ⟨ob, hob⟩ := b7.some
          exact absurd rfl (ne_of_none hob hf)
        · have := EB7 f o hfb hq
          rw [hf] at this
          cases this
    walk_at "ss"
    refine ⟨by omega, by omega, ?_⟩
    refine forR (fun i σ' G => (∃ v7 v8, σ' = [some (.ref b), some (.int (m : Nat)), some (.ref sm), some (.int st), some (.int stp), some (.int tn), some (.ref f), v7, v8]) ∧ Ex H7 G ∧ ∃ ns : List Str, ns.length = i ∧ (∀ s ∈ ns, goodN s) ∧ G f = some (.lst (ns.map V.str))) ⟨⟨_, _, rfl⟩, e8, [], rfl, (fun _ h => by cases h), g8⟩ ?_ ?_
    · rintro i σ' G hi ⟨⟨v7, v8, rfl⟩, eG, ns, hns, hgood, gf⟩
      have him : i < m := by omega
      walk_at "ss"
      refine c_I (.inr ⟨by omega, by omega⟩) ?_
      walk_at "ss"
      refine c_I (by decide) ?_
      obtain ⟨v, hv, hvm⟩ := at_in (xs := W14.map V.str) (d := (st + stp * (i : Int)) % 14) (Int.emod_nonneg _ (by decide)) (Int.emod_lt_of_pos _ (by decide))
      obtain ⟨w0, hw0, rfl⟩ := List.mem_map.mp hvm
      refine c_ixL (SqL.of (eG _ _ gs7)) hv ?_
      walk_at "ss"
      obtain ⟨q1, q2, q3, q4⟩ := w14_good w0 hw0
      have l0 := q1.2.1
      refine c_cut (M := fun σ' G' => G' = G ∧ σ' = [some (.ref b), some (.int (m : Nat)), some (.ref sm), some (.int st), some (.int stp), some (.int tn), some (.ref f), some (.int (i : Nat)), some (.str w0)]) ?_ ?_
      · walk_at "ss"
        refine if_ff (decide_eq_false (by omega)) ?_
        walk_at "ss"
        exact rfl
      rintro σ' G' ⟨rfl, rfl⟩
      refine c_cut (M := fun σ' G2 => G2 = G' ∧ ∃ w1, σ' = [some (.ref b), some (.int (m : Nat)), some (.ref sm), some (.int st), some (.int stp), some (.int tn), some (.ref f), some (.int (i : Nat)), some (.str w1)] ∧ (w1 = w0 ∨ (tn = 1 ∧ w1 = "p." ++ w0))) ?_ ?_
      · walk_at "ss"
        refine if_cs (fun c1 => ?_) (fun c1 => ?_)
        · have ht1 : tn = 1 := by
            have := of_decide_eq_true c1
            injection this
          walk_at "ss"
          refine c_I (by decide) ?_
          walk_at "ss"
          refine if_cs (fun c2 => ?_) (fun c2 => ?_)
          · walk_at "ss"
            refine ⟨Evl.sz_of (by rw [show (Str.ofString "p.").length = 2 from by decide +kernel]; omega), ?_⟩
            walk_at "ss"
            exact .inr ⟨ht1, rfl⟩
          · walk_at "ss"
            exact .inl rfl
        · walk_at "ss"
          exact .inl rfl
      rintro σ' G2 ⟨rfl, w1, rfl, hw1⟩
      refine c_cut (M := fun σ' G3 => G3 = G2 ∧ ∃ w2, σ' = [some (.ref b), some (.int (m : Nat)), some (.ref sm), some (.int st), some (.int stp), some (.int tn), some (.ref f), some (.int (i : Nat)), some (.str w2)] ∧ goodN w2) ?_ ?_
      · walk_at "ss"
        refine if_cs (fun c1 => ?_) (fun c1 => ?_)
        · have ht1 : tn = 2 := by
            have := of_decide_eq_true c1
            injection this
          have hw : w1 = w0 := by
            rcases hw1 with e | ⟨e, _⟩
            · exact e
            · omega
          subst hw
          walk_at "ss"
          refine c_I (by decide) ?_
          walk_at "ss"
          refine if_cs (fun c2 => ?_) (fun c2 => ?_)
          · walk_at "ss"
            refine ⟨Evl.sz_of (by rw [show (Str.ofString ".holdx").length = 6 from by decide +kernel]; omega), ?_⟩
            walk_at "ss"
            refine c_I (by decide) ?_
            walk_at "ss"
            refine .inr ⟨_, rfl, ?_⟩
            cases hc4 : decide (V.int ((i : Int) % 4) = V.int 0) with
            | true =>
              refine ⟨_, _, rfl, rfl, .inr ⟨rfl, ?_⟩⟩
              walk_at "ss"
              refine ⟨Evl.sz_of (by rw [add_len, show (Str.ofString ".holdx").length = 6 from by decide +kernel, show (Str.ofString ".y").length = 2 from by decide +kernel]; omega), ?_⟩
              walk_at "ss"
              exact q4
            | false =>
              refine ⟨_, _, rfl, rfl, .inl ⟨rfl, ?_⟩⟩
              walk_at "ss"
              refine ⟨Evl.sz_of (by rw [add_len, show (Str.ofString ".holdx").length = 6 from by decide +kernel, show Str.empty.length = 0 from rfl]; omega), ?_⟩
              walk_at "ss"
              exact q3
          · walk_at "ss"
            exact q1
        · walk_at "ss"
          rcases hw1 with e | ⟨_, e⟩
          · rw [e]; exact q1
          · rw [e]; exact q2
      rintro σ' G3 ⟨rfl, w2, rfl, hw2⟩
      walk_at "ss"
      refine ⟨.inl ⟨rfl, _, SqL.of gf⟩, ?_⟩
      walk_at "ss"
      refine ⟨f, _, _, rfl, rfl, gf, Evl.sz_lt (by rw [List.length_map]; omega), ?_⟩
      walk_at "ss"
      refine ⟨⟨_, _, rfl⟩, Ex.mut eG hf, ns ++ [w2], by rw [List.length_append, hns]; rfl, fun s hs => ?_, ?_⟩
      · rcases List.mem_append.mp hs with h | h
        · exact hgood s h
        · have : s = w2 := by simpa using h
          rw [this]; exact hw2
      · rw [upd_same, List.map_append] <;> rfl
    · rintro σ' G ⟨⟨v7, v8, rfl⟩, eG, ns, hns, hgood, gf⟩
      walk_at "ss"
      exact k ns f G (by omega) hgood hfH (EB7.trans (ExB.of eG)) (b7.ex eG) gf
def sp_value_l : Sp := fun vs H Q _ => ∃ b, vs = [.ref b] ∧ BoxAt H b ∧ ∀ v H2, isVal v = true → ExB b H H2 → BoxAt H2 b → Q v H2
theorem val_of {i : Int} (h1 : -1000000000 ≤ i) (h2 : i ≤ 1000000000) : isVal (.int i) = true := by
  show (decide (-1000000000 ≤ i) && decide (i ≤ 1000000000)) = true
  rw [decide_eq_true h1, decide_eq_true h2] <;> rfl
theorem ok_value_l (T : Txt K mg Z) : FnOk P w K mg base CX0 2 Z.f_value_l Z.fd_value_l ["_law_box_here"] sp_value_l := by
  have G_take_l := ok_take_l (P := P) (w := w) (base := base) T
  refine T.F_value_l.ok sc_value_l (fun vs H Q E h => ?_) (fun cdv AA outer s H vs Q E hr h => ?_)
  · obtain ⟨b, rfl, _⟩ := h
    rfl
  · obtain ⟨b, rfl, hB, k⟩ := h
    refine ⟨_, (pss_cons (ps_set (i := 1) sc_value_l.nd rfl (Or.inl rfl) (pe_lst (pa_cons pe_bl (pa_cons pe_bl (pa_cons pe_int (pa_cons pe_int (pa_cons (pe_un un_neg pe_int) (pa_cons (pe_op op_pow pe_int pe_int) (pa_cons (pe_un un_neg (pe_op op_pow pe_int pe_int)) (pa_cons (pe_op op_sub (pe_call G_take_l (hr.mono (by omega)) rfl T.g_take_l T.F_take_l.kp T.b_take_l .nil pass0 (pa_cons (pv 0) (pa_cons pe_int pa_nil))) (pe_op op_pow pe_int pe_int)) (pa_cons (pe_op op_sub (pe_call G_take_l (hr.mono (by omega)) rfl T.g_take_l T.F_take_l.kp T.b_take_l .nil pass0 (pa_cons (pv 0) (pa_cons pe_int pa_nil))) pe_int) pa_nil)))))))))))
      (pss_one (ps_ret (pe_ix ix_list (pv 1) (pe_call G_take_l (hr.mono (by omega)) rfl T.g_take_l T.F_take_l.kp T.b_take_l .nil pass0 (pa_cons (pv 0) (pa_cons pe_int pa_nil))) (fun _ _ => rfl))))), ?_⟩
    walk_at "ss"
    refine c_I ⟨by decide, by decide, by decide⟩ ?_
    walk_at "ss"
    refine c_I ⟨by decide, by decide, by decide⟩ ?_
    walk_at "ss"
    refine ⟨b, 2000000001, rfl, hB, by decide, by decide, fun d1 H1 h10 h11 e1 b1 => ?_⟩
    walk_at "ss"
    refine c_I ⟨by decide, by decide, by decide⟩ ?_
    walk_at "ss"
    refine ⟨b, 40, rfl, b1, by decide, by decide, fun d2 H2 h20 h21 e2 b2 => ?_⟩
    walk_at "ss"
    refine newL fun p H3 hp e3 g3 => ?_
    walk_at "ss"
    refine ⟨b, 9, rfl, b2.ex e3, by decide, by decide, fun d H4 h0 h1 e4 b4 => ?_⟩
    have e9 : (10 : Int) ^ Int.toNat 9 = 1000000000 := by decide
    rw [e9] at g3
    have npb : p ≠ b := by
      obtain ⟨ob, hob⟩ := b2.some
      exact (ne_of_none hob hp).symm
    obtain ⟨v, hv, hvm⟩ := at_in (xs := [V.bl true, .bl false, .int 0, .int 1, .int (-1), .int 1000000000, .int (-1000000000), .int (d1 - 1000000000), .int (d2 - 20)]) h0 h1
    refine c_ixL (SqL.of (e4 _ _ npb g3)) hv ?_
    refine k _ _ ?_ (e1.trans (e2.trans ((ExB.of e3).trans e4))) b4
    simp only [List.mem_cons, List.not_mem_nil, or_false] at hvm
    rcases hvm with rfl | rfl | rfl | rfl | rfl | rfl | rfl | rfl | rfl
    · rfl
    · rfl
    · exact val_of (by omega) (by omega)
    · exact val_of (by omega) (by omega)
    · exact val_of (by omega) (by omega)
    · exact val_of (by omega) (by omega)
    · exact val_of (by omega) (by omega)
    · exact val_of (by omega) (by omega)
    · exact val_of (by omega) (by omega)
/-- a good term of these names -/
def TG (ns : List Str) (t : Tm) : Prop := t.good ∧ ∀ s ∈ t.flat, s ∈ ns
theorem tg_nm {ns : List Str} {s : Str} (hs : s ∈ ns) (h : goodN s) : TG ns (.nm s) := ⟨h, fun z hz => by have e : z = s := (by simpa [Tm.flat] using hz); rw [e]; exact hs⟩
theorem tg_vl {ns : List Str} {v : V} (h : isVal v = true) : TG ns (.vl v) := ⟨h, fun z hz => by cases hz⟩
theorem tg_two {ns : List Str} {op : Str} {a b : Tm} (ho : op ∈ opsW) (ha : TG ns a) (hb : TG ns b) : TG ns (.two op a b) := ⟨⟨ho, ha.1, hb.1⟩, fun z hz => (List.mem_append.mp hz).elim (ha.2 z) (hb.2 z)⟩
theorem tg_pk {ns : List Str} {c a b : Tm} (hc : TG ns c) (ha : TG ns a) (hb : TG ns b) : TG ns (.pk c a b) := ⟨⟨hc.1, ha.1, hb.1⟩, fun z hz => (List.mem_append.mp hz).elim (fun h => (List.mem_append.mp h).elim (hc.2 z) (ha.2 z)) (hb.2 z)⟩
def sp_trm (n : Nat) : Sp := fun vs H Q _ => ∃ (b : Addr) (l : Nat) (nl : Addr) (ns : List Str), vs = [.ref b, .ref nl, .int (l : Nat)] ∧ BoxAt H b ∧ H nl = some (.lst (ns.map V.str)) ∧ (∀ s ∈ ns, goodN s) ∧ 0 < ns.length ∧ ns.length ≤ 100 ∧ 1 ≤ l ∧ l ≤ n ∧
  ∀ t u H2, Tm.dep t ≤ l → TG ns t → ToldAt H2 t u → ExB b H H2 → BoxAt H2 b → Q u H2
theorem nl_ne {G : Hp} {b nl : Addr} {ns : List Str} (hn0 : 0 < ns.length) (hb : BoxAt G b) (h : G nl = some (.lst (ns.map V.str))) : nl ≠ b := box_ne hb h fun x y z e => by
  cases ns with
  | nil => simp at hn0
  | cons s ns => cases e
theorem nl_up {G G2 : Hp} {b nl : Addr} {ns : List Str} (hn0 : 0 < ns.length) (hb : BoxAt G b) (h : G nl = some (.lst (ns.map V.str))) (e : ExB b G G2) : G2 nl = some (.lst (ns.map V.str)) := e _ _ (nl_ne hn0 hb h) h
theorem at26 {d : Int} {l : Nat} : ∃ m : Int, atI [V.int 2, .int 6] (if decide ((1 : Int) < (l : Int)) = true then 1 else 0) = some (.int m) ∧ (m = 2 ∨ m = 6 ∧ 2 ≤ l) := by
  by_cases h : (1 : Int) < (l : Int)
  · rw [decide_eq_true h]; exact ⟨6, rfl, .inr ⟨rfl, by omega⟩⟩
  · rw [decide_eq_false h]; exact ⟨2, rfl, .inl rfl⟩
theorem at2 {x y : V} {d : Int} (h0 : 0 ≤ d) (h1 : d < 2) : atI [x, y] d = some x ∨ atI [x, y] d = some y := by
  have : d = 0 ∨ d = 1 := by omega
  rcases this with rfl | rfl
  · exact .inl rfl
  · exact .inr rfl
theorem ok_term_l (T : Txt K mg Z) {n : Nat} (G_term_l : FnOk P w K mg base CX0 (n + 3) Z.f_term_l Z.fd_term_l ["_law_box_here", "_law_names_here", "_law_levels"] (sp_trm n)) : FnOk P w K mg base CX0 (n + 4) Z.f_term_l Z.fd_term_l ["_law_box_here", "_law_names_here", "_law_levels"] (sp_trm (n + 1)) := by
  have G_take_l := ok_take_l (P := P) (w := w) (base := base) T
  have G_value_l := ok_value_l (P := P) (w := w) (base := base) T
  refine T.F_term_l.ok sc_term_l (fun vs H Q E h => ?_) (fun cdv AA outer s H vs Q E hr h => ?_)
  · obtain ⟨b, l, nl, ns, rfl, _⟩ := h
    rfl
  · obtain ⟨b, l, nl, ns, rfl, hB, hnl, hg, hn0, hn1, hl1, hln, k⟩ := h
    refine ⟨_, (pss_cons (ps_set (i := 3) sc_term_l.nd rfl (Or.inl rfl) (pe_call G_take_l (hr.mono (by omega)) rfl T.g_take_l T.F_take_l.kp T.b_take_l .nil pass0 (pa_cons (pv 0) (pa_cons (pe_ix ix_list (pe_lst (pa_cons pe_int (pa_cons pe_int pa_nil))) (pe_callTy call_int1 (by rfl) T.n_int (by decide +kernel) (pa_cons (pe_cmpR op_gt (pv 2) pe_int (nomark _)) pa_nil)) (fun _ _ => rfl)) pa_nil))))
      (pss_cons (ps_if (pt_cmpR op_eq (pv 3) pe_int (nomark _)) (pss_one (ps_ret (pe_tup (pa_cons pe_str (pa_cons (pe_ix ix_list (pv 1) (pe_call G_take_l (hr.mono (by omega)) rfl T.g_take_l T.F_take_l.kp T.b_take_l .nil pass0 (pa_cons (pv 0) (pa_cons (pe_callB call_len_seq (by rfl) T.n_len (by decide +kernel) (pa_cons (pv 1) pa_nil)) pa_nil))) (fun _ _ => rfl)) pa_nil))))) pss_nil)
      (pss_cons (ps_if (pt_cmpR op_eq (pv 3) pe_int (nomark _)) (pss_one (ps_ret (pe_tup (pa_cons pe_str (pa_cons (pe_call G_value_l (hr.mono (by omega)) rfl T.g_value_l T.F_value_l.kp T.b_value_l .nil pass0 (pa_cons (pv 0) pa_nil)) pa_nil))))) pss_nil)
      (pss_cons (ps_set (i := 4) sc_term_l.nd rfl (Or.inl rfl) (pe_call G_term_l (hr.mono (by omega)) rfl T.g_term_l T.F_term_l.kp T.b_term_l .nil pass0 (pa_cons (pv 0) (pa_cons (pv 1) (pa_cons (pe_op op_sub (pv 2) pe_int) pa_nil)))))
      (pss_cons (ps_if (pt_cmpR op_eq (pv 3) pe_int (nomark _)) (pss_one (ps_ret (pe_tup (pa_cons pe_str (pa_cons (pv 4) pa_nil))))) pss_nil)
      (pss_cons (ps_set (i := 5) sc_term_l.nd rfl (Or.inl rfl) (pe_call G_term_l (hr.mono (by omega)) rfl T.g_term_l T.F_term_l.kp T.b_term_l .nil pass0 (pa_cons (pv 0) (pa_cons (pv 1) (pa_cons (pe_callB (call_min2 rfl) (by rfl) T.n_min (by decide +kernel) (pa_cons pe_int (pa_cons (pe_op op_sub (pv 2) pe_int) pa_nil))) pa_nil)))))
      (pss_cons (ps_if (pt_cmpR op_eq (pv 3) pe_int (nomark _)) (pss_one (ps_ret (pe_tup (pa_cons pe_str (pa_cons (pv 5) (pa_cons (pe_call G_term_l (hr.mono (by omega)) rfl T.g_term_l T.F_term_l.kp T.b_term_l .nil pass0 (pa_cons (pv 0) (pa_cons (pv 1) (pa_cons (pe_callB (call_min2 rfl) (by rfl) T.n_min (by decide +kernel) (pa_cons pe_int (pa_cons (pe_op op_sub (pv 2) pe_int) pa_nil))) pa_nil)))) (pa_cons (pv 4) pa_nil))))))) pss_nil)
      (pss_cons (ps_set (i := 6) sc_term_l.nd rfl (Or.inl rfl) (pe_ix ix_list (pe_lst (pa_cons pe_str (pa_cons pe_str (pa_cons pe_str (pa_cons pe_str (pa_cons pe_str (pa_cons pe_str (pa_cons pe_str (pa_cons pe_str (pa_cons pe_str pa_nil)))))))))) (pe_call G_take_l (hr.mono (by omega)) rfl T.g_take_l T.F_take_l.kp T.b_take_l .nil pass0 (pa_cons (pv 0) (pa_cons pe_int pa_nil))) (fun _ _ => rfl)))
      (pss_one (ps_ret (pe_ix ix_list (pe_lst (pa_cons (pe_tup (pa_cons pe_str (pa_cons (pv 6) (pa_cons (pv 4) (pa_cons (pv 5) pa_nil))))) (pa_cons (pe_tup (pa_cons pe_str (pa_cons (pv 6) (pa_cons (pv 5) (pa_cons (pv 4) pa_nil))))) pa_nil))) (pe_call G_take_l (hr.mono (by omega)) rfl T.g_take_l T.F_take_l.kp T.b_take_l .nil pass0 (pa_cons (pv 0) (pa_cons pe_int pa_nil))) (fun _ _ => rfl)))))))))))), ?_⟩
    walk_at "ss"
    refine newL fun p1 H1 hp1 e1 g1 => ?_
    walk_at "ss"
    refine .inr ⟨_, rfl, ?_⟩
    obtain ⟨m, hm, hmm⟩ := at26 (d := 0) (l := l)
    refine c_ixL (SqL.of g1) hm ?_
    walk_at "ss"
    refine ⟨b, m, rfl, hB.ex e1, by omega, by omega, fun d H2 h0 h1 e2 b2 => ?_⟩
    have E2 : ExB b H H2 := (ExB.of e1).trans e2
    have n2 := nl_up hn0 hB hnl E2
    walk_at "ss"
    refine if_cs (fun c1 => ?_) (fun c1 => ?_)
    · walk_at "ss"
      refine ⟨nl, _, rfl, .inl (SqL.of n2), ?_⟩
      walk_at "ss"
      refine ⟨b, _, rfl, b2, by rw [List.length_map]; omega, by rw [List.length_map]; omega, fun d3 H3 h30 h31 e3 b3 => ?_⟩
      obtain ⟨v, hv, hvm⟩ := at_in (xs := ns.map V.str) h30 h31
      obtain ⟨s, hs, rfl⟩ := List.mem_map.mp hvm
      refine c_ixL (SqL.of (nl_up hn0 b2 n2 e3)) hv ?_
      walk_at "ss"
      exact newT fun p H4 hp e4 g4 => k (.nm s) _ H4 (by show 1 ≤ l; omega) (tg_nm hs (hg s hs)) ⟨p, rfl, g4⟩ (E2.trans (e3.trans (ExB.of e4))) (b3.ex e4)
    have c1' : d ≠ 0 := fun e => by rw [e] at c1; exact absurd c1 (by decide)
    walk_at "ss"
    refine if_cs (fun c2 => ?_) (fun c2 => ?_)
    · walk_at "ss"
      refine ⟨b, rfl, b2, fun v H3 hv e3 b3 => ?_⟩
      walk_at "ss"
      exact newT fun p H4 hp e4 g4 => k (.vl v) _ H4 (by show 1 ≤ l; omega) (tg_vl hv) ⟨p, rfl, g4⟩ (E2.trans (e3.trans (ExB.of e4))) (b3.ex e4)
    have c2' : d ≠ 1 := fun e => by rw [e] at c2; exact absurd c2 (by decide)
    have hl2 : 2 ≤ l := by omega
    have el : ((l : Nat) : Int) - 1 = ((l - 1 : Nat) : Int) := by omega
    walk_at "ss"
    rw [el]
    refine ⟨b, l - 1, nl, ns, rfl, b2, n2, hg, hn0, hn1, by omega, by omega, fun t1 u1 H3 hd1 gt1 tt1 e3 b3 => ?_⟩
    have n3 := nl_up hn0 b2 n2 e3
    walk_at "ss"
    refine if_cs (fun c3 => ?_) (fun c3 => ?_)
    · walk_at "ss"
      exact newT fun p H4 hp e4 g4 => k (.nt t1) _ H4 (by show 1 + t1.dep ≤ l; omega) gt1 ⟨p, _, rfl, g4, tt1.up e4⟩ (E2.trans (e3.trans (ExB.of e4))) (b3.ex e4)
    walk_at "ss"
    have em : ∀ z : Int, z = (l : Int) - 1 → (if z < 2 then z else 2 : Int) = ((min 2 (l - 1) : Nat) : Int) := by
      intro z hz
      split <;> omega
    refine ⟨_, _, rfl, ?_⟩
    walk_at "ss"
    rw [em _ rfl]
    refine ⟨b, min 2 (l - 1), nl, ns, rfl, b3, n3, hg, hn0, hn1, by omega, by omega, fun t2 u2 H4 hd2 gt2 tt2 e4 b4 => ?_⟩
    have n4 := nl_up hn0 b3 n3 e4
    walk_at "ss"
    refine if_cs (fun c4 => ?_) (fun c4 => ?_)
    · walk_at "ss"
      refine ⟨_, _, rfl, ?_⟩
      walk_at "ss"
      rw [em _ rfl]
      refine ⟨b, min 2 (l - 1), nl, ns, rfl, b4, n4, hg, hn0, hn1, by omega, by omega, fun t3 u3 H5 hd3 gt3 tt3 e5 b5 => ?_⟩
      walk_at "ss"
      exact newT fun p H6 hp e6 g6 => k (.pk t2 t3 t1) _ H6 (by show 1 + max (max t2.dep t3.dep) t1.dep ≤ l; omega) (tg_pk gt2 gt3 gt1) ⟨p, _, _, _, rfl, g6, (tt2.upB e5 b4).up e6, tt3.up e6, ((tt1.upB e4 b3).upB e5 b4).up e6⟩ (E2.trans (e3.trans (e4.trans (e5.trans (ExB.of e6))))) (b5.ex e6)
    walk_at "ss"
    refine newL fun p5 H5 hp5 e5 g5 => ?_
    walk_at "ss"
    refine ⟨b, 9, rfl, b4.ex e5, by decide, by decide, fun d6 H6 h60 h61 e6 b6 => ?_⟩
    obtain ⟨v, hv, hvm⟩ := at_in (xs := opsW.map V.str) h60 h61
    obtain ⟨op, hop, rfl⟩ := List.mem_map.mp hvm
    have npb : p5 ≠ b := by
      obtain ⟨ob, hob⟩ := b4.some
      exact (ne_of_none hob hp5).symm
    refine c_ixL (SqL.of (e6 _ _ npb g5)) hv ?_
    walk_at "ss"
    refine newT fun p7 H7 hp7 e7 g7 => ?_
    walk_at "ss"
    refine newT fun p8 H8 hp8 e8 g8 => ?_
    walk_at "ss"
    refine newL fun p9 H9 hp9 e9 g9 => ?_
    walk_at "ss"
    have b9 := ((b6.ex e7).ex e8).ex e9
    refine ⟨b, 2, rfl, b9, by decide, by decide, fun d10 H10 h100 h101 e10 b10 => ?_⟩
    have np9 : p9 ≠ b := by
      obtain ⟨ob, hob⟩ := ((b6.ex e7).ex e8).some
      exact (ne_of_none hob hp9).symm
    have E610 : ExB b H6 H10 := (ExB.of (e7.trans (e8.trans e9))).trans e10
    have k1 : ToldAt H10 t1 u1 := (((tt1.upB e4 b3).up e5).upB e6 (b4.ex e5)).upB E610 b6
    have k2 : ToldAt H10 t2 u2 := ((tt2.up e5).upB e6 (b4.ex e5)).upB E610 b6
    have EA : ExB b H H10 := E2.trans (e3.trans (e4.trans ((ExB.of e5).trans (e6.trans E610))))
    have dd : ∀ t t' : Tm, t.dep ≤ l - 1 → t'.dep ≤ l - 1 → (Tm.two op t t').dep ≤ l := fun t t' h h' => by show 1 + max t.dep t'.dep ≤ l; omega
    have g7' : H10 p7 = some (.tup [.str "two", .str op, u1, u2]) := NL.tup (NL.box e10 b9) (e9 _ _ (e8 _ _ g7))
    have g8' : H10 p8 = some (.tup [.str "two", .str op, u2, u1]) := NL.tup (NL.box e10 b9) (e9 _ _ g8)
    rcases at2 (x := .ref p7) (y := .ref p8) h100 h101 with ha | ha
    · refine c_ixL (SqL.of (e10 _ _ np9 g9)) ha ?_
      exact k (.two op t1 t2) _ H10 (dd _ _ (by omega) (by omega)) (tg_two hop gt1 gt2) ⟨p7, _, _, rfl, g7', k1, k2⟩ EA b10
    · refine c_ixL (SqL.of (e10 _ _ np9 g9)) ha ?_
      exact k (.two op t2 t1) _ H10 (dd _ _ (by omega) (by omega)) (tg_two hop gt2 gt1) ⟨p8, _, _, rfl, g8', k2, k1⟩ EA b10
theorem okn_trm (T : Txt K mg Z) : ∀ n, FnOk P w K mg base CX0 (n + 3) Z.f_term_l Z.fd_term_l ["_law_box_here", "_law_names_here", "_law_levels"] (sp_trm n)
  | 0 => ⟨fun vs H Q E ⟨b, l, nl, ns, e, _⟩ => by rw [e]; rfl, fun _ _ _ _ _ _ _ _ _ _ _ _ _ ⟨b, l, nl, ns, _, _, _, _, _, _, h1, h2, _⟩ => by omega⟩
  | n + 1 => ok_term_l T (okn_trm T n)

/-! ### the law's rows -/
theorem pick_name {b nl : Addr} {ns : List Str} {H : Hp} {Q : VK} (hn0 : 0 < ns.length) (hB : BoxAt H b) (hnl : H nl = some (.lst (ns.map V.str))) (hg : ∀ s ∈ ns, goodN s) {d : Int} {H2 : Hp} (e2 : ExB b H H2) (h0 : 0 ≤ d) (h1 : d < ((ns.map V.str).length : Int)) (k : ∀ s, s ∈ ns → goodN s → Q (.str s) H2) : rIxL K (.ref nl) (.int d) H2 Q := by
  obtain ⟨v, hv, hvm⟩ := at_in (xs := ns.map V.str) h0 h1
  obtain ⟨s, hs, rfl⟩ := List.mem_map.mp hvm
  exact c_ixL (SqL.of (nl_up hn0 hB hnl e2)) hv (k s hs (hg s hs))
/-! ### the names of a term, by going through -/
theorem snoc_ind {P : List Str → Prop} (h0 : P []) (h1 : ∀ y n, P y → P (y ++ [n])) : ∀ y, P y := by
  intro y
  have h : ∀ z : List Str, P z.reverse := by
    intro z
    induction z with
    | nil => exact h0
    | cons a z ih => rw [List.reverse_cons]; exact h1 _ _ ih
  have h2 := h y.reverse
  rw [List.reverse_reverse] at h2
  exact h2
theorem once_go (y : List Str) : ∀ (A : List Str), y.foldl (fun acc n => addN acc [n]) A = addN A (once y) := by
  intro A
  refine snoc_ind (P := fun y => y.foldl (fun acc n => addN acc [n]) A = addN A (once y)) ?_ (fun y n ih => ?_) y
  · show A = addN A []
    simp [addN]
  · rw [List.foldl_append, ih, once_app]
    show addN (addN A (once y)) [n] = addN A (addN (once y) [n])
    have m1 : (addN A (once y)).contains n = (A.contains n || (once y).contains n) := by
      rw [Bool.eq_iff_iff, Bool.or_eq_true, List.contains_iff_mem, List.contains_iff_mem, List.contains_iff_mem]
      constructor
      · intro h
        rcases List.mem_append.mp h with h | h
        · exact .inl h
        · exact .inr (List.mem_filter.mp h).1
      · intro h
        by_cases hA : n ∈ A
        · exact List.mem_append_left _ hA
        · rcases h with h | h
          · exact absurd h hA
          · refine List.mem_append_right _ (List.mem_filter.mpr ⟨h, ?_⟩)
            rw [Bool.not_eq_true']
            cases hc : A.contains n with
            | false => rfl
            | true => exact absurd (List.contains_iff_mem.mp hc) hA
    rw [addN_one, addN_one, m1]
    cases h1 : (once y).contains n with
    | true => rw [Bool.or_true, if_pos rfl, if_pos rfl]
    | false =>
      simp only [Bool.or_false, Bool.false_eq_true, ↓reduceIte]
      unfold addN
      rw [List.filter_append]
      cases h2 : A.contains n with
      | true =>
        have h3 : [n].filter (fun m => !A.contains m) = [] := by rw [List.filter_cons, h2]; rfl
        rw [h3, List.append_nil, if_pos rfl]
      | false =>
        have h3 : [n].filter (fun m => !A.contains m) = [n] := by rw [List.filter_cons, h2]; rfl
        rw [h3, if_neg (by decide), List.append_assoc]
theorem once_cat (x y : List Str) : once (x ++ y) = addN (once x) (once y) := by
  have : once (x ++ y) = y.foldl (fun acc n => addN acc [n]) (once x) := by
    unfold once
    rw [List.foldl_append]
  rw [this, once_go]
theorem addN_nil (l : List Str) : addN [] l = l := by
  unfold addN
  rw [List.nil_append]
  exact List.filter_eq_self.mpr fun a _ => rfl
theorem Tm.names_once (t : Tm) : once t.flat = t.names := by
  induction t with
  | nm s => exact addN_nil [s]
  | vl v => rfl
  | two op a b iha ihb =>
    show once (a.flat ++ b.flat) = addN (addN [] a.names) b.names
    rw [once_cat, iha, ihb, addN_nil]
  | nt a iha =>
    show once a.flat = addN [] a.names
    rw [iha, addN_nil]
  | pk c a b ihc iha ihb =>
    show once (c.flat ++ a.flat ++ b.flat) = addN (addN (addN [] c.names) a.names) b.names
    rw [once_cat, once_cat, ihc, iha, ihb, addN_nil]
theorem addN_mem {a b : List Str} {s : Str} (h : s ∈ addN a b) : s ∈ a ∨ s ∈ b := by
  rcases List.mem_append.mp h with h | h
  · exact .inl h
  · exact .inr (List.mem_filter.mp h).1
theorem once_mem {l : List Str} {s : Str} (h : s ∈ once l) : s ∈ l := by
  refine snoc_ind (P := fun l => s ∈ once l → s ∈ l) (fun h => by cases h) (fun y n ih h => ?_) l h
  rw [once_app] at h
  rcases addN_mem h with h | h
  · exact List.mem_append_left _ (ih h)
  · exact List.mem_append_right _ h
theorem once_sub {l : List Str} {s : Str} (h : s ∈ l) : s ∈ once l := by
  revert h
  refine snoc_ind (P := fun l => s ∈ l → s ∈ once l) (fun h => by cases h) (fun y n ih h => ?_) l
  rw [once_app, addN_one]
  rcases List.mem_append.mp h with h | h
  · split
    · exact ih h
    · exact List.mem_append_left _ (ih h)
  · have e : s = n := by simpa using h
    subst e
    split
    · rename_i hc; exact List.contains_iff_mem.mp hc
    · exact List.mem_append_right _ (by simp)
theorem flat_names {t : Tm} {s : Str} (h : s ∈ t.flat) : s ∈ t.names := by rw [← Tm.names_once]; exact once_sub h
theorem names_flat {t : Tm} {s : Str} (h : s ∈ t.names) : s ∈ t.flat := by rw [← Tm.names_once] at h; exact once_mem h
/-- a good row that tells these and mentions those -/
def RG (ts ns : List Str) (r : Rw) : Prop := r.good ∧ ∀ s ∈ r.all, s ∈ ts ∨ s ∈ ns
def sp_row_l : Sp := fun vs H Q _ => ∃ (b tl nl : Addr) (ts ns : List Str), vs = [.ref b, .ref tl, .ref nl] ∧ BoxAt H b ∧ H tl = some (.lst (ts.map V.str)) ∧ H nl = some (.lst (ns.map V.str)) ∧ (∀ s ∈ ts, goodN s) ∧ (∀ s ∈ ns, goodN s) ∧ 0 < ts.length ∧ ts.length ≤ 100 ∧ 0 < ns.length ∧ ns.length ≤ 100 ∧
  ∀ r u H2, RG ts ns r → RowAt H2 r u → ExB b H H2 → BoxAt H2 b → Q u H2
theorem ts_at {ts : List Str} (h : 0 < ts.length) : ∃ t0, t0 ∈ ts ∧ atI (ts.map V.str) 0 = some (.str t0) := by
  cases ts with
  | nil => simp at h
  | cons a l => exact ⟨a, List.mem_cons_self, at_hd⟩
theorem vw_at {d : Int} (h0 : 0 ≤ d) (h1 : d < 3) : ∃ k : Nat, k < 3 ∧ atI [V.str "before", .str "hold", .str "like"] d = some (.str (vword k)) := by
  have : d = 0 ∨ d = 1 ∨ d = 2 := by omega
  rcases this with rfl | rfl | rfl
  · exact ⟨0, by decide, rfl⟩
  · exact ⟨1, by decide, rfl⟩
  · exact ⟨2, by decide, rfl⟩
theorem nd_good : ∀ s ∈ (["n", "nodex", "sub"] : List Str), isName s = true ∧ s.length ≤ 8 ∧ OkT s := by
  have h : (["n", "nodex", "sub"] : List Str).all (fun s => isName s && (decide (s.length ≤ 8) && (TL.tl s).all fun c => decide (c < 1114112))) = true := by decide +kernel
  intro s hs
  have := List.all_eq_true.mp h s hs
  rw [Bool.and_eq_true, Bool.and_eq_true, decide_eq_true_eq] at this
  exact ⟨this.1, this.2.1, OkT.lit this.2.2⟩
theorem ok_row_l (T : Txt K mg Z)  : FnOk P w K mg base CX0 (9) Z.f_row_l Z.fd_row_l ["_law_box_here", "_law_told", "_law_names_here"] sp_row_l := by
  have G_take_l := ok_take_l (P := P) (w := w) (base := base) T
  have G_value_l := ok_value_l (P := P) (w := w) (base := base) T
  refine T.F_row_l.ok sc_row_l (fun vs H Q E h => ?_) (fun cdv AA outer s H vs Q E hr h => ?_)
  · obtain ⟨b, tl, nl, ts, ns, rfl, _⟩ := h
    rfl
  · obtain ⟨b, tl, nl, ts, ns, rfl, hB, htl, hnl, hgt, hgn, ht0, ht1, hn0, hn1, k⟩ := h
    have G_term_l := okn_trm (P := P) (w := w) (base := base) T 5
    refine ⟨_, (pss_cons (ps_set (i := 3) sc_row_l.nd rfl (Or.inl rfl) (pe_call G_take_l (hr.mono (by omega)) rfl T.g_take_l T.F_take_l.kp T.b_take_l .nil pass0 (pa_cons (pv 0) (pa_cons pe_int pa_nil))))
      (pss_cons (ps_setLc (i := 4) (own := [("_law_k", 5)]) (g := (gName 5)) (tt := tYes) (te := (tOp (rIxL K) (tVar 2) (tCall sp_take_l [] E0 (tCons (tVar 0) (tCons (tCB (fun xs H Q => ∃ p ys, xs = [.ref p] ∧ (SqL K H p ys ∨ SqT K H p ys) ∧ Q (.int ys.length) H) (tCons (tVar 2) tNil)) tNil))))) rfl sc_row_l.nd rfl rfl (sw_true rfl rfl rfl (by decide +kernel)) (pi_range1 (by rfl) T.n_range (pa_cons (pe_op op_add pe_int (pe_call G_take_l (hr.mono (by omega)) rfl T.g_take_l T.F_take_l.kp T.b_take_l .nil pass0 (pa_cons (pv 0) (pa_cons pe_int pa_nil)))) pa_nil)) (blkOk_by (own := [("_law_k", 5)]) (N := N_row_l) (sc := defScope s_row_l) (by decide +kernel)) (fun _ _ _ _ _ => (pg_name (i := 5) sc_row_l.nd rfl (Or.inl rfl))) (fun _ _ _ _ _ => pts_nil) (fun _ _ _ _ _ => (pe_ix ix_list (pv 2) (pe_call G_take_l (hr.mono (by omega)) rfl T.g_take_l T.F_take_l.kp T.b_take_l .nil pass0 (pa_cons (pv 0) (pa_cons (pe_callB call_len_seq (by rfl) T.n_len (by decide +kernel) (pa_cons (pv 2) pa_nil)) pa_nil))) (fun _ _ => rfl))))
      (pss_cons (ps_set (i := 6) sc_row_l.nd rfl (Or.inl rfl) (pe_ix ix_list (pv 2) (pe_call G_take_l (hr.mono (by omega)) rfl T.g_take_l T.F_take_l.kp T.b_take_l .nil pass0 (pa_cons (pv 0) (pa_cons (pe_callB call_len_seq (by rfl) T.n_len (by decide +kernel) (pa_cons (pv 2) pa_nil)) pa_nil))) (fun _ _ => rfl)))
      (pss_cons (ps_if (pt_cmpR op_eq (pv 3) pe_int (nomark _)) (pss_one (ps_ret (pe_tup (pa_cons pe_str (pa_cons (pe_ix ix_list (pv 1) pe_int (fun _ _ => rfl)) (pa_cons (pe_call G_term_l (hr.mono (by omega)) rfl T.g_term_l T.F_term_l.kp T.b_term_l .nil pass0 (pa_cons (pv 0) (pa_cons (pv 2) (pa_cons (pe_op op_add pe_int (pe_call G_take_l (hr.mono (by omega)) rfl T.g_take_l T.F_take_l.kp T.b_take_l .nil pass0 (pa_cons (pv 0) (pa_cons pe_int pa_nil)))) pa_nil)))) pa_nil)))))) pss_nil)
      (pss_cons (ps_if (pt_cmpR op_eq (pv 3) pe_int (nomark _)) (pss_one (ps_ret (pe_tup (pa_cons pe_str (pa_cons (pe_ix ix_list (pv 1) pe_int (fun _ _ => rfl)) (pa_cons (pv 6) (pa_cons (pe_ix ix_list (pv 4) pe_int (fun _ _ => rfl)) pa_nil))))))) pss_nil)
      (pss_cons (ps_if (pt_cmpR op_eq (pv 3) pe_int (nomark _)) (pss_one (ps_ret (pe_tup (pa_cons pe_str (pa_cons (pe_callTy call_tuple_of (by rfl) T.n_tuple (by decide +kernel) (pa_cons (pe_op op_cat (pe_lst (pa_cons (pv 6) pa_nil)) (pv 4)) pa_nil)) pa_nil))))) pss_nil)
      (pss_cons (ps_if (pt_cmpR op_eq (pv 3) pe_int (nomark _)) (pss_one (ps_ret (pe_tup (pa_cons pe_str (pa_cons (pe_callTy call_tuple_of (by rfl) T.n_tuple (by decide +kernel) (pa_cons (pv 1) pa_nil)) (pa_cons (pe_ix ix_list (pe_lst (pa_cons pe_str (pa_cons pe_str (pa_cons pe_str pa_nil)))) (pe_call G_take_l (hr.mono (by omega)) rfl T.g_take_l T.F_take_l.kp T.b_take_l .nil pass0 (pa_cons (pv 0) (pa_cons pe_int pa_nil))) (fun _ _ => rfl)) (pa_cons (pe_callTy call_tuple_of (by rfl) T.n_tuple (by decide +kernel) (pa_cons (pv 4) pa_nil)) pa_nil))))))) pss_nil)
      (pss_one (ps_ret (pe_tup (pa_cons (pe_ix ix_list (pe_lst (pa_cons pe_str (pa_cons pe_str (pa_cons pe_str pa_nil)))) (pe_op op_sub (pv 3) pe_int) (fun _ _ => rfl)) (pa_cons (pe_ix ix_list (pv 1) pe_int (fun _ _ => rfl)) (pa_cons (pe_call G_value_l (hr.mono (by omega)) rfl T.g_value_l T.F_value_l.kp T.b_value_l .nil pass0 (pa_cons (pv 0) pa_nil)) (pa_cons (pv 6) pa_nil)))))))))))))), ?_⟩
    walk_at "ss"
    refine ⟨b, 7, rfl, hB, by decide, by decide, fun kd H1 h10 h11 e1 b1 => ?_⟩
    have n1 := nl_up hn0 hB hnl e1
    have t1 := nl_up ht0 hB htl e1
    walk_at "ss"
    refine ⟨b, 6, rfl, b1, by decide, by decide, fun d2 H2 h20 h21 e2 b2 => ?_⟩
    walk_at "ss"
    refine ⟨by omega, by omega, ?_⟩
    have n2 := nl_up hn0 b1 n1 e2
    have t2 := nl_up ht0 b1 t1 e2
    refine lcRB (b := b) (fun v => ∃ s, v = .str s ∧ (goodN s ∧ s ∈ ns)) (by omega) b2 (fun i hi G bG eG R N hR => ?_) ?_
    · have nG := nl_up hn0 b2 n2 eG
      walk_at "ss"
      refine ⟨nl, _, rfl, .inl (SqL.of nG), ?_⟩
      walk_at "ss"
      refine ⟨b, _, rfl, bG, by rw [List.length_map]; omega, by rw [List.length_map]; omega, fun d3 G3 h30 h31 e3 b3 => ?_⟩
      exact pick_name hn0 bG nG hgn e3 h30 h31 fun s ms gs => hR _ _ ⟨s, rfl, gs, ms⟩ b3 e3
    intro ys sp H3 hyl hyg hsp e3 b3 g3
    obtain ⟨ss, rfl, hss'⟩ := strs_of hyg
    have hss : ∀ s ∈ ss, goodN s := fun s hs => (hss' s hs).1
    have hsn : ∀ s ∈ ss, s ∈ ns := fun s hs => (hss' s hs).2
    rw [List.length_map] at hyl
    have hs0 : 0 < ss.length := by omega
    have hs1 : ss.length ≤ 7 := by omega
    have n3 := nl_up hn0 b2 n2 e3
    have t3 := nl_up ht0 b2 t2 e3
    walk_at "ss"
    refine ⟨nl, _, rfl, .inl (SqL.of n3), ?_⟩
    walk_at "ss"
    refine ⟨b, _, rfl, b3, by rw [List.length_map]; omega, by rw [List.length_map]; omega, fun d4 H4 h40 h41 e4 b4 => ?_⟩
    refine pick_name hn0 b3 n3 hgn e4 h40 h41 fun one mone gone => ?_
    have n4 := nl_up hn0 b3 n3 e4
    have t4 := nl_up ht0 b3 t3 e4
    have g4 := nl_up hs0 b3 g3 e4
    have E4 : ExB b H H4 := e1.trans (e2.trans (e3.trans e4))
    obtain ⟨x0, hx0, hat0⟩ := ts_at ht0
    obtain ⟨s0, hs0m, hsat0⟩ := ts_at hs0
    walk_at "ss"
    refine if_cs (fun c0 => ?_) (fun c0 => ?_)
    · walk_at "ss"
      refine c_ixL (SqL.of t4) hat0 ?_
      walk_at "ss"
      refine ⟨b, 5, rfl, b4, by decide, by decide, fun d5 H5 h50 h51 e5 b5 => ?_⟩
      walk_at "ss"
      obtain ⟨dn, rfl⟩ := Int.eq_ofNat_of_zero_le h50
      have el : (1 : Int) + (dn : Int) = ((1 + dn : Nat) : Int) := by omega
      rw [el]
      refine ⟨b, 1 + dn, nl, ns, rfl, b5, nl_up hn0 b4 n4 e5, hgn, hn0, hn1, by omega, by omega, fun t u H6 hd gt tt e6 b6 => ?_⟩
      walk_at "ss"
      exact newT fun p H7 hp e7 g7 => k (.pl x0 t) _ H7 ⟨⟨hgt x0 hx0, gt.1, by omega⟩, fun s hs => (List.mem_append.mp hs).elim (fun h => .inl (by have e : s = x0 := (by simpa [Rw.tells] using h); rw [e]; exact hx0)) fun h => .inr (gt.2 s (names_flat h))⟩ ⟨p, _, rfl, g7, tt.up e7⟩ (E4.trans (e5.trans (e6.trans (ExB.of e7)))) (b6.ex e7)
    have c0' : kd ≠ 0 := fun e => by rw [e] at c0; exact absurd c0 (by decide)
    walk_at "ss"
    refine if_cs (fun c1 => ?_) (fun c1 => ?_)
    · walk_at "ss"
      refine c_ixL (SqL.of t4) hat0 ?_
      walk_at "ss"
      refine c_ixL (SqL.of g4) hsat0 ?_
      walk_at "ss"
      exact newT fun p H7 hp e7 g7 => k (.wh x0 one s0) _ H7 ⟨⟨hgt x0 hx0, gone, hss s0 hs0m⟩, fun s hs => (List.mem_append.mp hs).elim (fun h => .inl (by have e : s = x0 := (by simpa [Rw.tells] using h); rw [e]; exact hx0)) fun h => .inr (by have h2 := once_mem h; simp only [List.mem_cons, List.not_mem_nil, or_false] at h2; rcases h2 with e | e; (rw [e]; exact mone); (rw [e]; exact hsn s0 hs0m))⟩ ⟨p, rfl, g7⟩ (E4.trans (ExB.of e7)) (b4.ex e7)
    have c1' : kd ≠ 1 := fun e => by rw [e] at c1; exact absurd c1 (by decide)
    walk_at "ss"
    refine if_cs (fun c2 => ?_) (fun c2 => ?_)
    · walk_at "ss"
      refine newL fun p5 H5 hp5 e5 g5 => ?_
      walk_at "ss"
      refine c_cat g5 (e5 _ _ g4) (fun p6 H6 hp6 e6 g6 => ?_) (by rw [List.length_map]; simp; omega)
      walk_at "ss"
      refine ⟨p6, _, rfl, .inl ⟨SqL.of g6, fun p7 hp7 => ?_⟩⟩
      have e7 := Ex.new (H := H6) (p := p7) (o := .tup ((one :: ss).map V.str)) hp7
      have g7 : upd H6 p7 (.tup ((one :: ss).map V.str)) p7 = some (.tup ((one :: ss).map V.str)) := upd_same
      show NewT _ (upd H6 p7 (.tup ((one :: ss).map V.str))) _
      generalize upd H6 p7 (.tup ((one :: ss).map V.str)) = H7 at e7 g7
      refine newT fun p H8 hp e8 g8 => k (.sm (one :: ss)) _ H8 ⟨⟨by simp; omega, by simp; omega, fun s hs => ?_⟩, fun s hs => .inr ((List.mem_cons.mp (once_mem (show s ∈ once (one :: ss) from hs))).elim (fun e => by rw [e]; exact mone) (hsn s))⟩ ⟨p, p7, rfl, g8, e8 _ _ g7⟩ (E4.trans (ExB.of (e5.trans (e6.trans (e7.trans e8))))) (((b4.ex e5).ex e6).ex e7 |>.ex e8)
      rcases List.mem_cons.mp hs with rfl | h
      · exact gone
      · exact hss s h
    have c2' : kd ≠ 2 := fun e => by rw [e] at c2; exact absurd c2 (by decide)
    walk_at "ss"
    refine if_cs (fun c3 => ?_) (fun c3 => ?_)
    · walk_at "ss"
      refine ⟨tl, _, rfl, .inl ⟨SqL.of t4, fun p5 hp5 => ?_⟩⟩
      have e5 := Ex.new (H := H4) (p := p5) (o := .tup (ts.map V.str)) hp5
      have g5 : upd H4 p5 (.tup (ts.map V.str)) p5 = some (.tup (ts.map V.str)) := upd_same
      generalize upd H4 p5 (.tup (ts.map V.str)) = H5 at e5 g5
      walk_at "ss"
      refine newL fun p6 H6 hp6 e6 g6 => ?_
      walk_at "ss"
      have b6 := (b4.ex e5).ex e6
      refine ⟨b, 3, rfl, b6, by decide, by decide, fun d7 H7 h70 h71 e7 b7 => ?_⟩
      obtain ⟨v, hv, hvm⟩ := at_in (xs := (["n", "nodex", "sub"] : List Str).map V.str) h70 h71
      obtain ⟨nd, hnd, rfl⟩ := List.mem_map.mp hvm
      have npb : p6 ≠ b := by
        obtain ⟨ob, hob⟩ := (b4.ex e5).some
        exact (ne_of_none hob hp6).symm
      refine c_ixL (SqL.of (e7 _ _ npb g6)) hv ?_
      walk_at "ss"
      have g47 : H7 sp = some (.lst (ss.map V.str)) := nl_up hs0 b6 (e6 _ _ (e5 _ _ g4)) e7
      refine ⟨sp, _, rfl, .inl ⟨SqL.of g47, fun p8 hp8 => ?_⟩⟩
      have e8 := Ex.new (H := H7) (p := p8) (o := .tup (ss.map V.str)) hp8
      have g8 : upd H7 p8 (.tup (ss.map V.str)) p8 = some (.tup (ss.map V.str)) := upd_same
      generalize upd H7 p8 (.tup (ss.map V.str)) = H8 at e8 g8
      walk_at "ss"
      have g57 : H7 p5 = some (.tup (ts.map V.str)) := NL.tup (NL.box e7 b6) (e6 _ _ g5)
      exact newT fun p H9 hp e9 g9 => k (.cl ts nd ss) _ H9 ⟨⟨by omega, ht1, hgt, nd_good nd hnd, by omega, by omega, hss⟩, fun s hs => (List.mem_append.mp hs).elim .inl fun h => .inr (hsn s (once_mem h))⟩ ⟨p, p5, p8, rfl, g9, e9 _ _ (e8 _ _ g57), e9 _ _ g8⟩ (E4.trans ((ExB.of (e5.trans e6)).trans (e7.trans (ExB.of (e8.trans e9))))) ((b7.ex e8).ex e9)
    have c3' : kd ≠ 3 := fun e => by rw [e] at c3; exact absurd c3 (by decide)
    walk_at "ss"
    refine newL fun p5 H5 hp5 e5 g5 => ?_
    walk_at "ss"
    obtain ⟨kk, hkk, hkat⟩ := vw_at (d := kd - 4) (by omega) (by omega)
    refine c_ixL (SqL.of g5) hkat ?_
    walk_at "ss"
    refine c_ixL (SqL.of (e5 _ _ t4)) hat0 ?_
    walk_at "ss"
    refine ⟨b, rfl, b4.ex e5, fun v H6 hv e6 b6 => ?_⟩
    walk_at "ss"
    exact newT fun p H7 hp e7 g7 => k (.vd kk x0 v one) _ H7 ⟨⟨hkk, hgt x0 hx0, hv, gone⟩, fun s hs => (List.mem_append.mp hs).elim (fun h => .inl (by have e : s = x0 := (by simpa [Rw.tells] using h); rw [e]; exact hx0)) fun h => .inr (by have e : s = one := (by simpa [Rw.names] using h); rw [e]; exact mone)⟩ ⟨p, rfl, g7⟩ (E4.trans ((ExB.of e5).trans (e6.trans (ExB.of e7)))) (b6.ex e7)
theorem Tm.flat_len (t : Tm) : t.flat.length ≤ 3 ^ t.dep := by
  induction t with
  | nm s => simp [Tm.flat, Tm.dep]
  | vl v => simp [Tm.flat, Tm.dep]
  | two op a b iha ihb =>
    have p1 : 3 ^ a.dep ≤ 3 ^ max a.dep b.dep := Nat.pow_le_pow_right (by decide) (by omega)
    have p2 : 3 ^ b.dep ≤ 3 ^ max a.dep b.dep := Nat.pow_le_pow_right (by decide) (by omega)
    have e : 3 ^ (1 + max a.dep b.dep) = 3 * 3 ^ max a.dep b.dep := by rw [Nat.pow_add]
    show (a.flat ++ b.flat).length ≤ 3 ^ (1 + max a.dep b.dep)
    rw [e, List.length_append]
    omega
  | nt a iha =>
    have e : 3 ^ (1 + a.dep) = 3 * 3 ^ a.dep := by rw [Nat.pow_add]
    show a.flat.length ≤ 3 ^ (1 + a.dep)
    rw [e]
    omega
  | pk c a b ihc iha ihb =>
    have p0 : 3 ^ c.dep ≤ 3 ^ max (max c.dep a.dep) b.dep := Nat.pow_le_pow_right (by decide) (by omega)
    have p1 : 3 ^ a.dep ≤ 3 ^ max (max c.dep a.dep) b.dep := Nat.pow_le_pow_right (by decide) (by omega)
    have p2 : 3 ^ b.dep ≤ 3 ^ max (max c.dep a.dep) b.dep := Nat.pow_le_pow_right (by decide) (by omega)
    have e : 3 ^ (1 + max (max c.dep a.dep) b.dep) = 3 * 3 ^ max (max c.dep a.dep) b.dep := by rw [Nat.pow_add]
    show (c.flat ++ a.flat ++ b.flat).length ≤ 3 ^ (1 + max (max c.dep a.dep) b.dep)
    rw [e, List.length_append, List.length_append]
    omega
theorem flat_729 {t : Tm} (h : t.dep ≤ 6) : t.flat.length ≤ 729 := by
  have h1 := t.flat_len
  have h2 : 3 ^ t.dep ≤ 3 ^ 6 := Nat.pow_le_pow_right (by decide) h
  have e : (3 : Nat) ^ 6 = 729 := rfl
  omega
/-- what stands behind the first word: parts, and things that are no tuples -/
def Beh (K : PySem.W.Frag) (H : Hp) : Option Tm → V → Prop
  | some q, v => ToldAt H q v
  | none, v => (∃ s, v = .str s) ∨ isVal v = true
def Tm.beh : Tm → List (Option Tm)
  | .nm _ => []
  | .vl _ => [none]
  | .two _ a b => [none, some a, some b]
  | .nt a => [some a]
  | .pk c a b => [some c, some a, some b]
def flatO : List (Option Tm) → List Str
  | [] => []
  | some q :: l => q.flat ++ flatO l
  | none :: l => flatO l
theorem flatO_app (l : List (Option Tm)) (o : Option Tm) : flatO (l ++ [o]) = flatO l ++ (match o with | some q => q.flat | none => []) := by
  induction l with
  | nil => cases o <;> simp [flatO]
  | cons a l ih => cases a <;> simp [flatO, ih]
theorem Tm.flat_beh (t : Tm) (h : ∀ s, t ≠ .nm s) : flatO t.beh = t.flat := by
  cases t with
  | nm s => exact absurd rfl (h s)
  | vl v => rfl
  | two op a b => simp [Tm.beh, flatO, Tm.flat]
  | nt a => simp [Tm.beh, flatO, Tm.flat]
  | pk c a b => simp [Tm.beh, flatO, Tm.flat]
theorem told_beh {H : Hp} {t : Tm} {u : V} (h : ToldAt H t u) (hg : t.good) (hn : ∀ s, t ≠ .nm s) : ∃ (a : Addr) (w : Str) (xs : List V), u = .ref a ∧ H a = some (.tup (.str w :: xs)) ∧ w ≠ "name" ∧ xs.length = t.beh.length ∧ cutV (.str w :: xs) (some 1) none = xs ∧ xs ≠ [] ∧
    (∀ (i : Nat) (v : V), xs[i]? = some v → ∃ o, t.beh[i]? = some o ∧ Beh K H o v) ∧ ∀ q, some q ∈ t.beh → q.good ∧ q.dep + 1 ≤ t.dep := by
  have i2 : ∀ {x y v : V} {o p : Option Tm}, Beh K H o x → Beh K H p y → ∀ i : Nat, ([x, y] : List V)[i]? = some v → ∃ z, ([o, p] : List (Option Tm))[i]? = some z ∧ Beh K H z v := by
    intro x y v o p h1 h2 i hv
    match i, hv with
    | 0, hv => cases hv; exact ⟨_, rfl, h1⟩
    | 1, hv => cases hv; exact ⟨_, rfl, h2⟩
  have i3 : ∀ {x y z v : V} {o p q : Option Tm}, Beh K H o x → Beh K H p y → Beh K H q z → ∀ i : Nat, ([x, y, z] : List V)[i]? = some v → ∃ r, ([o, p, q] : List (Option Tm))[i]? = some r ∧ Beh K H r v := by
    intro x y z v o p q h1 h2 h3 i hv
    match i, hv with
    | 0, hv => cases hv; exact ⟨_, rfl, h1⟩
    | 1, hv => cases hv; exact ⟨_, rfl, h2⟩
    | 2, hv => cases hv; exact ⟨_, rfl, h3⟩
  cases t with
  | nm s => exact absurd rfl (hn s)
  | vl x =>
    obtain ⟨a, rfl, ha⟩ := h
    refine ⟨a, _, _, rfl, ha, by decide +kernel, rfl, rfl, by simp, fun i v hv => ?_, fun q hq => by simp [Tm.beh] at hq⟩
    match i, hv with
    | 0, hv => cases hv; exact ⟨none, rfl, .inr hg⟩
  | two op p q =>
    obtain ⟨a, v1, v2, rfl, ha, h1, h2⟩ := h
    refine ⟨a, _, _, rfl, ha, by decide +kernel, rfl, rfl, by simp, fun i v hv => i3 (o := none) (p := some p) (q := some q) (.inl ⟨_, rfl⟩) h1 h2 i hv, fun z hz => ?_⟩
    simp only [Tm.beh, List.mem_cons, reduceCtorEq, Option.some.injEq, List.not_mem_nil, or_false, false_or] at hz
    rcases hz with rfl | rfl
    · exact ⟨hg.2.1, Tm.dep_part (by simp [Tm.parts])⟩
    · exact ⟨hg.2.2, Tm.dep_part (by simp [Tm.parts])⟩
  | nt p =>
    obtain ⟨a, v1, rfl, ha, h1⟩ := h
    refine ⟨a, _, _, rfl, ha, by decide +kernel, rfl, rfl, by simp, fun i v hv => ?_, fun z hz => ?_⟩
    · match i, hv with
      | 0, hv => cases hv; exact ⟨some p, rfl, h1⟩
    · simp only [Tm.beh, List.mem_cons, Option.some.injEq, List.not_mem_nil, or_false] at hz
      subst hz
      exact ⟨hg, Tm.dep_part (by simp [Tm.parts])⟩
  | pk c p q =>
    obtain ⟨a, v0, v1, v2, rfl, ha, h0, h1, h2⟩ := h
    refine ⟨a, _, _, rfl, ha, by decide +kernel, rfl, rfl, by simp, fun i v hv => i3 (o := some c) (p := some p) (q := some q) h0 h1 h2 i hv, fun z hz => ?_⟩
    simp only [Tm.beh, List.mem_cons, Option.some.injEq, List.not_mem_nil, or_false] at hz
    rcases hz with rfl | rfl | rfl
    · exact ⟨hg.1, Tm.dep_part (by simp [Tm.parts])⟩
    · exact ⟨hg.2.1, Tm.dep_part (by simp [Tm.parts])⟩
    · exact ⟨hg.2.2, Tm.dep_part (by simp [Tm.parts])⟩
theorem kb_st : kitB "str" "tuple" = some false := by decide +kernel
theorem kb_it : kitB "int" "tuple" = some false := by decide +kernel
theorem kb_bt : kitB "bool" "tuple" = some false := by decide +kernel
theorem beh_none {H : Hp} {v : V} (h : Beh K H none v) : ∃ n : String, TyX K H v (.type n) ∧ kitB n "tuple" = some false := by
  rcases h with ⟨s, rfl⟩ | h
  · exact ⟨_, ty_str s, kb_st⟩
  · cases v with
    | bl b => exact ⟨_, ty_bl b, kb_bt⟩
    | int i => exact ⟨_, ty_int i, kb_it⟩
    | _ => exact absurd h Bool.false_ne_true
theorem Told_tup {H : Hp} {t : Tm} {v : V} (h : ToldAt H t v) : ∃ a xs, v = .ref a ∧ H a = some (.tup xs) := by
  cases t with
  | nm s => obtain ⟨a, h1, h2⟩ := h; exact ⟨a, _, h1, h2⟩
  | vl s => obtain ⟨a, h1, h2⟩ := h; exact ⟨a, _, h1, h2⟩
  | two op p q => obtain ⟨a, _, _, h1, h2, _⟩ := h; exact ⟨a, _, h1, h2⟩
  | nt p => obtain ⟨a, _, h1, h2, _⟩ := h; exact ⟨a, _, h1, h2⟩
  | pk c p q => obtain ⟨a, _, _, _, h1, h2, _⟩ := h; exact ⟨a, _, h1, h2⟩
def sp_tnl (n : Nat) : Sp := fun vs H Q _ => ∃ (t : Tm) (u : V), vs = [u] ∧ ToldAt H t u ∧ t.good ∧ t.dep ≤ n ∧ t.dep ≤ 6 ∧ RetL (t.flat.map V.str) H Q
theorem nat_pow6 {t : Tm} (l : List (Option Tm)) (h : ∀ q, some q ∈ l → q.dep ≤ 6) (hl : l.length ≤ 3) : (flatO l).length ≤ l.length * 729 := by
  induction l with
  | nil => simp [flatO]
  | cons o l ih =>
    have ih' := ih (fun q hq => h q (List.mem_cons_of_mem _ hq)) (by rw [List.length_cons] at hl; omega)
    cases o with
    | none => simp only [flatO, List.length_cons, Nat.succ_mul]; omega
    | some q =>
      have := flat_729 (h q List.mem_cons_self)
      simp only [flatO, List.length_append, List.length_cons, Nat.succ_mul]
      omega
theorem beh_len (t : Tm) : t.beh.length ≤ 3 := by cases t <;> simp [Tm.beh]
theorem ok_term_names_l (T : Txt K mg Z) {n : Nat} (G_term_names_l : FnOk P w K mg base CX0 (n + 1) Z.f_term_names_l Z.fd_term_names_l ["_law_term_here"] (sp_tnl n)) : FnOk P w K mg base CX0 (n + 2) Z.f_term_names_l Z.fd_term_names_l ["_law_term_here"] (sp_tnl (n + 1)) := by
  refine T.F_term_names_l.ok sc_term_names_l (fun vs H Q E h => ?_) (fun cdv AA outer s H vs Q E hr h => ?_)
  · obtain ⟨t, u, rfl, _⟩ := h
    rfl
  · obtain ⟨t, u, rfl, ht, hg, hd, h6, k⟩ := h
    refine ⟨_, (pss_cons (ps_if (pt_cmpR op_eq (pe_ix ix_tup (pv 0) pe_int (fun _ _ => rfl)) pe_str (nomark _)) (pss_one (ps_ret (pe_lst (pa_cons (pe_ix ix_tup (pv 0) pe_int (fun _ _ => rfl)) pa_nil)))) pss_nil)
      (pss_cons (ps_set (i := 1) sc_term_names_l.nd rfl (Or.inl rfl) (pe_lst pa_nil))
      (pss_cons (ps_for PassesOwn.never rfl (pi_tup (pe_slice sl_tup (pv 0) (po_some pe_int) po_none)) (pg_name (i := 2) sc_term_names_l.nd rfl (Or.inl rfl)) (pss_one (ps_if (pt_val (pe_callB call_isi (by rfl) T.n_isinstance (by decide +kernel) (pa_cons (pv 2) (pa_cons (pe_bltn (v := .ty "tuple") (by rfl) T.n_tuple (by decide +kernel) rfl) pa_nil)))) (pss_one (ps_set (i := 1) sc_term_names_l.nd rfl (Or.inl rfl) (pe_op op_cat (pv 1) (pe_call G_term_names_l (hr.mono (by omega)) rfl T.g_term_names_l T.F_term_names_l.kp T.b_term_names_l .nil pass0 (pa_cons (pv 2) pa_nil))))) pss_nil)))
      (pss_one (ps_ret (pv 1)))))), ?_⟩
    by_cases hn : ∃ s, t = .nm s
    · obtain ⟨s, rfl⟩ := hn
      obtain ⟨a, rfl, ha⟩ := ht
      walk_at "ss"
      refine c_ixT (SqT.of ha) rfl ?_
      walk_at "ss"
      rw [str_eq rfl]
      walk_at "ss"
      refine c_ixT (SqT.of ha) rfl ?_
      walk_at "ss"
      exact newL k
    · have hn' : ∀ s, t ≠ .nm s := fun s e => hn ⟨s, e⟩
      obtain ⟨a, w0, xs, rfl, ha, hw, hxl, hcut, hxs, hbeh, hq⟩ := told_beh (K := K) ht hg hn'
      walk_at "ss"
      refine c_ixT (SqT.of ha) at_hd ?_
      walk_at "ss"
      rw [str_ne hw]
      walk_at "ss"
      refine newL fun f H1 hf e1 g1 => ?_
      have ha1 := e1 _ _ ha
      walk_at "ss"
      refine ⟨a, _, rfl, SqT.of ha1, (by
        intro z
        have h1 := z.1
        rw [show (1 : Int) = ((1 : Nat) : Int) from rfl, HT.sIx_nat, List.length_cons] at h1
        omega), fun p2 hp2 => ?_⟩
      rw [hcut]
      have e2 : Ex H1 (upd H1 p2 (.tup xs)) := Ex.new hp2
      have g2 : upd H1 p2 (.tup xs) p2 = some (.tup xs) := upd_same
      generalize upd H1 p2 (.tup xs) = H2 at e2 g2
      have hb3 := beh_len t
      refine ⟨p2, rfl, ⟨_, SqT.of g2⟩, forT (xs := xs) (fun i σ' G => (∃ v2 f', σ' = [some (.ref a), some (.ref f'), v2] ∧ G f' = some (.lst ((flatO (t.beh.take i)).map V.str)) ∧ H f' = none) ∧ Ex H G ∧ G p2 = some (.tup xs)) ⟨⟨_, f, rfl, e2 _ _ g1, hf⟩, e1.trans e2, g2⟩ (fun i σ' G _ q => SqT.of q.2.2) ?_ ?_⟩
      · rintro i x σ' G hx ⟨⟨v2, f', rfl, gf, hf'⟩, eG, gp⟩
        obtain ⟨o, ho, hox⟩ := hbeh i x hx
        have ef : t.beh.take (i + 1) = t.beh.take i ++ [o] := by rw [List.take_add_one, ho]; rfl
        have hlen : (flatO (t.beh.take i)).length ≤ 3 * 729 := by
          have := nat_pow6 (t := t) (t.beh.take i) (fun q hq' => by have := (hq q (List.mem_of_mem_take hq')).2; omega) (by rw [List.length_take]; omega)
          have h3 : (t.beh.take i).length ≤ 3 := by rw [List.length_take]; omega
          have := Nat.mul_le_mul_right 729 h3
          omega
        walk_at "ss"
        cases o with
        | none =>
          obtain ⟨nm, ty, kb⟩ := beh_none hox
          have hty : ∃ n : String, TyX K G x (.type n) ∧ kitB n "tuple" = some false := by
            rcases hox with ⟨s, rfl⟩ | h
            · exact ⟨_, ty_str s, kb_st⟩
            · cases x with
              | bl b => exact ⟨_, ty_bl b, kb_bt⟩
              | int i => exact ⟨_, ty_int i, kb_it⟩
              | _ => exact absurd h Bool.false_ne_true
          obtain ⟨nm, ty, kb⟩ := hty
          refine isi ty kb ?_
          walk_at "ss"
          refine ⟨⟨_, f', rfl, ?_, hf'⟩, eG, gp⟩
          rw [ef, flatO_app]
          show G f' = some (.lst ((flatO (t.beh.take i) ++ []).map V.str))
          rw [List.append_nil]
          exact gf
        | some q =>
          have hqx : ToldAt G q x := ToldAt.up hox eG
          obtain ⟨a3, xs3, rfl, ha3⟩ := Told_tup hqx
          have hq2 := hq q (List.mem_of_getElem? ho)
          refine isi (ty_tup ha3) kb_tt ?_
          walk_at "ss"
          have hq7 := flat_729 (t := q) (by omega)
          refine ⟨q, _, rfl, hqx, hq2.1, by omega, by omega, fun p5 H5 hp5 e5 g5 => ?_⟩
          refine c_cat (e5 _ _ gf) g5 (fun p7 H7 hp7 e7 g7 => ?_) (by rw [List.length_map, List.length_map]; omega)
          walk_at "ss"
          refine ⟨⟨_, p7, rfl, ?_, fresh_back (eG.trans e5) hp7⟩, eG.trans (e5.trans e7), e7 _ _ (e5 _ _ gp)⟩
          rw [ef, flatO_app, List.map_append]
          exact g7
      · rintro σ' G ⟨⟨v2, f', rfl, gf, hf'⟩, eG, gp⟩
        walk_at "ss"
        rw [hxl, List.take_length, Tm.flat_beh t hn'] at gf
        exact k f' G hf' eG gf
theorem okn_tnl (T : Txt K mg Z) : ∀ n, FnOk P w K mg base CX0 (n + 1) Z.f_term_names_l Z.fd_term_names_l ["_law_term_here"] (sp_tnl n)
  | 0 => ⟨fun vs H Q E ⟨t, u, e, _⟩ => by rw [e]; rfl, fun _ _ _ _ _ _ _ _ _ _ _ _ _ ⟨t, u, _, _, _, h1, _⟩ => by have := t.dep_pos; omega⟩
  | n + 1 => ok_term_names_l T (okn_tnl T n)

/-! ### terms renamed -/
def Tm.ren (f : Str → Str) : Tm → Tm
  | .nm s => .nm (f s)
  | .vl v => .vl v
  | .two op a b => .two op (a.ren f) (b.ren f)
  | .nt a => .nt (a.ren f)
  | .pk c a b => .pk (c.ren f) (a.ren f) (b.ren f)
theorem Tm.ren_dep (f : Str → Str) (t : Tm) : (t.ren f).dep = t.dep := by
  induction t with
  | nm s => rfl
  | vl v => rfl
  | two op a b iha ihb => simp only [Tm.ren, Tm.dep, iha, ihb]
  | nt a iha => simp only [Tm.ren, Tm.dep, iha]
  | pk c a b ihc iha ihb => simp only [Tm.ren, Tm.dep, ihc, iha, ihb]
theorem Tm.ren_flat (f : Str → Str) (t : Tm) : (t.ren f).flat = t.flat.map f := by
  induction t with
  | nm s => rfl
  | vl v => rfl
  | two op a b iha ihb => simp only [Tm.ren, Tm.flat, iha, ihb, List.map_append]
  | nt a iha => simp only [Tm.ren, Tm.flat, iha]
  | pk c a b ihc iha ihb => simp only [Tm.ren, Tm.flat, ihc, iha, ihb, List.map_append]
theorem Tm.ren_good {f : Str → Str} : ∀ {t : Tm}, t.good → (∀ s ∈ t.flat, goodN (f s)) → (t.ren f).good := by
  intro t
  induction t with
  | nm s => intro _ h; exact h s (by simp [Tm.flat])
  | vl v => intro g _; exact g
  | two op a b iha ihb => intro g h; exact ⟨g.1, iha g.2.1 fun s hs => h s (List.mem_append_left _ hs), ihb g.2.2 fun s hs => h s (List.mem_append_right _ hs)⟩
  | nt a iha => intro g h; exact iha g h
  | pk c a b ihc iha ihb => intro g h; exact ⟨ihc g.1 fun s hs => h s (List.mem_append_left _ (List.mem_append_left _ hs)), iha g.2.1 fun s hs => h s (List.mem_append_left _ (List.mem_append_right _ hs)), ihb g.2.2 fun s hs => h s (List.mem_append_right _ hs)⟩
/-- the dict at d tells of each of L its new name -/
def DM (H : Hp) (d : Addr) (f : Str → Str) (L : List Str) : Prop := ∃ kvs, H d = some (.dK kvs) ∧ ∀ s ∈ L, valV kvs (.inr s) = some (.str (f s)) ∧ goodN (f s)
theorem DM.up {H H2 : Hp} {d : Addr} {f : Str → Str} {L : List Str} (h : DM H d f L) (e : Ex H H2) : DM H2 d f L := let ⟨kvs, h1, h2⟩ := h; ⟨kvs, e _ _ h1, h2⟩
theorem DM.sub {H : Hp} {d : Addr} {f : Str → Str} {L L2 : List Str} (h : DM H d f L) (e : ∀ s ∈ L2, s ∈ L) : DM H d f L2 := let ⟨kvs, h1, h2⟩ := h; ⟨kvs, h1, fun s hs => h2 s (e s hs)⟩
theorem DM.get {H : Hp} {d : Addr} {f : Str → Str} {L : List Str} {s : Str} (h : DM H d f L) (hs : s ∈ L) : DGet H d (.str s) (some (.str (f s))) := let ⟨kvs, h1, h2⟩ := h; .inl ⟨kvs, .inr s, .inl h1, rfl, (h2 s hs).1.symm⟩
theorem DM.good {H : Hp} {d : Addr} {f : Str → Str} {L : List Str} {s : Str} (h : DM H d f L) (hs : s ∈ L) : goodN (f s) := let ⟨kvs, h1, h2⟩ := h; (h2 s hs).2
def spt_renamed (Z : Adr) (n : Nat) (S : Tm → Prop) : Sp := fun vs H Q _ => ∃ t v d f, vs = [v, .ref d] ∧ TermAt Z H t v ∧ t.good ∧ S t ∧ t.dep ≤ n ∧ t.dep ≤ 5 ∧ DM H d f t.flat ∧ RetM Z (t.ren f) H Q
def spm_renamed (Z : Adr) (n : Nat) (C : Addr) : Sp := spt_renamed Z n fun t => clsT Z t = C
theorem ok_Term_renamed (T : Txt K mg Z) : FnOk P w K mg base CX0 1 Z.f_Term_renamed Z.fd_Term_renamed ["self", "names"] (spt_renamed Z 1 fun t => ∃ s, t = .vl s) := by
  refine T.F_Term_renamed.ok sc_Term_renamed (fun vs H Q E h => ?_) (fun cdv AA outer s H vs Q E hr h => ?_)
  · obtain ⟨t, v, d, f, rfl, _⟩ := h
    rfl
  · obtain ⟨t, v, d, f, rfl, ht, _, ⟨s, rfl⟩, _, _, _, k⟩ := h
    refine ⟨_, (pss_one (ps_ret (pv 0))), ?_⟩
    walk_at "ss"
    exact k _ _ (Ex.refl _) ht
theorem ok_Name_renamed (T : Txt K mg Z) : FnOk P w K mg base CX0 5 Z.f_Name_renamed Z.fd_Name_renamed ["self", "names"] (spt_renamed Z 1 fun t => ∃ s, t = .nm s) := by
  have G_Name_init := ok_Name_init (P := P) (w := w) (base := base) T
  refine T.F_Name_renamed.ok sc_Name_renamed (fun vs H Q E h => ?_) (fun cdv AA outer s H vs Q E hr h => ?_)
  · obtain ⟨t, v, d, f, rfl, _⟩ := h
    rfl
  · obtain ⟨t, v, d, f, rfl, ht, _, ⟨s, rfl⟩, _, _, hD, k⟩ := h
    have TX := tcB_ok T.x_Name
    obtain ⟨a, dx, rfl, ha⟩ := ht
    have hs : s ∈ (Tm.nm s).flat := by simp [Tm.flat]
    have hg := hD.good hs
    have := hg.2.1
    refine ⟨_, (pss_cons (ps_if (pt_cmpR (op_notInDk (hu_of hr)) (pe_fld (pv 0) (by rfl)) (pv 1) (by rfl)) (pss_one ps_never) pss_nil)
      (pss_one (ps_ret (pe_make ⟨(tcB_ok T.x_Name).makes, T.i_Name, T.y_Name_init, (tcB_ok T.x_Name).kp⟩ G_Name_init (hr.mono (by omega)) rfl T.m_Name T.b_Name_init .nil pass0 (pa_cons (pe_dget (hu_of hr) (pv 1) (pe_fld (pv 0) (by rfl)) (fun _ _ => rfl)) pa_nil))))), ?_⟩
    walk_at "ss"
    refine ⟨_, _, _, _, _, rfl, ha, TX.cl, TX.no _ (by decide +kernel), lk_hd, ?_⟩
    walk_at "ss"
    refine ⟨d, _, rfl, hD.get hs, ?_⟩
    walk_at "ss"
    refine if_ff rfl ?_
    walk_at "ss"
    refine ⟨_, _, _, _, _, rfl, ha, TX.cl, TX.no _ (by decide +kernel), lk_hd, ?_⟩
    walk_at "ss"
    refine ⟨d, _, rfl, hD.get hs, ?_⟩
    walk_at "ss"
    exact mk_Name hg.1 (by omega) k
theorem offR {H : Hp} {t : Tm} {v : V} {a dx : Addr} {fs : List (Str × V)} (h : TermAt Z H t v) (ha : v = .ref a) (hf : H a = some (.ins (clsT Z t) dx fs)) : fs.lookup ("renamed" : Str) = none := by
  have n1 : ∀ m f : Str, m ≠ f → (m == f) = false := fun m f h => by simpa using h
  subst ha
  cases t with
  | nm s =>
    obtain ⟨b, dy, h1, h2⟩ := h
    cases h1
    rw [hf] at h2; cases h2
    exact lk_tl (by decide +kernel) rfl
  | vl x =>
    obtain ⟨b, dy, h1, h2⟩ := h
    cases h1
    rw [hf] at h2; cases h2
    exact lk_tl (by decide +kernel) rfl
  | two op p q =>
    obtain ⟨b, dy, v1, v2, h1, h2, _⟩ := h
    cases h1
    rw [hf] at h2; cases h2
    exact lk_tl (by decide +kernel) (lk_tl (by decide +kernel) (lk_tl (by decide +kernel) rfl))
  | nt p =>
    obtain ⟨b, dy, v1, h1, h2, _⟩ := h
    cases h1
    rw [hf] at h2; cases h2
    exact lk_tl (by decide +kernel) rfl
  | pk c p q =>
    obtain ⟨b, dy, v0, v1, v2, h1, h2, _⟩ := h
    cases h1
    rw [hf] at h2; cases h2
    exact lk_tl (by decide +kernel) (lk_tl (by decide +kernel) (lk_tl (by decide +kernel) rfl))
theorem ok_Two_renamed (T : Txt K mg Z) {n : Nat} (GM_renamed : ∀ C, MC Z C → MOk P w K mg base CX0 (n + 11) C "renamed" (spm_renamed Z n C)) : FnOk P w K mg base CX0 (n + 12) Z.f_Two_renamed Z.fd_Two_renamed ["self", "names"] (spt_renamed Z (n + 1) fun t => ∃ op a b, t = .two op a b) := by
  have G_Two_init := ok_Two_init (P := P) (w := w) (base := base) T
  refine T.F_Two_renamed.ok sc_Two_renamed (fun vs H Q E h => ?_) (fun cdv AA outer s H vs Q E hr h => ?_)
  · obtain ⟨t, v, d, f, rfl, _⟩ := h
    rfl
  · obtain ⟨t, v, d, f, rfl, ht, hg, ⟨op, x, y, rfl⟩, hd, h5, hD, k⟩ := h
    have TX := tcB_ok T.x_Two
    obtain ⟨a, dx, v1, v2, rfl, ha, hx, hy⟩ := ht
    obtain ⟨gop, g1, g2⟩ := hg
    simp only [Tm.dep] at hd h5
    refine ⟨_, (pss_one (ps_ret (pe_make ⟨(tcB_ok T.x_Two).makes, T.i_Two, T.y_Two_init, (tcB_ok T.x_Two).kp⟩ G_Two_init (hr.mono (by omega)) rfl T.m_Two T.b_Two_init .nil pass0 (pa_cons (pe_fld (pv 0) (by rfl)) (pa_cons (pe_methP (pe_fld (pv 0) (by rfl)) GM_renamed (hr.mono (by omega)) pass0 (pa_cons (pv 1) pa_nil)) (pa_cons (pe_methP (pe_fld (pv 0) (by rfl)) GM_renamed (hr.mono (by omega)) pass0 (pa_cons (pv 1) pa_nil)) pa_nil)))))), ?_⟩
    walk_at "ss"
    refine ⟨_, _, _, _, _, rfl, ha, TX.cl, TX.no _ (by decide +kernel), lk_hd, ?_⟩
    have e0 : Ex H H := Ex.refl _
    walk_at "ss"
    refine ⟨_, _, _, _, _, rfl, e0 _ _ ha, TX.cl, TX.no _ (by decide +kernel), lk_tl (by decide +kernel) lk_hd, ?_⟩
    have h1' := hx.up e0
    obtain ⟨a1, dx1, fs1, rfl, ha1, m1, m2, m3, m4⟩ := h1'.cls
    refine ⟨a1, _, dx1, fs1, rfl, ha1, clsT_MC Z x, offR h1' rfl ha1, ?_⟩
    walk_at "ss"
    refine ⟨x, _, d, f, rfl, h1', g1, rfl, by omega, by omega, (hD.up e0).sub (fun s hs => List.mem_append_left _ hs), fun w1 H1 e1 t1 => ?_⟩
    have f1 := e0.trans e1
    walk_at "ss"
    refine ⟨_, _, _, _, _, rfl, f1 _ _ ha, TX.cl, TX.no _ (by decide +kernel), lk_tl (by decide +kernel) (lk_tl (by decide +kernel) lk_hd), ?_⟩
    have h2' := hy.up f1
    obtain ⟨a2, dx2, fs2, rfl, ha2, m1, m2, m3, m4⟩ := h2'.cls
    refine ⟨a2, _, dx2, fs2, rfl, ha2, clsT_MC Z y, offR h2' rfl ha2, ?_⟩
    walk_at "ss"
    refine ⟨y, _, d, f, rfl, h2', g2, rfl, by omega, by omega, (hD.up f1).sub (fun s hs => List.mem_append_right _ hs), fun w2 H2 e2 t2 => ?_⟩
    walk_at "ss"
    exact mk_Two gop (t1.up e2) t2 (by rw [Tm.ren_dep]; omega) (by rw [Tm.ren_dep]; omega) (k.up (f1.trans e2))
theorem ok_Not_renamed (T : Txt K mg Z) {n : Nat} (GM_renamed : ∀ C, MC Z C → MOk P w K mg base CX0 (n + 11) C "renamed" (spm_renamed Z n C)) : FnOk P w K mg base CX0 (n + 12) Z.f_Not_renamed Z.fd_Not_renamed ["self", "names"] (spt_renamed Z (n + 1) fun t => ∃ a, t = .nt a) := by
  have G_Not_init := ok_Not_init (P := P) (w := w) (base := base) T
  refine T.F_Not_renamed.ok sc_Not_renamed (fun vs H Q E h => ?_) (fun cdv AA outer s H vs Q E hr h => ?_)
  · obtain ⟨t, v, d, f, rfl, _⟩ := h
    rfl
  · obtain ⟨t, v, d, f, rfl, ht, g1, ⟨x, rfl⟩, hd, h5, hD, k⟩ := h
    have TX := tcB_ok T.x_Not
    obtain ⟨a, dx, v1, rfl, ha, hx⟩ := ht
    simp only [Tm.dep] at hd h5
    refine ⟨_, (pss_one (ps_ret (pe_make ⟨(tcB_ok T.x_Not).makes, T.i_Not, T.y_Not_init, (tcB_ok T.x_Not).kp⟩ G_Not_init (hr.mono (by omega)) rfl T.m_Not T.b_Not_init .nil pass0 (pa_cons (pe_methP (pe_fld (pv 0) (by rfl)) GM_renamed (hr.mono (by omega)) pass0 (pa_cons (pv 1) pa_nil)) pa_nil)))), ?_⟩
    have e0 : Ex H H := Ex.refl _
    walk_at "ss"
    refine ⟨_, _, _, _, _, rfl, e0 _ _ ha, TX.cl, TX.no _ (by decide +kernel), lk_hd, ?_⟩
    have h1' := hx.up e0
    obtain ⟨a1, dx1, fs1, rfl, ha1, m1, m2, m3, m4⟩ := h1'.cls
    refine ⟨a1, _, dx1, fs1, rfl, ha1, clsT_MC Z x, offR h1' rfl ha1, ?_⟩
    walk_at "ss"
    refine ⟨x, _, d, f, rfl, h1', g1, rfl, by omega, by omega, (hD.up e0).sub (fun s hs => hs), fun w1 H1 e1 t1 => ?_⟩
    walk_at "ss"
    exact mk_Not t1 (by rw [Tm.ren_dep]; omega) (k.up e1)
theorem ok_Pick_renamed (T : Txt K mg Z) {n : Nat} (GM_renamed : ∀ C, MC Z C → MOk P w K mg base CX0 (n + 11) C "renamed" (spm_renamed Z n C)) : FnOk P w K mg base CX0 (n + 12) Z.f_Pick_renamed Z.fd_Pick_renamed ["self", "names"] (spt_renamed Z (n + 1) fun t => ∃ c a b, t = .pk c a b) := by
  have G_Pick_init := ok_Pick_init (P := P) (w := w) (base := base) T
  refine T.F_Pick_renamed.ok sc_Pick_renamed (fun vs H Q E h => ?_) (fun cdv AA outer s H vs Q E hr h => ?_)
  · obtain ⟨t, v, d, f, rfl, _⟩ := h
    rfl
  · obtain ⟨t, v, d, f, rfl, ht, hg, ⟨c, x, y, rfl⟩, hd, h5, hD, k⟩ := h
    have TX := tcB_ok T.x_Pick
    obtain ⟨a, dx, v0, v1, v2, rfl, ha, hc, hx, hy⟩ := ht
    obtain ⟨g1, g2, g3⟩ := hg
    simp only [Tm.dep] at hd h5
    refine ⟨_, (pss_one (ps_ret (pe_make ⟨(tcB_ok T.x_Pick).makes, T.i_Pick, T.y_Pick_init, (tcB_ok T.x_Pick).kp⟩ G_Pick_init (hr.mono (by omega)) rfl T.m_Pick T.b_Pick_init .nil pass0 (pa_cons (pe_methP (pe_fld (pv 0) (by rfl)) GM_renamed (hr.mono (by omega)) pass0 (pa_cons (pv 1) pa_nil)) (pa_cons (pe_methP (pe_fld (pv 0) (by rfl)) GM_renamed (hr.mono (by omega)) pass0 (pa_cons (pv 1) pa_nil)) (pa_cons (pe_methP (pe_fld (pv 0) (by rfl)) GM_renamed (hr.mono (by omega)) pass0 (pa_cons (pv 1) pa_nil)) pa_nil)))))), ?_⟩
    have e0 : Ex H H := Ex.refl _
    walk_at "ss"
    refine ⟨_, _, _, _, _, rfl, e0 _ _ ha, TX.cl, TX.no _ (by decide +kernel), lk_hd, ?_⟩
    have h1' := hc.up e0
    obtain ⟨a1, dx1, fs1, rfl, ha1, m1, m2, m3, m4⟩ := h1'.cls
    refine ⟨a1, _, dx1, fs1, rfl, ha1, clsT_MC Z c, offR h1' rfl ha1, ?_⟩
    walk_at "ss"
    refine ⟨c, _, d, f, rfl, h1', g1, rfl, by omega, by omega, (hD.up e0).sub (fun s hs => List.mem_append_left _ (List.mem_append_left _ hs)), fun w1 H1 e1 t1 => ?_⟩
    have f1 := e0.trans e1
    walk_at "ss"
    refine ⟨_, _, _, _, _, rfl, f1 _ _ ha, TX.cl, TX.no _ (by decide +kernel), lk_tl (by decide +kernel) lk_hd, ?_⟩
    have h2' := hx.up f1
    obtain ⟨a2, dx2, fs2, rfl, ha2, m1, m2, m3, m4⟩ := h2'.cls
    refine ⟨a2, _, dx2, fs2, rfl, ha2, clsT_MC Z x, offR h2' rfl ha2, ?_⟩
    walk_at "ss"
    refine ⟨x, _, d, f, rfl, h2', g2, rfl, by omega, by omega, (hD.up f1).sub (fun s hs => List.mem_append_left _ (List.mem_append_right _ hs)), fun w2 H2 e2 t2 => ?_⟩
    have f2 := f1.trans e2
    walk_at "ss"
    refine ⟨_, _, _, _, _, rfl, f2 _ _ ha, TX.cl, TX.no _ (by decide +kernel), lk_tl (by decide +kernel) (lk_tl (by decide +kernel) lk_hd), ?_⟩
    have h3' := hy.up f2
    obtain ⟨a3, dx3, fs3, rfl, ha3, m1, m2, m3, m4⟩ := h3'.cls
    refine ⟨a3, _, dx3, fs3, rfl, ha3, clsT_MC Z y, offR h3' rfl ha3, ?_⟩
    walk_at "ss"
    refine ⟨y, _, d, f, rfl, h3', g3, rfl, by omega, by omega, (hD.up f2).sub (fun s hs => List.mem_append_right _ hs), fun w3 H3 e3 t3 => ?_⟩
    walk_at "ss"
    exact mk_Pick (t1.up (e2.trans e3)) (t2.up e3) t3 (by rw [Tm.ren_dep]; omega) (by rw [Tm.ren_dep]; omega) (by rw [Tm.ren_dep]; omega) (k.up (f2.trans e3))
theorem gm_renamed (T : Txt K mg Z) : ∀ n, ∀ C, MC Z C → MOk P w K mg base CX0 (n + 11) C "renamed" (spm_renamed Z n C) := by
  intro n
  induction n with
  | zero =>
    have hN : ∀ C vs H Q E, ¬ spm_renamed Z 0 C vs H Q E := fun C vs H Q E ⟨t, v, d, f, _, _, _, _, hd, _⟩ => by have := t.dep_pos; omega
    rintro C (rfl | rfl | rfl | rfl | rfl)
    · exact mok_none (n := 0) (tcB_ok T.x_Name).cl ⟨T.h_renamed_Name, T.y_Name_renamed, T.F_Name_renamed.kp⟩ T.b_Name_renamed (hN _)
    · exact mok_none (n := 0) (tcB_ok T.x_Value).cl ⟨T.h_renamed_Value, T.y_Term_renamed, T.F_Term_renamed.kp⟩ T.b_Term_renamed (hN _)
    · exact mok_none (n := 0) (tcB_ok T.x_Two).cl ⟨T.h_renamed_Two, T.y_Two_renamed, T.F_Two_renamed.kp⟩ T.b_Two_renamed (hN _)
    · exact mok_none (n := 0) (tcB_ok T.x_Not).cl ⟨T.h_renamed_Not, T.y_Not_renamed, T.F_Not_renamed.kp⟩ T.b_Not_renamed (hN _)
    · exact mok_none (n := 0) (tcB_ok T.x_Pick).cl ⟨T.h_renamed_Pick, T.y_Pick_renamed, T.F_Pick_renamed.kp⟩ T.b_Pick_renamed (hN _)
  | succ n ih =>
    have F1 := (ok_Name_renamed (P := P) (w := w) (base := base) T).mono (show _ ≤ n + 1 + 11 by omega)
    have F2 := (ok_Term_renamed (P := P) (w := w) (base := base) T).mono (show _ ≤ n + 1 + 11 by omega)
    have F3 := ok_Two_renamed (P := P) (w := w) (base := base) T ih
    have F4 := ok_Not_renamed (P := P) (w := w) (base := base) T ih
    have F5 := ok_Pick_renamed (P := P) (w := w) (base := base) T ih
    rintro C (rfl | rfl | rfl | rfl | rfl)
    · exact ⟨(tcB_ok T.x_Name).cl, _, _, _, ⟨T.h_renamed_Name, T.y_Name_renamed, T.F_Name_renamed.kp⟩, F1.imp fun vs H Q E ⟨t, v, d, f, e, h, hg, hc, hd, h5, hD, k⟩ => ⟨t, v, d, f, e, h, hg, cls_nm T hc, (by obtain ⟨s, rfl⟩ := cls_nm T hc; exact Nat.le_refl _), h5, hD, k⟩, T.b_Name_renamed⟩
    · exact ⟨(tcB_ok T.x_Value).cl, _, _, _, ⟨T.h_renamed_Value, T.y_Term_renamed, T.F_Term_renamed.kp⟩, F2.imp fun vs H Q E ⟨t, v, d, f, e, h, hg, hc, hd, h5, hD, k⟩ => ⟨t, v, d, f, e, h, hg, cls_vl T hc, (by obtain ⟨s, rfl⟩ := cls_vl T hc; exact Nat.le_refl _), h5, hD, k⟩, T.b_Term_renamed⟩
    · exact ⟨(tcB_ok T.x_Two).cl, _, _, _, ⟨T.h_renamed_Two, T.y_Two_renamed, T.F_Two_renamed.kp⟩, F3.imp fun vs H Q E ⟨t, v, d, f, e, h, hg, hc, hd, h5, hD, k⟩ => ⟨t, v, d, f, e, h, hg, cls_two T hc, hd, h5, hD, k⟩, T.b_Two_renamed⟩
    · exact ⟨(tcB_ok T.x_Not).cl, _, _, _, ⟨T.h_renamed_Not, T.y_Not_renamed, T.F_Not_renamed.kp⟩, F4.imp fun vs H Q E ⟨t, v, d, f, e, h, hg, hc, hd, h5, hD, k⟩ => ⟨t, v, d, f, e, h, hg, cls_nt T hc, hd, h5, hD, k⟩, T.b_Not_renamed⟩
    · exact ⟨(tcB_ok T.x_Pick).cl, _, _, _, ⟨T.h_renamed_Pick, T.y_Pick_renamed, T.F_Pick_renamed.kp⟩, F5.imp fun vs H Q E ⟨t, v, d, f, e, h, hg, hc, hd, h5, hD, k⟩ => ⟨t, v, d, f, e, h, hg, cls_pk T hc, hd, h5, hD, k⟩, T.b_Pick_renamed⟩

/-! ### rows renamed -/
def Rw.ren (f : Str → Str) : Rw → Rw
  | .pl n t => .pl (f n) (t.ren f)
  | .vd k n v x => .vd k (f n) v (f x)
  | .wh n x y => .wh (f n) (f x) (f y)
  | .sm ns => .sm (ns.map f)
  | .cl os nd xs => .cl (os.map f) nd (xs.map f)
theorem Rw.ren_good {f : Str → Str} {r : Rw} (g : r.good) (h : ∀ s ∈ r.all, goodN (f s)) : (r.ren f).good := by
  cases r with
  | pl n t => exact ⟨h n (by simp [Rw.all, Rw.tells]), Tm.ren_good g.2.1 fun s hs => h s (List.mem_append_right _ (flat_names hs)), by rw [Tm.ren_dep]; exact g.2.2⟩
  | vd k n v x => exact ⟨g.1, h n (by simp [Rw.all, Rw.tells]), g.2.2.1, h x (by simp [Rw.all, Rw.names])⟩
  | wh n x y => exact ⟨h n (by simp [Rw.all, Rw.tells]), h x (List.mem_append_right _ (once_sub (by simp))), h y (List.mem_append_right _ (once_sub (by simp)))⟩
  | sm ns =>
    refine ⟨by rw [List.length_map]; exact g.1, by rw [List.length_map]; exact g.2.1, fun s hs => ?_⟩
    obtain ⟨z, hz, rfl⟩ := List.mem_map.mp hs
    exact h z (List.mem_append_right _ (once_sub hz))
  | cl os nd xs =>
    refine ⟨by rw [List.length_map]; exact g.1, by rw [List.length_map]; exact g.2.1, fun s hs => ?_, g.2.2.2.1, by rw [List.length_map]; exact g.2.2.2.2.1, by rw [List.length_map]; exact g.2.2.2.2.2.1, fun s hs => ?_⟩
    · obtain ⟨z, hz, rfl⟩ := List.mem_map.mp hs
      exact h z (List.mem_append_left _ hz)
    · obtain ⟨z, hz, rfl⟩ := List.mem_map.mp hs
      exact h z (List.mem_append_right _ (once_sub hz))
def Re_put (Z : Adr) : Rw → V → List V → Hp → VK → Prop := fun r _ ws H Q => ∃ d f, ws = [.ref d] ∧ DM H d f r.all ∧ ∀ u' H2, Ex H H2 → RowAt H2 (r.ren f) u' → Q u' H2
def spP (Z : Adr) (S : Rw → Prop) : Sp := fun vs H Q _ => ∃ r v u ws, vs = v :: ws ∧ EqAt Z H r v u ∧ r.good ∧ S r ∧ Re_put Z r v ws H Q
def spmE_put_otherwise (Z : Adr) (C : Addr) : Sp := spP Z (fun r => clsK Z r.kind = C)
theorem ok_Equation_put_otherwise (T : Txt K mg Z) : FnOk P w K mg base CX0 1 Z.f_Equation_put_otherwise Z.fd_Equation_put_otherwise ["self", "names"] (spP Z (fun r => r.kind = 1 ∨ r.kind = 2 ∨ r.kind = 3)) := by
  refine T.F_Equation_put_otherwise.ok sc_Equation_put_otherwise (fun vs H Q E h => ?_) (fun cdv AA outer s H vs Q E hr h => ?_)
  · obtain ⟨r, v, u, ws, rfl, _, _, _, d, f, rfl, _⟩ := h
    rfl
  · obtain ⟨r, v, u, ws, rfl, ⟨a, dx, fs, rfl, ha, hr2, hrow, hoff, htm⟩, hg, hS, d, f, rfl, hD, k⟩ := h
    have TX := tcE T r.kind_lt
    obtain ⟨kk, n, w0, x, rfl⟩ := kind_vd hS
    obtain ⟨b, rfl, hb⟩ := hr2
    have hn : n ∈ (Rw.vd kk n w0 x).all := by simp [Rw.all, Rw.tells]
    have hx : x ∈ (Rw.vd kk n w0 x).all := by simp [Rw.all, Rw.names]
    refine ⟨_, (pss_one (ps_ret (pe_op op_catT (pe_slice sl_tup (pe_fld (pv 0) (by rfl)) po_none (po_some pe_int)) (pe_tup (pa_cons (pe_dget (hu_of hr) (pv 1) (pe_ix ix_tup (pe_fld (pv 0) (by rfl)) pe_int (fun _ _ => rfl)) (fun _ _ => rfl)) (pa_cons (pe_ix ix_tup (pe_fld (pv 0) (by rfl)) pe_int (fun _ _ => rfl)) (pa_cons (pe_dget (hu_of hr) (pv 1) (pe_ix ix_tup (pe_fld (pv 0) (by rfl)) pe_int (fun _ _ => rfl)) (fun _ _ => rfl)) pa_nil))))))), ?_⟩
    walk_at "ss"
    refine ⟨_, _, _, _, _, rfl, ha, TX.1, TX.2.1, hrow, ?_⟩
    walk_at "ss"
    refine ⟨b, _, rfl, SqT.of hb, fun z => absurd (show (1 : Nat) = 4 from z.2) (by decide), fun p1 hp1 => ?_⟩
    have e1 := Ex.new (H := H) (p := p1) (o := .tup [.str (vword kk)]) hp1
    have g1 : upd H p1 (.tup [.str (vword kk)]) p1 = some (.tup [.str (vword kk)]) := upd_same
    show tTup _ _ (upd H p1 (.tup [.str (vword kk)])) _
    generalize upd H p1 (.tup [.str (vword kk)]) = H1 at e1 g1
    walk_at "ss"
    refine ⟨_, _, _, _, _, rfl, (e1 _ _ ha), TX.1, TX.2.1, hrow, ?_⟩
    walk_at "ss"
    refine c_ixT (SqT.of (e1 _ _ hb)) rfl ?_
    walk_at "ss"
    refine ⟨d, _, rfl, (hD.up e1).get hn, ?_⟩
    walk_at "ss"
    refine ⟨_, _, _, _, _, rfl, (e1 _ _ ha), TX.1, TX.2.1, hrow, ?_⟩
    walk_at "ss"
    refine c_ixT (SqT.of (e1 _ _ hb)) rfl ?_
    walk_at "ss"
    refine ⟨_, _, _, _, _, rfl, (e1 _ _ ha), TX.1, TX.2.1, hrow, ?_⟩
    walk_at "ss"
    refine c_ixT (SqT.of (e1 _ _ hb)) rfl ?_
    walk_at "ss"
    refine ⟨d, _, rfl, (hD.up e1).get hx, ?_⟩
    walk_at "ss"
    refine newT fun p2 H2 hp2 e2 g2 => ?_
    refine ⟨p1, p2, _, _, rfl, rfl, SqT.of (e2 _ _ g1), SqT.of g2, by simp, Evl.sz_of (by simp), fun z => by simp at z, fun _ p3 hp3 => ?_⟩
    exact k _ _ (e1.trans (e2.trans (Ex.new hp3))) ⟨p3, rfl, upd_same⟩
theorem ok_Plain_put_otherwise (T : Txt K mg Z)  : FnOk P w K mg base CX0 (18) Z.f_Plain_put_otherwise Z.fd_Plain_put_otherwise ["self", "names"] (spP Z (fun r => r.kind = 0)) := by
  refine T.F_Plain_put_otherwise.ok sc_Plain_put_otherwise (fun vs H Q E h => ?_) (fun cdv AA outer s H vs Q E hr h => ?_)
  · obtain ⟨r, v, u, ws, rfl, _, _, _, d, f, rfl, _⟩ := h
    rfl
  · obtain ⟨r, v, u, ws, rfl, ⟨a, dx, fs, rfl, ha, hr2, hrow, hoff, htm⟩, hg, hS, d, f, rfl, hD, k⟩ := h
    have TX := tcE T r.kind_lt
    obtain ⟨n, t, rfl⟩ := kind_pl hS
    obtain ⟨tv, hk, htv⟩ := htm n t rfl
    obtain ⟨b, tw, rfl, hb, hw⟩ := hr2
    have GM_renamed := gm_renamed (P := P) (w := w) (base := base) T 5
    have GM_told := gm_told (P := P) (w := w) (base := base) T 5
    have hn : n ∈ (Rw.pl n t).all := by simp [Rw.all, Rw.tells]
    have h5 := hg.2.2
    refine ⟨_, (pss_one (ps_ret (pe_tup (pa_cons pe_str (pa_cons (pe_dget (hu_of hr) (pv 1) (pe_ix ix_tup (pe_fld (pv 0) (by rfl)) pe_int (fun _ _ => rfl)) (fun _ _ => rfl)) (pa_cons (pe_methP0 (pe_methP (pe_fld (pv 0) (by rfl)) GM_renamed (hr.mono (by omega)) pass0 (pa_cons (pv 1) pa_nil)) GM_told (hr.mono (by omega)) pass0) pa_nil)))))), ?_⟩
    walk_at "ss"
    refine ⟨_, _, _, _, _, rfl, ha, TX.1, TX.2.1, hrow, ?_⟩
    walk_at "ss"
    refine c_ixT (SqT.of hb) rfl ?_
    walk_at "ss"
    refine ⟨d, _, rfl, hD.get hn, ?_⟩
    walk_at "ss"
    refine ⟨_, _, _, _, _, rfl, ha, TX.1, TX.2.2.1 rfl, hk, ?_⟩
    obtain ⟨a2, dx2, fs2, rfl, ha2, l1, l2, l3, l4⟩ := htv.cls
    refine ⟨a2, _, dx2, fs2, rfl, ha2, clsT_MC Z t, offR htv rfl ha2, ?_⟩
    walk_at "ss"
    refine ⟨t, _, d, f, rfl, htv, hg.2.1, rfl, h5, h5, hD.sub (fun s hs => List.mem_append_right _ (flat_names hs)), fun v1 H1 e1 t1 => ?_⟩
    obtain ⟨a3, dx3, fs3, rfl, ha3, m1, m2, m3, m4⟩ := t1.cls
    walk_at "ss"
    refine ⟨a3, _, dx3, fs3, rfl, ha3, clsT_MC Z _, m4, ?_⟩
    walk_at "ss"
    refine ⟨_, _, rfl, t1, rfl, by rw [Tm.ren_dep]; exact h5, fun u2 H2 e2 t2 => ?_⟩
    walk_at "ss"
    exact newT fun p3 H3 hp3 e3 g3 => k _ _ (e1.trans (e2.trans e3)) ⟨p3, _, rfl, g3, t2.up e3⟩
theorem ok_When_put_otherwise (T : Txt K mg Z) : FnOk P w K mg base CX0 1 Z.f_When_put_otherwise Z.fd_When_put_otherwise ["self", "names"] (spP Z (fun r => r.kind = 4)) := by
  refine T.F_When_put_otherwise.ok sc_When_put_otherwise (fun vs H Q E h => ?_) (fun cdv AA outer s H vs Q E hr h => ?_)
  · obtain ⟨r, v, u, ws, rfl, _, _, _, d, f, rfl, _⟩ := h
    rfl
  · obtain ⟨r, v, u, ws, rfl, ⟨a, dx, fs, rfl, ha, hr2, hrow, hoff, htm⟩, hg, hS, d, f, rfl, hD, k⟩ := h
    have TX := tcE T r.kind_lt
    obtain ⟨n, x, y, rfl⟩ := kind_wh hS
    obtain ⟨b, rfl, hb⟩ := hr2
    have e0 : Ex H H := Ex.refl _
    have hall : ∀ s ∈ [n, x, y], s ∈ (Rw.wh n x y).all := fun s hs => by
      simp only [List.mem_cons, List.not_mem_nil, or_false] at hs
      rcases hs with rfl | rfl | rfl
      · simp [Rw.all, Rw.tells]
      · exact List.mem_append_right _ (once_sub (by simp))
      · exact List.mem_append_right _ (once_sub (by simp))
    refine ⟨_, (pss_one (ps_ret (pe_op op_catT (pe_tup (pa_cons pe_str pa_nil)) (pe_callTy call_tuple_of (by rfl) T.n_tuple (by decide +kernel) (pa_cons (pe_lc (own := [("name", 2)]) (g := (gName 2)) (tt := tYes) (te := (tDGet (tVar 1) (tVar 2))) rfl sc_When_put_otherwise.nd (pi_tup (pe_slice sl_tup (pe_fld (pv 0) (by rfl)) (po_some pe_int) po_none)) (blkOk_by (own := [("name", 2)]) (N := N_When_put_otherwise) (sc := defScope s_When_put_otherwise) (by decide +kernel)) (fun _ _ _ _ _ => (pg_name (i := 2) sc_When_put_otherwise.nd rfl (Or.inl rfl))) (fun _ _ _ _ _ => pts_nil) (fun _ _ _ _ _ => (pe_dget (hu_of hr) (pv 1) (pv 2) (fun _ _ => rfl)))) pa_nil))))), ?_⟩
    walk_at "ss"
    refine newT fun p1 H1 hp1 e1 g1 => ?_
    walk_at "ss"
    refine ⟨_, _, _, _, _, rfl, (e1 _ _ ha), TX.1, TX.2.1, hrow, ?_⟩
    walk_at "ss"
    refine ⟨b, _, rfl, SqT.of (e1 _ _ hb), fun z => absurd (show (1 : Nat) = 0 from z.1) (by decide), fun p2 hp2 => ?_⟩
    have e2 := Ex.new (H := H1) (p := p2) (o := .tup ([n, x, y].map V.str)) hp2
    have g2 : upd H1 p2 (.tup ([n, x, y].map V.str)) p2 = some (.tup ([n, x, y].map V.str)) := upd_same
    rw [show cutV [V.str "when", V.str n, V.str x, V.str y] (some 1) none = [n, x, y].map V.str from rfl]
    generalize upd H1 p2 (.tup ([n, x, y].map V.str)) = H2 at e2 g2
    have e12 := e1.trans e2
    refine ⟨p2, rfl, ⟨_, SqT.of g2⟩, lcT (fun i => ([n, x, y][i]?).bind fun s => some (.str (f s))) (SqT.of g2) (by simp) (fun i x hx => ?_) ?_⟩
    · rw [List.getElem?_map] at hx
      obtain ⟨s, hs, rfl⟩ := Option.map_eq_some_iff.mp hx
      intro H9 e9 R hR
      walk_at "ss"
      refine ⟨d, _, rfl, (hD.up (e12.trans e9)).get (hall s (List.mem_of_getElem? hs)), ?_⟩
      rw [hs] at hR
      exact hR _ (Ex.refl _)
    rw [List.length_map, fm_range, fm_some]
    intro l3 A3 hl3 c3 m3
    have M3 : A3 l3 = some (.lst (([n, x, y].map f).map V.str)) := by rw [m3, List.map_map]; rfl
    walk_at "ss"
    refine ⟨l3, _, rfl, .inl ⟨SqL.of M3, fun q3 hq3 => ?_⟩⟩
    have c3' := Ex.new (H := A3) (p := q3) (o := .tup (([n, x, y].map f).map V.str)) hq3
    have m3' : upd A3 q3 (.tup (([n, x, y].map f).map V.str)) q3 = some (.tup (([n, x, y].map f).map V.str)) := upd_same
    generalize upd A3 q3 (.tup (([n, x, y].map f).map V.str)) = B3 at c3' m3'
    refine ⟨p1, q3, _, _, rfl, rfl, SqT.of ((e2.trans (c3.trans c3')) _ _ g1), SqT.of m3', by simp, Evl.sz_of (by simp), fun z => by simp at z, fun _ p3 hp3 => ?_⟩
    exact k _ _ (e12.trans (c3.trans (c3'.trans (Ex.new hp3)))) ⟨p3, rfl, upd_same⟩
theorem ok_Same_put_otherwise (T : Txt K mg Z) : FnOk P w K mg base CX0 1 Z.f_Same_put_otherwise Z.fd_Same_put_otherwise ["self", "names"] (spP Z (fun r => r.kind = 5)) := by
  refine T.F_Same_put_otherwise.ok sc_Same_put_otherwise (fun vs H Q E h => ?_) (fun cdv AA outer s H vs Q E hr h => ?_)
  · obtain ⟨r, v, u, ws, rfl, _, _, _, d, f, rfl, _⟩ := h
    rfl
  · obtain ⟨r, v, u, ws, rfl, ⟨a, dx, fs, rfl, ha, hr2, hrow, hoff, htm⟩, hg, hS, d, f, rfl, hD, k⟩ := h
    have TX := tcE T r.kind_lt
    obtain ⟨ns, rfl⟩ := kind_sm hS
    obtain ⟨b, p, rfl, hb, hp⟩ := hr2
    have e0 : Ex H H := Ex.refl _
    have hl := hg.2.1
    have hall : ∀ s ∈ ns, s ∈ (Rw.sm ns).all := fun s hs => List.mem_append_right _ (once_sub hs)
    refine ⟨_, (pss_one (ps_ret (pe_tup (pa_cons pe_str (pa_cons (pe_callTy call_tuple_of (by rfl) T.n_tuple (by decide +kernel) (pa_cons (pe_lc (own := [("name", 2)]) (g := (gName 2)) (tt := tYes) (te := (tDGet (tVar 1) (tVar 2))) rfl sc_Same_put_otherwise.nd (pi_tup (pe_ix ix_tup (pe_fld (pv 0) (by rfl)) pe_int (fun _ _ => rfl))) (blkOk_by (own := [("name", 2)]) (N := N_Same_put_otherwise) (sc := defScope s_Same_put_otherwise) (by decide +kernel)) (fun _ _ _ _ _ => (pg_name (i := 2) sc_Same_put_otherwise.nd rfl (Or.inl rfl))) (fun _ _ _ _ _ => pts_nil) (fun _ _ _ _ _ => (pe_dget (hu_of hr) (pv 1) (pv 2) (fun _ _ => rfl)))) pa_nil)) pa_nil))))), ?_⟩
    walk_at "ss"
    refine ⟨_, _, _, _, _, rfl, ha, TX.1, TX.2.1, hrow, ?_⟩
    walk_at "ss"
    refine c_ixT (SqT.of hb) rfl ?_
    refine ⟨p, rfl, ⟨_, SqT.of hp⟩, lcT (fun i => (ns[i]?).bind fun s => some (.str (f s))) (SqT.of hp) (by rw [List.length_map]; omega) (fun i x hx => ?_) ?_⟩
    · rw [List.getElem?_map] at hx
      obtain ⟨s, hs, rfl⟩ := Option.map_eq_some_iff.mp hx
      intro H9 e9 R hR
      walk_at "ss"
      refine ⟨d, _, rfl, (hD.up (e0.trans e9)).get (hall s (List.mem_of_getElem? hs)), ?_⟩
      rw [hs] at hR
      exact hR _ (Ex.refl _)
    rw [List.length_map, fm_range, fm_some]
    intro l3 A3 hl3 c3 m3
    have M3 : A3 l3 = some (.lst ((ns.map f).map V.str)) := by rw [m3, List.map_map]; rfl
    walk_at "ss"
    refine ⟨l3, _, rfl, .inl ⟨SqL.of M3, fun q3 hq3 => ?_⟩⟩
    have c3' := Ex.new (H := A3) (p := q3) (o := .tup ((ns.map f).map V.str)) hq3
    have m3' : upd A3 q3 (.tup ((ns.map f).map V.str)) q3 = some (.tup ((ns.map f).map V.str)) := upd_same
    generalize upd A3 q3 (.tup ((ns.map f).map V.str)) = B3 at c3' m3'
    walk_at "ss"
    exact newT fun p4 H4 hp4 e4 g4 => k _ _ (c3.trans (c3'.trans e4)) ⟨p4, q3, rfl, g4, e4 _ _ m3'⟩
theorem ok_Call_put_otherwise (T : Txt K mg Z) : FnOk P w K mg base CX0 1 Z.f_Call_put_otherwise Z.fd_Call_put_otherwise ["self", "names"] (spP Z (fun r => r.kind = 6)) := by
  refine T.F_Call_put_otherwise.ok sc_Call_put_otherwise (fun vs H Q E h => ?_) (fun cdv AA outer s H vs Q E hr h => ?_)
  · obtain ⟨r, v, u, ws, rfl, _, _, _, d, f, rfl, _⟩ := h
    rfl
  · obtain ⟨r, v, u, ws, rfl, ⟨a, dx, fs, rfl, ha, hr2, hrow, hoff, htm⟩, hg, hS, d, f, rfl, hD, k⟩ := h
    have TX := tcE T r.kind_lt
    obtain ⟨os, nd, xs, rfl⟩ := kind_cl hS
    obtain ⟨b, p, q, rfl, hb, hp, hq⟩ := hr2
    have e0 : Ex H H := Ex.refl _
    have hl1 := hg.2.1
    have hl2 := hg.2.2.2.2.2.1
    have hall : ∀ s ∈ os, s ∈ (Rw.cl os nd xs).all := fun s hs => List.mem_append_left _ hs
    have hall2 : ∀ s ∈ xs, s ∈ (Rw.cl os nd xs).all := fun s hs => List.mem_append_right _ (once_sub hs)
    refine ⟨_, (pss_cons (ps_set (i := 2) sc_Call_put_otherwise.nd rfl (Or.inl rfl) (pe_callTy call_tuple_of (by rfl) T.n_tuple (by decide +kernel) (pa_cons (pe_lc (own := [("name", 3)]) (g := (gName 3)) (tt := tYes) (te := (tDGet (tVar 1) (tVar 3))) rfl sc_Call_put_otherwise.nd (pi_tup (pe_ix ix_tup (pe_fld (pv 0) (by rfl)) pe_int (fun _ _ => rfl))) (blkOk_by (own := [("name", 3)]) (N := N_Call_put_otherwise) (sc := defScope s_Call_put_otherwise) (by decide +kernel)) (fun _ _ _ _ _ => (pg_name (i := 3) sc_Call_put_otherwise.nd rfl (Or.inl rfl))) (fun _ _ _ _ _ => pts_nil) (fun _ _ _ _ _ => (pe_dget (hu_of hr) (pv 1) (pv 3) (fun _ _ => rfl)))) pa_nil)))
      (pss_one (ps_ret (pe_tup (pa_cons pe_str (pa_cons (pv 2) (pa_cons (pe_ix ix_tup (pe_fld (pv 0) (by rfl)) pe_int (fun _ _ => rfl)) (pa_cons (pe_callTy call_tuple_of (by rfl) T.n_tuple (by decide +kernel) (pa_cons (pe_lc (own := [("name", 3)]) (g := (gName 3)) (tt := tYes) (te := (tDGet (tVar 1) (tVar 3))) rfl sc_Call_put_otherwise.nd (pi_tup (pe_ix ix_tup (pe_fld (pv 0) (by rfl)) pe_int (fun _ _ => rfl))) (blkOk_by (own := [("name", 3)]) (N := N_Call_put_otherwise) (sc := defScope s_Call_put_otherwise) (by decide +kernel)) (fun _ _ _ _ _ => (pg_name (i := 3) sc_Call_put_otherwise.nd rfl (Or.inl rfl))) (fun _ _ _ _ _ => pts_nil) (fun _ _ _ _ _ => (pe_dget (hu_of hr) (pv 1) (pv 3) (fun _ _ => rfl)))) pa_nil)) pa_nil)))))))), ?_⟩
    walk_at "ss"
    refine ⟨_, _, _, _, _, rfl, ha, TX.1, TX.2.1, hrow, ?_⟩
    walk_at "ss"
    refine c_ixT (SqT.of hb) rfl ?_
    refine ⟨p, rfl, ⟨_, SqT.of hp⟩, lcT (fun i => (os[i]?).bind fun s => some (.str (f s))) (SqT.of hp) (by rw [List.length_map]; omega) (fun i x hx => ?_) ?_⟩
    · rw [List.getElem?_map] at hx
      obtain ⟨s, hs, rfl⟩ := Option.map_eq_some_iff.mp hx
      intro H9 e9 R hR
      walk_at "ss"
      refine ⟨d, _, rfl, (hD.up (e0.trans e9)).get (hall s (List.mem_of_getElem? hs)), ?_⟩
      rw [hs] at hR
      exact hR _ (Ex.refl _)
    rw [List.length_map, fm_range, fm_some]
    intro l3 A3 hl3 c3 m3
    have M3 : A3 l3 = some (.lst ((os.map f).map V.str)) := by rw [m3, List.map_map]; rfl
    walk_at "ss"
    refine ⟨l3, _, rfl, .inl ⟨SqL.of M3, fun q3 hq3 => ?_⟩⟩
    have c3' := Ex.new (H := A3) (p := q3) (o := .tup ((os.map f).map V.str)) hq3
    have m3' : upd A3 q3 (.tup ((os.map f).map V.str)) q3 = some (.tup ((os.map f).map V.str)) := upd_same
    generalize upd A3 q3 (.tup ((os.map f).map V.str)) = B3 at c3' m3'
    have e3 := c3.trans c3'
    walk_at "ss"
    refine ⟨_, _, _, _, _, rfl, (e3 _ _ ha), TX.1, TX.2.1, hrow, ?_⟩
    walk_at "ss"
    refine c_ixT (SqT.of (e3 _ _ hb)) rfl ?_
    walk_at "ss"
    refine ⟨_, _, _, _, _, rfl, (e3 _ _ ha), TX.1, TX.2.1, hrow, ?_⟩
    walk_at "ss"
    refine c_ixT (SqT.of (e3 _ _ hb)) rfl ?_
    refine ⟨q, rfl, ⟨_, SqT.of (e3 _ _ hq)⟩, lcT (fun i => (xs[i]?).bind fun s => some (.str (f s))) (SqT.of (e3 _ _ hq)) (by rw [List.length_map]; omega) (fun i x hx => ?_) ?_⟩
    · rw [List.getElem?_map] at hx
      obtain ⟨s, hs, rfl⟩ := Option.map_eq_some_iff.mp hx
      intro H9 e9 R hR
      walk_at "ss"
      refine ⟨d, _, rfl, (hD.up (e3.trans e9)).get (hall2 s (List.mem_of_getElem? hs)), ?_⟩
      rw [hs] at hR
      exact hR _ (Ex.refl _)
    rw [List.length_map, fm_range, fm_some]
    intro l4 A4 hl4 c4 m4
    have M4 : A4 l4 = some (.lst ((xs.map f).map V.str)) := by rw [m4, List.map_map]; rfl
    walk_at "ss"
    refine ⟨l4, _, rfl, .inl ⟨SqL.of M4, fun q4 hq4 => ?_⟩⟩
    have c4' := Ex.new (H := A4) (p := q4) (o := .tup ((xs.map f).map V.str)) hq4
    have m4' : upd A4 q4 (.tup ((xs.map f).map V.str)) q4 = some (.tup ((xs.map f).map V.str)) := upd_same
    generalize upd A4 q4 (.tup ((xs.map f).map V.str)) = B4 at c4' m4'
    walk_at "ss"
    exact newT fun p5 H5 hp5 e5 g5 => k _ _ (e3.trans (c4.trans (c4'.trans e5))) ⟨p5, q3, q4, rfl, g5, e5 _ _ (c4' _ _ (c4 _ _ m3')), e5 _ _ m4'⟩
theorem gmE_put_otherwise (T : Txt K mg Z) : ∀ C, MCE Z C → MOk P w K mg base CX0 18 C "put_otherwise" (spmE_put_otherwise Z C) := by
  rintro C ⟨i, hi, rfl⟩
  have hi' : i = 0 ∨ i = 1 ∨ i = 2 ∨ i = 3 ∨ i = 4 ∨ i = 5 ∨ i = 6 := by omega
  rcases hi' with rfl | rfl | rfl | rfl | rfl | rfl | rfl
  · exact ⟨(tcB_ok T.x_Plain).cl, _, _, _, ⟨T.h_put_otherwise_Plain, T.y_Plain_put_otherwise, T.F_Plain_put_otherwise.kp⟩, ((ok_Plain_put_otherwise (P := P) (w := w) (base := base) T).mono (by decide)).imp fun vs H Q E ⟨r, v, u, ws, e, h, hg, hc, k⟩ => ⟨r, v, u, ws, e, h, hg, (by have := clsK_inj T r.kind_lt hi hc; omega), k⟩, T.b_Plain_put_otherwise⟩
  · exact ⟨(tcB_ok T.x_Before).cl, _, _, _, ⟨T.h_put_otherwise_Before, T.y_Equation_put_otherwise, T.F_Equation_put_otherwise.kp⟩, ((ok_Equation_put_otherwise (P := P) (w := w) (base := base) T).mono (by decide)).imp fun vs H Q E ⟨r, v, u, ws, e, h, hg, hc, k⟩ => ⟨r, v, u, ws, e, h, hg, (by have := clsK_inj T r.kind_lt hi hc; omega), k⟩, T.b_Equation_put_otherwise⟩
  · exact ⟨(tcB_ok T.x_Hold).cl, _, _, _, ⟨T.h_put_otherwise_Hold, T.y_Equation_put_otherwise, T.F_Equation_put_otherwise.kp⟩, ((ok_Equation_put_otherwise (P := P) (w := w) (base := base) T).mono (by decide)).imp fun vs H Q E ⟨r, v, u, ws, e, h, hg, hc, k⟩ => ⟨r, v, u, ws, e, h, hg, (by have := clsK_inj T r.kind_lt hi hc; omega), k⟩, T.b_Equation_put_otherwise⟩
  · exact ⟨(tcB_ok T.x_Like).cl, _, _, _, ⟨T.h_put_otherwise_Like, T.y_Equation_put_otherwise, T.F_Equation_put_otherwise.kp⟩, ((ok_Equation_put_otherwise (P := P) (w := w) (base := base) T).mono (by decide)).imp fun vs H Q E ⟨r, v, u, ws, e, h, hg, hc, k⟩ => ⟨r, v, u, ws, e, h, hg, (by have := clsK_inj T r.kind_lt hi hc; omega), k⟩, T.b_Equation_put_otherwise⟩
  · exact ⟨(tcB_ok T.x_When).cl, _, _, _, ⟨T.h_put_otherwise_When, T.y_When_put_otherwise, T.F_When_put_otherwise.kp⟩, ((ok_When_put_otherwise (P := P) (w := w) (base := base) T).mono (by decide)).imp fun vs H Q E ⟨r, v, u, ws, e, h, hg, hc, k⟩ => ⟨r, v, u, ws, e, h, hg, (by have := clsK_inj T r.kind_lt hi hc; omega), k⟩, T.b_When_put_otherwise⟩
  · exact ⟨(tcB_ok T.x_Same).cl, _, _, _, ⟨T.h_put_otherwise_Same, T.y_Same_put_otherwise, T.F_Same_put_otherwise.kp⟩, ((ok_Same_put_otherwise (P := P) (w := w) (base := base) T).mono (by decide)).imp fun vs H Q E ⟨r, v, u, ws, e, h, hg, hc, k⟩ => ⟨r, v, u, ws, e, h, hg, (by have := clsK_inj T r.kind_lt hi hc; omega), k⟩, T.b_Same_put_otherwise⟩
  · exact ⟨(tcB_ok T.x_Call).cl, _, _, _, ⟨T.h_put_otherwise_Call, T.y_Call_put_otherwise, T.F_Call_put_otherwise.kp⟩, ((ok_Call_put_otherwise (P := P) (w := w) (base := base) T).mono (by decide)).imp fun vs H Q E ⟨r, v, u, ws, e, h, hg, hc, k⟩ => ⟨r, v, u, ws, e, h, hg, (by have := clsK_inj T r.kind_lt hi hc; omega), k⟩, T.b_Call_put_otherwise⟩

/-! ### a row renamed -/
def sp_new_name : Sp := fun vs H Q _ => ∃ d s f, vs = [.ref d, .str s] ∧ DM H d f [s] ∧ RetV (.str (f s)) H Q
theorem ok_new_name (T : Txt K mg Z) : FnOk P w K mg base CX0 3 Z.f_new_name Z.fd_new_name ["names", "name"] sp_new_name := by
  have G_is_pointed := ok_is_pointed (P := P) (w := w) (base := base) T
  refine T.F_new_name.ok sc_new_name (fun vs H Q E h => ?_) (fun cdv AA outer s H vs Q E hr h => ?_)
  · obtain ⟨d, s, f, rfl, _⟩ := h
    rfl
  · obtain ⟨d, s, f, rfl, hD, k⟩ := h
    have hs : s ∈ [s] := List.mem_cons_self
    have hg := hD.good hs
    have := hg.2.1
    refine ⟨_, (pss_cons (ps_if (pt_cmpR (op_notInDk (hu_of hr)) (pv 1) (pv 0) (by rfl)) (pss_one ps_never) pss_nil)
      (pss_cons (ps_if (pt_not (pt_val (pe_call G_is_pointed (hr.mono (by omega)) rfl T.g_is_pointed T.F_is_pointed.kp T.b_is_pointed .nil pass0 (pa_cons (pe_dget (hu_of hr) (pv 0) (pv 1) (fun _ _ => rfl)) pa_nil)))) (pss_one ps_never) pss_nil)
      (pss_one (ps_ret (pe_dget (hu_of hr) (pv 0) (pv 1) (fun _ _ => rfl)))))), ?_⟩
    walk_at "ss"
    refine ⟨d, _, rfl, hD.get hs, ?_⟩
    walk_at "ss"
    refine if_ff rfl ?_
    walk_at "ss"
    refine ⟨d, _, rfl, hD.get hs, ?_⟩
    walk_at "ss"
    refine ⟨_, rfl, .inl ⟨f s, rfl, by omega, fun H1 e1 => ?_⟩⟩
    rw [hg.1]
    walk_at "ss"
    refine ⟨d, _, rfl, (hD.up e1).get hs, ?_⟩
    exact k _ e1
theorem putK_len (kvs : List (Key × V)) (k : Key) (v : V) : (putK kvs k v).length ≤ kvs.length + 1 := by
  unfold putK
  split
  · rw [List.length_map]; omega
  · rw [List.length_append]; simp
theorem Rw.all_len {r : Rw} (g : r.good) : r.all.length ≤ 1000 := by
  unfold Rw.all
  rw [List.length_append]
  cases r with
  | pl n t => have := names_729 (t := t) (by have := g.2.2; omega); simp only [Rw.tells, Rw.names, List.length_cons, List.length_nil]; omega
  | vd k n v x => simp [Rw.tells, Rw.names]
  | wh n x y => have := once_len [x, y]; simp only [Rw.tells, Rw.names, List.length_cons, List.length_nil] at this ⊢; omega
  | sm ns => have := once_len ns; have := g.2.1; simp only [Rw.tells, Rw.names, List.length_nil]; omega
  | cl os nd xs => have := once_len xs; have := g.2.1; have := g.2.2.2.2.2.1; simp only [Rw.tells, Rw.names]; omega
def spR (Z : Adr) : Sp := fun vs H Q _ => ∃ r v u d f, vs = [v, .ref d] ∧ EqAt Z H r v u ∧ r.good ∧ DM H d f r.all ∧ ∀ v' u' H2, Ex H H2 → EqAt Z H2 (r.ren f) v' u' → Q v' H2
def spmE_renamed (Z : Adr) (C : Addr) : Sp := spR Z
theorem ok_Equation_renamed (T : Txt K mg Z)  : FnOk P w K mg base CX0 (26) Z.f_Equation_renamed Z.fd_Equation_renamed ["self", "names"] (spR Z) := by
  have G_new_name := ok_new_name (P := P) (w := w) (base := base) T
  have G_equation_of := ok_equation_of (P := P) (w := w) (base := base) T
  refine T.F_Equation_renamed.ok sc_Equation_renamed (fun vs H Q E h => ?_) (fun cdv AA outer s H vs Q E hr h => ?_)
  · obtain ⟨r, v, u, d, f, rfl, _⟩ := h
    rfl
  · obtain ⟨r, v, u, d, f, rfl, hE, hg, hD, k⟩ := h
    have GME_tells := gmE_tells (P := P) (w := w) (base := base) T
    have GME_names := gmE_names (P := P) (w := w) (base := base) T
    have GME_put_otherwise := gmE_put_otherwise (P := P) (w := w) (base := base) T
    obtain ⟨a, dx, fs, rfl, ha, hr2, hrow, ⟨⟨o1, o2, o3, o4, o5⟩, hoR, hoR2⟩, htm⟩ := id hE
    have hM : MCE Z (clsK Z r.kind) := ⟨_, r.kind_lt, rfl⟩
    refine ⟨_, (pss_cons (ps_set (i := 2) sc_Equation_renamed.nd rfl (Or.inl rfl) pe_dnewK)
      (pss_cons (ps_for PassesOwn.never rfl (pi_list (pe_op op_cat (pe_methP0 (pv 0) GME_tells (hr.mono (by omega)) pass0) (pe_methP0 (pv 0) GME_names (hr.mono (by omega)) pass0))) (pg_name (i := 3) sc_Equation_renamed.nd rfl (Or.inl rfl)) (pss_one (ps_dput (hu_of hr) (pv 2) (pv 3) (pe_call G_new_name (hr.mono (by omega)) rfl T.g_new_name T.F_new_name.kp T.b_new_name .nil pass0 (pa_cons (pv 1) (pa_cons (pv 3) pa_nil))) rfl)))
      (pss_one (ps_ret (pe_call G_equation_of (hr.mono (by omega)) rfl T.g_equation_of T.F_equation_of.kp T.b_equation_of .nil pass0 (pa_cons (pe_methP (pv 0) GME_put_otherwise (hr.mono (by omega)) pass0 (pa_cons (pv 2) pa_nil)) pa_nil)))))), ?_⟩
    walk_at "ss"
    intro fd hfd
    have e1 : Ex H (upd H fd (.dK [])) := Ex.new hfd
    have g1 : upd H fd (.dK []) fd = some (.dK []) := upd_same
    generalize upd H fd (.dK []) = H1 at e1 g1
    walk_at "ss"
    refine ⟨a, _, dx, fs, rfl, e1 _ _ ha, hM, o2, ?_⟩
    walk_at "ss"
    refine ⟨r, _, _, rfl, hE.up e1, hg, rfl, fun l2 H2 hl2 e2 g2 => ?_⟩
    walk_at "ss"
    have e12 := e1.trans e2
    refine ⟨a, _, dx, fs, rfl, e12 _ _ ha, hM, o3, ?_⟩
    walk_at "ss"
    refine ⟨r, _, _, rfl, hE.up e12, hg, rfl, fun l3 H3 hl3 e3 g3 => ?_⟩
    have hal := Rw.all_len hg
    have hal2 : r.tells.length + r.names.length ≤ 1000 := by unfold Rw.all at hal; rw [List.length_append] at hal; exact hal
    refine c_cat (e3 _ _ g2) g3 (fun l4 H4 hl4 e4 g4 => ?_) (by rw [List.length_map, List.length_map]; omega)
    have g4' : H4 l4 = some (.lst (r.all.map V.str)) := by rw [g4]; unfold Rw.all; rw [List.map_append]
    have e14 := e12.trans (e3.trans e4)
    have nfl : l4 ≠ fd := (ne_of_none ((e2.trans e3) _ _ g1) hl4).symm
    refine ⟨l4, rfl, ⟨_, SqL.of g4'⟩, forL (xs := r.all.map V.str) (fun i σ' G => (∃ v3, σ' = [some (.ref a), some (.ref d), some (.ref fd), v3]) ∧ Ex H G ∧ G l4 = some (.lst (r.all.map V.str)) ∧ ∃ kv, G fd = some (.dK kv) ∧ kv.length ≤ i ∧ ∀ s ∈ r.all.take i, valV kv (.inr s) = some (.str (f s))) ⟨⟨_, rfl⟩, e14, g4', [], (e2.trans (e3.trans e4)) _ _ g1, Nat.le_refl _, fun s hs => by simp at hs⟩ (fun i σ' G _ q => SqL.of q.2.2.1) ?_ ?_⟩
    · rintro i x σ' G hx ⟨⟨v3, rfl⟩, eG, gl, kv, gf, hkl, hkv⟩
      rw [List.getElem?_map] at hx
      obtain ⟨s, hs, rfl⟩ := Option.map_eq_some_iff.mp hx
      have hsm := List.mem_of_getElem? hs
      have hil := (List.getElem?_eq_some_iff.mp hs).1
      walk_at "ss"
      refine ⟨d, s, f, rfl, (hD.up eG).sub (fun z hz => by have : z = s := (by simpa using hz); rw [this]; exact hsm), fun G5 e5 => ?_⟩
      walk_at "ss"
      refine ⟨fd, _, rfl, .inl ⟨_, .inr s, e5 _ _ gf, rfl, Evl.sz_lt (by omega), rfl⟩, ?_⟩
      walk_at "ss"
      have hpl := putK_len kv (.inr s) (.str (f s))
      refine ⟨⟨_, rfl⟩, Ex.mut (eG.trans e5) hfd, by rw [upd_ne nfl]; exact e5 _ _ gl, _, upd_same, by omega, fun z hz => ?_⟩
      rw [valV_put]
      rw [List.take_add_one, hs] at hz
      by_cases hzs : (Sum.inr z : Key) = Sum.inr s
      · rw [if_pos hzs]
        have : z = s := Sum.inr.inj hzs
        rw [this]
      · rw [if_neg hzs]
        rcases List.mem_append.mp hz with h | h
        · exact hkv z h
        · exact absurd (by have : z = s := (by simpa using h); rw [this]) hzs
    · rintro σ' G ⟨⟨v3, rfl⟩, eG, gl, kv, gf, hkl, hkv⟩
      rw [List.length_map, List.take_length] at hkv
      walk_at "ss"
      refine ⟨a, _, dx, fs, rfl, eG _ _ ha, hM, hoR, ?_⟩
      walk_at "ss"
      have hDf : DM G fd f r.all := ⟨kv, gf, fun s hs => ⟨hkv s hs, hD.good hs⟩⟩
      refine ⟨r, _, _, _, rfl, hE.up eG, hg, rfl, fd, f, rfl, hDf, fun u' G6 e6 hR6 => ?_⟩
      walk_at "ss"
      refine ⟨r.ren f, u', rfl, hR6, Rw.ren_good hg (fun s hs => hD.good hs), fun v' G7 e7 hE7 => ?_⟩
      exact k v' u' G7 (eG.trans (e6.trans e7)) hE7

/-! ### a row that is not renamed: NoName -/
theorem ok_NoName_init (T : Txt K mg Z) : FnOk P w K mg base CX0 1 Z.f_NoName_init Z.fd_NoName_init ["self", "found"] (sp_err1 Z.c_NoName "found") := by
  refine T.F_NoName_init.ok sc_NoName_init (fun vs H Q E h => ?_) (fun cdv AA outer s H vs Q E hr h => ?_)
  · obtain ⟨a, v0, rfl, _⟩ := h
    rfl
  · obtain ⟨a, v0, rfl, ha, k⟩ := h
    have TX := exB_ok T.x_NoName
    refine ⟨_, (pss_cons (ps_expr (pe_binit rfl T.m_BeatError (baseB_ok T.q_BeatError) (pa_cons (pv 0) (pa_cons pe_str pa_nil))))
      (pss_one (ps_ost (pv 0) (pv 1)))), ?_⟩
    exact err1_run TX.ox (TX.no _ (by decide +kernel)) ha k
theorem ok_NoEquation_init (T : Txt K mg Z) : FnOk P w K mg base CX0 1 Z.f_NoEquation_init Z.fd_NoEquation_init ["self", "found"] (sp_err1 Z.c_NoEquation "found") := by
  refine T.F_NoEquation_init.ok sc_NoEquation_init (fun vs H Q E h => ?_) (fun cdv AA outer s H vs Q E hr h => ?_)
  · obtain ⟨a, v0, rfl, _⟩ := h
    rfl
  · obtain ⟨a, v0, rfl, ha, k⟩ := h
    have TX := exB_ok T.x_NoEquation
    refine ⟨_, (pss_cons (ps_expr (pe_binit rfl T.m_BeatError (baseB_ok T.q_BeatError) (pa_cons (pv 0) (pa_cons pe_str pa_nil))))
      (pss_one (ps_ost (pv 0) (pv 1)))), ?_⟩
    exact err1_run TX.ox (TX.no _ (by decide +kernel)) ha k
def BadN (H : Hp) (w : V) : Prop := (∃ s, w = .str s ∧ s.length ≤ 1000 ∧ isPointed s = false) ∨ (w = .non ∨ (∃ b, w = .bl b) ∨ ∃ i, w = .int i) ∨ ∃ a, w = .ref a ∧ ((∃ xs, H a = some (.tup xs)) ∨ (∃ xs, H a = some (.lst xs)) ∨ ∃ kvs, H a = some (.dK kvs))
theorem BadN.up {H H2 : Hp} {w : V} (h : BadN H w) (e : Ex H H2) : BadN H2 w := by
  rcases h with h | h | ⟨a, rfl, h⟩
  · exact .inl h
  · exact .inr (.inl h)
  · refine .inr (.inr ⟨a, rfl, ?_⟩)
    rcases h with ⟨xs, h⟩ | ⟨xs, h⟩ | ⟨xs, h⟩
    · exact .inl ⟨xs, e _ _ h⟩
    · exact .inr (.inl ⟨xs, e _ _ h⟩)
    · exact .inr (.inr ⟨xs, e _ _ h⟩)
theorem kb_ns2 : kitB "NoneType" "str" = some false := by decide +kernel
theorem kb_bs2 : kitB "bool" "str" = some false := by decide +kernel
theorem kb_is2 : kitB "int" "str" = some false := by decide +kernel
theorem kb_ts2 : kitB "tuple" "str" = some false := by decide +kernel
theorem kb_ls2 : kitB "list" "str" = some false := by decide +kernel
theorem kb_ds2 : kitB "dict" "str" = some false := by decide +kernel
theorem bad_pointed {H : Hp} {w : V} (h : BadN H w) {Q : VK} {E : XK} (k : ∀ H2, Ex H H2 → Q (.bl false) H2) : sp_is_pointed K [w] H Q E := by
  rcases h with ⟨s, rfl, hl, hp⟩ | (rfl | ⟨b, rfl⟩ | ⟨i, rfl⟩) | ⟨a, rfl, h⟩
  · exact ⟨_, rfl, .inl ⟨s, rfl, by omega, fun H2 e => by rw [hp]; exact k H2 e⟩⟩
  · exact ⟨_, rfl, .inr ⟨_, ty_non, kb_ns2, k _ (Ex.refl _)⟩⟩
  · exact ⟨_, rfl, .inr ⟨_, ty_bl b, kb_bs2, k _ (Ex.refl _)⟩⟩
  · exact ⟨_, rfl, .inr ⟨_, ty_int i, kb_is2, k _ (Ex.refl _)⟩⟩
  · rcases h with ⟨xs, h⟩ | ⟨xs, h⟩ | ⟨xs, h⟩
    · exact ⟨_, rfl, .inr ⟨_, ty_tup h, kb_ts2, k _ (Ex.refl _)⟩⟩
    · exact ⟨_, rfl, .inr ⟨_, ty_lst h, kb_ls2, k _ (Ex.refl _)⟩⟩
    · exact ⟨_, rfl, .inr ⟨_, .base (.dK h), kb_ds2, k _ (Ex.refl _)⟩⟩
/-- what the dict has for s is told as no name: w -/
def BadAt (H : Hp) (kvs : List (Key × V)) (s : Str) (w : V) : Prop := (valV kvs (.inr s) = none ∧ w = .str s) ∨ (valV kvs (.inr s) = some w ∧ BadN H w)
theorem BadAt.up {H H2 : Hp} {kvs : List (Key × V)} {s : Str} {w : V} (h : BadAt H kvs s w) (e : Ex H H2) : BadAt H2 kvs s w := h.elim .inl fun h => .inr ⟨h.1, h.2.up e⟩
def sp_new_nameX (Z : Adr) : Sp := fun vs H Q E => ∃ d s kvs, vs = [.ref d, .str s] ∧ H d = some (.dK kvs) ∧ ((∃ s', valV kvs (.inr s) = some (.str s') ∧ goodN s' ∧ RetV (.str s') H Q) ∨
  ∃ w, BadAt H kvs s w ∧ ∀ x H2, H x = none → Ex H H2 → H2 x = some (.xd [("found", w)]) → E (.ref Z.c_NoName) (some x) H2)
theorem dgetK {H : Hp} {d : Addr} {kvs : List (Key × V)} {s : Str} (h : H d = some (.dK kvs)) : DGet H d (.str s) (valV kvs (.inr s)) := .inl ⟨kvs, .inr s, .inl h, rfl, rfl⟩
theorem okX_new_name (T : Txt K mg Z) : FnOk P w K mg base (L2.CX P w) 5 Z.f_new_name Z.fd_new_name ["names", "name"] (sp_new_nameX Z) := by
  have G_is_pointed := ok_is_pointed (P := P) (w := w) (base := base) T
  have G_NoName_init := ok_NoName_init (P := P) (w := w) (base := base) T
  refine T.F_new_name.okX sc_new_name (fun vs H Q E h => ?_) (fun cdv AA outer s H vs Q E hr h => ?_)
  · obtain ⟨d, s, kvs, rfl, _⟩ := h
    rfl
  · obtain ⟨d, s, kvs, rfl, hd, h⟩ := h
    refine ⟨_, (pss_cons (ps_if (pt_cmpR (op_notInDk (hu_of hr)) (pv 1) (pv 0) (by rfl)) (pss_one (ps_raise rfl (takes_of rfl rfl rfl rfl) (pmk_oex (exB_ok T.x_NoName).ox T.i_NoName T.y_NoName G_NoName_init (hr.mono (by omega)) T.b_NoName_init .nil pass0 rfl T.m_NoName (pa_cons (pv 1) pa_nil)))) pss_nil)
      (pss_cons (ps_if (pt_not (pt_val (pe_call G_is_pointed (hr.mono (by omega)) rfl T.g_is_pointed T.F_is_pointed.kp T.b_is_pointed .nil pass0 (pa_cons (pe_dget (hu_of hr) (pv 0) (pv 1) (fun _ _ => rfl)) pa_nil)))) (pss_one (ps_raise rfl (takes_of rfl rfl rfl rfl) (pmk_oex (exB_ok T.x_NoName).ox T.i_NoName T.y_NoName G_NoName_init (hr.mono (by omega)) T.b_NoName_init .nil pass0 rfl T.m_NoName (pa_cons (pe_dget (hu_of hr) (pv 0) (pv 1) (fun _ _ => rfl)) pa_nil)))) pss_nil)
      (pss_one (ps_ret (pe_dget (hu_of hr) (pv 0) (pv 1) (fun _ _ => rfl)))))), ?_⟩
    rcases h with ⟨s', hv, hg, k⟩ | ⟨w0, hb, k⟩
    · have := hg.2.1
      walk_at "ss"
      refine ⟨d, _, rfl, dgetK hd, ?_⟩
      rw [hv]
      walk_at "ss"
      refine if_ff rfl ?_
      walk_at "ss"
      refine ⟨d, _, rfl, by rw [← hv]; exact dgetK hd, ?_⟩
      walk_at "ss"
      refine ⟨_, rfl, .inl ⟨s', rfl, by omega, fun H1 e1 => ?_⟩⟩
      rw [hg.1]
      walk_at "ss"
      refine ⟨d, _, rfl, by rw [← hv]; exact dgetK (e1 _ _ hd), ?_⟩
      exact k _ e1
    · rcases hb with ⟨hv, rfl⟩ | ⟨hv, hbad⟩
      · walk_at "ss"
        refine ⟨d, _, rfl, dgetK hd, ?_⟩
        rw [hv]
        walk_at "ss"
        refine if_tt rfl ?_
        walk_at "ss"
        exact raise1 fun x H3 hx e3 g3 => k x H3 hx e3 g3
      · walk_at "ss"
        refine ⟨d, _, rfl, dgetK hd, ?_⟩
        rw [hv]
        walk_at "ss"
        refine if_ff rfl ?_
        walk_at "ss"
        refine ⟨d, _, rfl, by rw [← hv]; exact dgetK hd, ?_⟩
        walk_at "ss"
        refine bad_pointed hbad fun H1 e1 => ?_
        walk_at "ss"
        refine ⟨d, _, rfl, by rw [← hv]; exact dgetK (e1 _ _ hd), ?_⟩
        walk_at "ss"
        exact raise1 fun x H3 hx e3 g3 => k x H3 (fresh_back e1 hx) (e1.trans e3) g3
def spRX (Z : Adr) : Sp := fun vs H Q E => ∃ (r : Rw) (v u : V) (d : Addr) (kvs : List (Key × V)) (j : Nat) (s : Str) (w : V), vs = [v, .ref d] ∧ EqAt Z H r v u ∧ r.good ∧ H d = some (.dK kvs) ∧ r.all[j]? = some s ∧ (∀ (i : Nat) (s' : Str), i < j → r.all[i]? = some s' → ∃ s'', valV kvs (.inr s') = some (.str s'') ∧ goodN s'') ∧ BadAt H kvs s w ∧
  ∀ x H2, H x = none → Ex H H2 → H2 x = some (.xd [("found", w)]) → E (.ref Z.c_NoName) (some x) H2
theorem okX_renamed (T : Txt K mg Z) : FnOk P w K mg base (L2.CX P w) 26 Z.f_Equation_renamed Z.fd_Equation_renamed ["self", "names"] (spRX Z) := by
  have GX_new_name := okX_new_name (P := P) (w := w) (base := base) T
  have G_equation_of := ok_equation_of (P := P) (w := w) (base := base) T
  have GME_tells := gmE_tells (P := P) (w := w) (base := base) T
  have GME_names := gmE_names (P := P) (w := w) (base := base) T
  have GME_put_otherwise := gmE_put_otherwise (P := P) (w := w) (base := base) T
  refine T.F_Equation_renamed.okX sc_Equation_renamed (fun vs H Q E h => ?_) (fun cdv AA outer s H vs Q E hr h => ?_)
  · obtain ⟨r, v, u, d, kvs, j, s, w0, rfl, _⟩ := h
    rfl
  · obtain ⟨r, v, u, d, kvs, j, s, w0, rfl, hE, hg, hd, hj, hgood, hbad, k⟩ := h
    obtain ⟨a, dx, fs, rfl, ha, hr2, hrow, ⟨⟨o1, o2, o3, o4, o5⟩, hoR, hoR2⟩, htm⟩ := id hE
    have hM : MCE Z (clsK Z r.kind) := ⟨_, r.kind_lt, rfl⟩
    refine ⟨_, (pss_cons (ps_set (i := 2) sc_Equation_renamed.nd rfl (Or.inl rfl) pe_dnewK)
      (pss_cons (ps_for (passes_of rfl) rfl (pi_list (pe_op op_cat (pe_methP0 (pv 0) GME_tells (hr.mono (by omega)) pass0) (pe_methP0 (pv 0) GME_names (hr.mono (by omega)) pass0))) (pg_name (i := 3) sc_Equation_renamed.nd rfl (Or.inl rfl)) (pss_one (ps_dput (hu_of hr) (pv 2) (pv 3) (pe_call GX_new_name (hr.mono (by omega)) rfl T.g_new_name T.F_new_name.kp T.b_new_name .nil (passes_call (takes_of rfl rfl rfl rfl) (fun _ _ _ _ h => h)) (pa_cons (pv 1) (pa_cons (pv 3) pa_nil))) rfl)))
      (pss_one (ps_ret (pe_call G_equation_of (hr.mono (by omega)) rfl T.g_equation_of T.F_equation_of.kp T.b_equation_of .nil pass0 (pa_cons (pe_methP (pv 0) GME_put_otherwise (hr.mono (by omega)) pass0 (pa_cons (pv 2) pa_nil)) pa_nil)))))), ?_⟩
    walk_at "ss"
    intro fd hfd
    have e1 : Ex H (upd H fd (.dK [])) := Ex.new hfd
    have g1 : upd H fd (.dK []) fd = some (.dK []) := upd_same
    generalize upd H fd (.dK []) = H1 at e1 g1
    walk_at "ss"
    refine ⟨a, _, dx, fs, rfl, e1 _ _ ha, hM, o2, ?_⟩
    walk_at "ss"
    refine ⟨r, _, _, rfl, hE.up e1, hg, rfl, fun l2 H2 hl2 e2 g2 => ?_⟩
    walk_at "ss"
    have e12 := e1.trans e2
    refine ⟨a, _, dx, fs, rfl, e12 _ _ ha, hM, o3, ?_⟩
    walk_at "ss"
    refine ⟨r, _, _, rfl, hE.up e12, hg, rfl, fun l3 H3 hl3 e3 g3 => ?_⟩
    have hal := Rw.all_len hg
    have hal2 : r.tells.length + r.names.length ≤ 1000 := by unfold Rw.all at hal; rw [List.length_append] at hal; exact hal
    refine c_cat (e3 _ _ g2) g3 (fun l4 H4 hl4 e4 g4 => ?_) (by rw [List.length_map, List.length_map]; omega)
    have g4' : H4 l4 = some (.lst (r.all.map V.str)) := by rw [g4]; unfold Rw.all; rw [List.map_append]
    have e14 := e12.trans (e3.trans e4)
    have nfl : l4 ≠ fd := (ne_of_none ((e2.trans e3) _ _ g1) hl4).symm
    have hjl := (List.getElem?_eq_some_iff.mp hj).1
    refine ⟨l4, rfl, ⟨_, SqL.of g4'⟩, forL (xs := r.all.map V.str) (fun i σ' G => (∃ v3, σ' = [some (.ref a), some (.ref d), some (.ref fd), v3]) ∧ Ex H G ∧ G l4 = some (.lst (r.all.map V.str)) ∧ i ≤ j ∧ ∃ kv, G fd = some (.dK kv) ∧ kv.length ≤ i) ⟨⟨_, rfl⟩, e14, g4', Nat.zero_le _, [], (e2.trans (e3.trans e4)) _ _ g1, Nat.le_refl _⟩ (fun i σ' G _ q => SqL.of q.2.2.1) ?_ ?_⟩
    · rintro i x σ' G hx ⟨⟨v3, rfl⟩, eG, gl, hij, kv, gf, hkl⟩
      rw [List.getElem?_map] at hx
      obtain ⟨s', hs, rfl⟩ := Option.map_eq_some_iff.mp hx
      have hil := (List.getElem?_eq_some_iff.mp hs).1
      walk_at "ss"
      rcases Nat.lt_or_ge i j with hlt | hge
      · obtain ⟨s'', hv, hg2⟩ := hgood i s' hlt hs
        refine ⟨d, s', kvs, rfl, eG _ _ hd, .inl ⟨s'', hv, hg2, fun G5 e5 => ?_⟩⟩
        walk_at "ss"
        refine ⟨fd, _, rfl, .inl ⟨_, .inr s', e5 _ _ gf, rfl, Evl.sz_lt (by omega), rfl⟩, ?_⟩
        walk_at "ss"
        have hpl := putK_len kv (.inr s') (.str s'')
        exact ⟨⟨_, rfl⟩, Ex.mut (eG.trans e5) hfd, by rw [upd_ne nfl]; exact e5 _ _ gl, hlt, _, upd_same, by omega⟩
      · have : i = j := by omega
        subst this
        have : s' = s := by rw [hs] at hj; exact Option.some.inj hj
        subst this
        exact ⟨d, s', kvs, rfl, eG _ _ hd, .inr ⟨w0, hbad.up eG, fun x G5 hx5 e5 g5 => k x G5 (fresh_back eG hx5) (eG.trans e5) g5⟩⟩
    · rintro σ' G ⟨⟨v3, rfl⟩, eG, gl, hij, kv, gf, hkl⟩
      rw [List.length_map] at hij
      omega

/-! ### each once; mentions; tells; sorts -/
theorem FnOk_or {CX : CXT} {k : Nat} {f : Addr} {fd : FuncData} {ps : List Str} {sp sp' : Sp} (F : FnOk P w K mg base CX k f fd ps sp) (F' : FnOk P w K mg base CX k f fd ps sp') : FnOk P w K mg base CX k f fd ps (fun vs H Q E => sp vs H Q E ∨ sp' vs H Q E) :=
  ⟨fun vs H Q E h => h.elim (F.len vs H Q E) (F'.len vs H Q E), fun A outer s H args us vs Q E hr en b r h => h.elim (F.run A outer s H args us vs Q E hr en b r) (F'.run A outer s H args us vs Q E hr en b r)⟩
def sp_once_l : Sp := fun vs H Q _ => ∃ (a : Addr) (ns : List Str), vs = [.ref a] ∧ H a = some (.lst (ns.map V.str)) ∧ ns.length ≤ 5000 ∧ RetL ((once ns).map V.str) H Q
def sp_once_lT : Sp := fun vs H Q _ => ∃ (a : Addr) (ns : List Str), vs = [.ref a] ∧ H a = some (.tup (ns.map V.str)) ∧ ns.length ≤ 5000 ∧ RetL ((once ns).map V.str) H Q
theorem ok_once_l (T : Txt K mg Z) : FnOk P w K mg base CX0 1 Z.f_once_l Z.fd_once_l ["_law_names_here"] sp_once_l := by
  refine T.F_once_l.ok sc_once_l (fun vs H Q E h => ?_) (fun cdv AA outer s H vs Q E hr h => ?_)
  · obtain ⟨a, ns, rfl, _⟩ := h
    rfl
  · obtain ⟨a, ns, rfl, ha, hl, k⟩ := h
    refine ⟨_, (pss_cons (ps_set (i := 1) sc_once_l.nd rfl (Or.inl rfl) (pe_lst pa_nil))
      (pss_cons (ps_for PassesOwn.never rfl (pi_list (pv 0)) (pg_name (i := 2) sc_once_l.nd rfl (Or.inl rfl)) (pss_one (ps_if (pt_cmpR op_notIn_seq (pv 2) (pv 1) (by rfl)) (pss_one (ps_expr (pe_bm PySem.F.plainAttrs_list PySem.F.slot_list_append PySem.F.type_list_append mt_append (pv 1) (pa_cons (pv 2) pa_nil)))) pss_nil)))
      (pss_one (ps_ret (pv 1))))), ?_⟩
    walk_at "ss"
    refine newL fun f H1 hf e1 g1 => ?_
    have naf : a ≠ f := ne_of_none ha hf
    walk_at "ss"
    refine ⟨⟨_, SqL.of (e1 _ _ ha)⟩, forL (xs := ns.map V.str) (fun i σ' G => (∃ v2, σ' = [some (.ref a), some (.ref f), v2]) ∧ Ex H G ∧ G a = some (.lst (ns.map V.str)) ∧ G f = some (.lst ((once (ns.take i)).map V.str))) ⟨⟨_, rfl⟩, e1, e1 _ _ ha, g1⟩ (fun i σ' G _ q => SqL.of q.2.2.1) ?_ ?_⟩
    · rintro i x σ' G hx ⟨⟨v2, rfl⟩, eG, ga, gf⟩
      rw [List.getElem?_map] at hx
      obtain ⟨n, hn, rfl⟩ := Option.map_eq_some_iff.mp hx
      have hlen := once_len (ns.take i)
      have htl : (ns.take i).length ≤ 5000 := by rw [List.length_take]; omega
      have et : once (ns.take (i + 1)) = addN (once (ns.take i)) [n] := by
        rw [List.take_add_one, hn]
        exact once_app _ n
      walk_at "ss"
      refine c_notin (.inl (SqL.of gf)) rfl flat_strs ?_
      rw [inV_str]
      rw [addN_one] at et
      cases hc : (once (ns.take i)).contains n with
      | true =>
        rw [hc, if_pos rfl] at et
        walk_at "ss"
        exact ⟨⟨_, rfl⟩, eG, ga, by rw [et]; exact gf⟩
      | false =>
        rw [hc, if_neg (by decide)] at et
        walk_at "ss"
        refine ⟨.inl ⟨rfl, _, SqL.of gf⟩, ?_⟩
        walk_at "ss"
        refine ⟨f, _, _, rfl, rfl, gf, Evl.sz_lt (by rw [List.length_map]; omega), ?_⟩
        walk_at "ss"
        exact ⟨⟨_, rfl⟩, Ex.mut eG hf, by rw [upd_ne naf]; exact ga, by rw [upd_same, et, List.map_append] <;> rfl⟩
    · rintro σ' G ⟨⟨v2, rfl⟩, eG, ga, gf⟩
      rw [List.length_map, List.take_length] at gf
      walk_at "ss"
      exact k f G hf eG gf
theorem ok_once_lT (T : Txt K mg Z) : FnOk P w K mg base CX0 1 Z.f_once_l Z.fd_once_l ["_law_names_here"] sp_once_lT := by
  refine T.F_once_l.ok sc_once_l (fun vs H Q E h => ?_) (fun cdv AA outer s H vs Q E hr h => ?_)
  · obtain ⟨a, ns, rfl, _⟩ := h
    rfl
  · obtain ⟨a, ns, rfl, ha, hl, k⟩ := h
    refine ⟨_, (pss_cons (ps_set (i := 1) sc_once_l.nd rfl (Or.inl rfl) (pe_lst pa_nil))
      (pss_cons (ps_for PassesOwn.never rfl (pi_tup (pv 0)) (pg_name (i := 2) sc_once_l.nd rfl (Or.inl rfl)) (pss_one (ps_if (pt_cmpR op_notIn_seq (pv 2) (pv 1) (by rfl)) (pss_one (ps_expr (pe_bm PySem.F.plainAttrs_list PySem.F.slot_list_append PySem.F.type_list_append mt_append (pv 1) (pa_cons (pv 2) pa_nil)))) pss_nil)))
      (pss_one (ps_ret (pv 1))))), ?_⟩
    walk_at "ss"
    refine newL fun f H1 hf e1 g1 => ?_
    have naf : a ≠ f := ne_of_none ha hf
    walk_at "ss"
    refine ⟨⟨_, SqT.of (e1 _ _ ha)⟩, forT (xs := ns.map V.str) (fun i σ' G => (∃ v2, σ' = [some (.ref a), some (.ref f), v2]) ∧ Ex H G ∧ G a = some (.tup (ns.map V.str)) ∧ G f = some (.lst ((once (ns.take i)).map V.str))) ⟨⟨_, rfl⟩, e1, e1 _ _ ha, g1⟩ (fun i σ' G _ q => SqT.of q.2.2.1) ?_ ?_⟩
    · rintro i x σ' G hx ⟨⟨v2, rfl⟩, eG, ga, gf⟩
      rw [List.getElem?_map] at hx
      obtain ⟨n, hn, rfl⟩ := Option.map_eq_some_iff.mp hx
      have hlen := once_len (ns.take i)
      have htl : (ns.take i).length ≤ 5000 := by rw [List.length_take]; omega
      have et : once (ns.take (i + 1)) = addN (once (ns.take i)) [n] := by
        rw [List.take_add_one, hn]
        exact once_app _ n
      walk_at "ss"
      refine c_notin (.inl (SqL.of gf)) rfl flat_strs ?_
      rw [inV_str]
      rw [addN_one] at et
      cases hc : (once (ns.take i)).contains n with
      | true =>
        rw [hc, if_pos rfl] at et
        walk_at "ss"
        exact ⟨⟨_, rfl⟩, eG, ga, by rw [et]; exact gf⟩
      | false =>
        rw [hc, if_neg (by decide)] at et
        walk_at "ss"
        refine ⟨.inl ⟨rfl, _, SqL.of gf⟩, ?_⟩
        walk_at "ss"
        refine ⟨f, _, _, rfl, rfl, gf, Evl.sz_lt (by rw [List.length_map]; omega), ?_⟩
        walk_at "ss"
        exact ⟨⟨_, rfl⟩, Ex.mut eG hf, by rw [upd_ne naf]; exact ga, by rw [upd_same, et, List.map_append] <;> rfl⟩
    · rintro σ' G ⟨⟨v2, rfl⟩, eG, ga, gf⟩
      rw [List.length_map, List.take_length] at gf
      walk_at "ss"
      exact k f G hf eG gf
theorem vw_neS {k : Nat} : vword k ≠ "same" := by
  rcases vword_in k with e | e | e <;> (rw [e]; decide +kernel)
theorem vw_neC {k : Nat} : vword k ≠ "call" := by
  rcases vword_in k with e | e | e <;> (rw [e]; decide +kernel)
theorem vw_neW {k : Nat} : vword k ≠ "when" := by
  rcases vword_in k with e | e | e <;> (rw [e]; decide +kernel)
def sp_mentions_l : Sp := fun vs H Q _ => ∃ (r : Rw) (u : V), vs = [u] ∧ RowAt H r u ∧ r.good ∧ RetL (r.names.map V.str) H Q
theorem ok_mentions_l (T : Txt K mg Z)  : FnOk P w K mg base CX0 (10) Z.f_mentions_l Z.fd_mentions_l ["_law_row_here"] sp_mentions_l := by
  refine T.F_mentions_l.ok sc_mentions_l (fun vs H Q E h => ?_) (fun cdv AA outer s H vs Q E hr h => ?_)
  · obtain ⟨r, u, rfl, _⟩ := h
    rfl
  · obtain ⟨r, u, rfl, hr2, hg, k⟩ := h
    have G_term_names_l := okn_tnl (P := P) (w := w) (base := base) T 5
    have G_once_l := FnOk_or (ok_once_l (P := P) (w := w) (base := base) T) (ok_once_lT T)
    refine ⟨_, (pss_cons (ps_if (pt_cmpR op_eq (pe_ix ix_tup (pv 0) pe_int (fun _ _ => rfl)) pe_str (nomark _)) (pss_one (ps_ret (pe_call G_once_l (hr.mono (by omega)) rfl T.g_once_l T.F_once_l.kp T.b_once_l .nil pass0 (pa_cons (pe_call G_term_names_l (hr.mono (by omega)) rfl T.g_term_names_l T.F_term_names_l.kp T.b_term_names_l .nil pass0 (pa_cons (pe_ix ix_tup (pv 0) pe_int (fun _ _ => rfl)) pa_nil)) pa_nil)))) pss_nil)
      (pss_cons (ps_if (pt_cmpR op_eq (pe_ix ix_tup (pv 0) pe_int (fun _ _ => rfl)) pe_str (nomark _)) (pss_one (ps_ret (pe_call G_once_l (hr.mono (by omega)) rfl T.g_once_l T.F_once_l.kp T.b_once_l .nil pass0 (pa_cons (pe_ix ix_tup (pv 0) pe_int (fun _ _ => rfl)) pa_nil)))) pss_nil)
      (pss_cons (ps_if (pt_cmpR op_eq (pe_ix ix_tup (pv 0) pe_int (fun _ _ => rfl)) pe_str (nomark _)) (pss_one (ps_ret (pe_call G_once_l (hr.mono (by omega)) rfl T.g_once_l T.F_once_l.kp T.b_once_l .nil pass0 (pa_cons (pe_ix ix_tup (pv 0) pe_int (fun _ _ => rfl)) pa_nil)))) pss_nil)
      (pss_cons (ps_if (pt_cmpR op_eq (pe_ix ix_tup (pv 0) pe_int (fun _ _ => rfl)) pe_str (nomark _)) (pss_one (ps_ret (pe_call G_once_l (hr.mono (by omega)) rfl T.g_once_l T.F_once_l.kp T.b_once_l .nil pass0 (pa_cons (pe_slice sl_tup (pv 0) (po_some pe_int) po_none) pa_nil)))) pss_nil)
      (pss_one (ps_ret (pe_lst (pa_cons (pe_ix ix_tup (pv 0) pe_int (fun _ _ => rfl)) pa_nil)))))))), ?_⟩
    cases r with
    | pl n t =>
      obtain ⟨a, tw, rfl, ha, hw⟩ := hr2
      have h5 := hg.2.2
      walk_at "ss"
      refine c_ixT (SqT.of ha) rfl ?_
      walk_at "ss"
      refine if_tt (str_eq rfl) ?_
      walk_at "ss"
      refine c_ixT (SqT.of ha) rfl ?_
      walk_at "ss"
      refine ⟨t, tw, rfl, hw, hg.2.1, h5, by omega, fun p1 H1 hp1 e1 g1 => ?_⟩
      walk_at "ss"
      have := flat_729 (t := t) (by omega)
      refine .inl ⟨p1, t.flat, rfl, g1, by omega, ?_⟩
      rw [Tm.names_once]
      exact RetL.up k e1
    | vd kk n v x =>
      obtain ⟨a, rfl, ha⟩ := hr2
      walk_at "ss"
      refine c_ixT (SqT.of ha) rfl ?_
      walk_at "ss"
      refine if_ff (str_ne vw_ne) ?_
      walk_at "ss"
      refine c_ixT (SqT.of ha) rfl ?_
      walk_at "ss"
      refine if_ff (str_ne vw_neS) ?_
      walk_at "ss"
      refine c_ixT (SqT.of ha) rfl ?_
      walk_at "ss"
      refine if_ff (str_ne vw_neC) ?_
      walk_at "ss"
      refine c_ixT (SqT.of ha) rfl ?_
      walk_at "ss"
      refine if_ff (str_ne vw_neW) ?_
      walk_at "ss"
      refine c_ixT (SqT.of ha) rfl ?_
      walk_at "ss"
      exact newL k
    | wh n x y =>
      obtain ⟨a, rfl, ha⟩ := hr2
      walk_at "ss"
      refine c_ixT (SqT.of ha) rfl ?_
      walk_at "ss"
      refine if_ff (str_ne (by decide +kernel)) ?_
      walk_at "ss"
      refine c_ixT (SqT.of ha) rfl ?_
      walk_at "ss"
      refine if_ff (str_ne (by decide +kernel)) ?_
      walk_at "ss"
      refine c_ixT (SqT.of ha) rfl ?_
      walk_at "ss"
      refine if_ff (str_ne (by decide +kernel)) ?_
      walk_at "ss"
      refine c_ixT (SqT.of ha) rfl ?_
      walk_at "ss"
      refine if_tt (str_eq rfl) ?_
      walk_at "ss"
      refine ⟨a, _, rfl, SqT.of ha, fun z => absurd (show (2 : Nat) = 0 from z.1) (by decide), fun p2 hp2 => ?_⟩
      walk_at "ss"
      exact .inr ⟨p2, [x, y], rfl, upd_same, by simp, RetL.up k (Ex.new hp2)⟩
    | sm ns =>
      obtain ⟨a, p, rfl, ha, hp⟩ := hr2
      walk_at "ss"
      refine c_ixT (SqT.of ha) rfl ?_
      walk_at "ss"
      refine if_ff (str_ne (by decide +kernel)) ?_
      walk_at "ss"
      refine c_ixT (SqT.of ha) rfl ?_
      walk_at "ss"
      refine if_tt (str_eq rfl) ?_
      walk_at "ss"
      refine c_ixT (SqT.of ha) rfl ?_
      walk_at "ss"
      have := hg.2.1
      exact .inr ⟨p, ns, rfl, hp, by omega, k⟩
    | cl os nd xs =>
      obtain ⟨a, q, p, rfl, ha, hq, hp⟩ := hr2
      walk_at "ss"
      refine c_ixT (SqT.of ha) rfl ?_
      walk_at "ss"
      refine if_ff (str_ne (by decide +kernel)) ?_
      walk_at "ss"
      refine c_ixT (SqT.of ha) rfl ?_
      walk_at "ss"
      refine if_ff (str_ne (by decide +kernel)) ?_
      walk_at "ss"
      refine c_ixT (SqT.of ha) rfl ?_
      walk_at "ss"
      refine if_tt (str_eq rfl) ?_
      walk_at "ss"
      refine c_ixT (SqT.of ha) rfl ?_
      walk_at "ss"
      have := hg.2.2.2.2.2.1
      exact .inr ⟨p, xs, rfl, hp, by omega, k⟩
def sp_tells_l : Sp := fun vs H Q _ => ∃ (r : Rw) (u : V), vs = [u] ∧ RowAt H r u ∧ r.good ∧ RetL (r.tells.map V.str) H Q
theorem ok_tells_l (T : Txt K mg Z) : FnOk P w K mg base CX0 1 Z.f_tells_l Z.fd_tells_l ["_law_row_here"] sp_tells_l := by
  refine T.F_tells_l.ok sc_tells_l (fun vs H Q E h => ?_) (fun cdv AA outer s H vs Q E hr h => ?_)
  · obtain ⟨r, u, rfl, _⟩ := h
    rfl
  · obtain ⟨r, u, rfl, hr2, hg, k⟩ := h
    refine ⟨_, (pss_cons (ps_if (pt_cmpR op_eq (pe_ix ix_tup (pv 0) pe_int (fun _ _ => rfl)) pe_str (nomark _)) (pss_one (ps_ret (pe_lst pa_nil))) pss_nil)
      (pss_cons (ps_if (pt_cmpR op_eq (pe_ix ix_tup (pv 0) pe_int (fun _ _ => rfl)) pe_str (nomark _)) (pss_one (ps_ret (pe_callTy call_list_of (by rfl) T.n_list (by decide +kernel) (pa_cons (pe_ix ix_tup (pv 0) pe_int (fun _ _ => rfl)) pa_nil)))) pss_nil)
      (pss_one (ps_ret (pe_lst (pa_cons (pe_ix ix_tup (pv 0) pe_int (fun _ _ => rfl)) pa_nil)))))), ?_⟩
    cases r with
    | pl n t =>
      obtain ⟨a, tw, rfl, ha, hw⟩ := hr2
      walk_at "ss"
      refine c_ixT (SqT.of ha) rfl ?_
      walk_at "ss"
      refine if_ff (str_ne (by decide +kernel)) ?_
      walk_at "ss"
      refine c_ixT (SqT.of ha) rfl ?_
      walk_at "ss"
      refine if_ff (str_ne (by decide +kernel)) ?_
      walk_at "ss"
      refine c_ixT (SqT.of ha) rfl ?_
      walk_at "ss"
      exact newL k
    | vd kk n v x =>
      obtain ⟨a, rfl, ha⟩ := hr2
      walk_at "ss"
      refine c_ixT (SqT.of ha) rfl ?_
      walk_at "ss"
      refine if_ff (str_ne vw_neS) ?_
      walk_at "ss"
      refine c_ixT (SqT.of ha) rfl ?_
      walk_at "ss"
      refine if_ff (str_ne vw_neC) ?_
      walk_at "ss"
      refine c_ixT (SqT.of ha) rfl ?_
      walk_at "ss"
      exact newL k
    | wh n x y =>
      obtain ⟨a, rfl, ha⟩ := hr2
      walk_at "ss"
      refine c_ixT (SqT.of ha) rfl ?_
      walk_at "ss"
      refine if_ff (str_ne (by decide +kernel)) ?_
      walk_at "ss"
      refine c_ixT (SqT.of ha) rfl ?_
      walk_at "ss"
      refine if_ff (str_ne (by decide +kernel)) ?_
      walk_at "ss"
      refine c_ixT (SqT.of ha) rfl ?_
      walk_at "ss"
      exact newL k
    | sm ns =>
      obtain ⟨a, p, rfl, ha, hp⟩ := hr2
      walk_at "ss"
      refine c_ixT (SqT.of ha) rfl ?_
      walk_at "ss"
      refine if_tt (str_eq rfl) ?_
      walk_at "ss"
      exact newL k
    | cl os nd xs =>
      obtain ⟨a, q, p, rfl, ha, hq, hp⟩ := hr2
      walk_at "ss"
      refine c_ixT (SqT.of ha) rfl ?_
      walk_at "ss"
      refine if_ff (str_ne (by decide +kernel)) ?_
      walk_at "ss"
      refine c_ixT (SqT.of ha) rfl ?_
      walk_at "ss"
      refine if_tt (str_eq rfl) ?_
      walk_at "ss"
      refine c_ixT (SqT.of ha) rfl ?_
      walk_at "ss"
      refine ⟨q, _, rfl, .inr (SqT.of hq), fun l hl => ?_⟩
      exact k l _ hl (Ex.new hl) upd_same

/-! ### the law's own renaming -/
def sp_trn (n : Nat) : Sp := fun vs H Q _ => ∃ (t : Tm) (u : V) (d : Addr) (f : Str → Str), vs = [u, .ref d] ∧ ToldAt H t u ∧ t.good ∧ t.dep ≤ n ∧ DM H d f t.flat ∧ ∀ u' H2, Ex H H2 → ToldAt H2 (t.ren f) u' → Q u' H2
/-- what comes of each thing of a tuple -/
def RenOf (f : Str → Str) (G : Hp) (o : Option Tm) (v y : V) : Prop := match o with
  | some q => ToldAt G (q.ren f) y
  | none => y = v
theorem RenOf.nl {f : Str → Str} {G G2 : Hp} {o : Option Tm} {v y : V} (h : RenOf f G o v y) (e : NL G G2) : RenOf f G2 o v y := by
  cases o with
  | none => exact h
  | some q => exact ToldAt.keep (NL.tups e) h
theorem told_all {H : Hp} {t : Tm} {u : V} (h : ToldAt H t u) (hg : t.good) (hn : ∀ s, t ≠ .nm s) (hv : ∀ v, t ≠ .vl v) : ∃ (a : Addr) (w : Str) (xs : List V) (os : List (Option Tm)), u = .ref a ∧ H a = some (.tup (.str w :: xs)) ∧ w ≠ "name" ∧ w ≠ "value" ∧ xs.length ≤ 3 ∧ xs.length = os.length ∧
    (∀ (i : Nat) (v : V), xs[i]? = some v → ∃ o, os[i]? = some o ∧ Beh K H o v) ∧ (∀ q, some q ∈ os → q.good ∧ q.dep + 1 ≤ t.dep ∧ ∀ s ∈ q.flat, s ∈ t.flat) ∧
    ∀ (f : Str → Str) (G : Hp) (zs : List V) (p : Addr), zs.length = xs.length → (∀ (i : Nat) (y : V), zs[i]? = some y → ∃ o v, os[i]? = some o ∧ xs[i]? = some v ∧ RenOf f G o v y) → G p = some (.tup (.str w :: zs)) → ToldAt G (t.ren f) (.ref p) := by
  have i2 : ∀ {x y v : V} {o p : Option Tm}, Beh K H o x → Beh K H p y → ∀ i : Nat, ([x, y] : List V)[i]? = some v → ∃ z, ([o, p] : List (Option Tm))[i]? = some z ∧ Beh K H z v := by
    intro x y v o p h1 h2 i hv
    match i, hv with
    | 0, hv => cases hv; exact ⟨_, rfl, h1⟩
    | 1, hv => cases hv; exact ⟨_, rfl, h2⟩
  have i3 : ∀ {x y z v : V} {o p q : Option Tm}, Beh K H o x → Beh K H p y → Beh K H q z → ∀ i : Nat, ([x, y, z] : List V)[i]? = some v → ∃ r, ([o, p, q] : List (Option Tm))[i]? = some r ∧ Beh K H r v := by
    intro x y z v o p q h1 h2 h3 i hv
    match i, hv with
    | 0, hv => cases hv; exact ⟨_, rfl, h1⟩
    | 1, hv => cases hv; exact ⟨_, rfl, h2⟩
    | 2, hv => cases hv; exact ⟨_, rfl, h3⟩
  cases t with
  | nm s => exact absurd rfl (hn s)
  | vl v => exact absurd rfl (hv v)
  | two op p q =>
    obtain ⟨a, v1, v2, rfl, ha, h1, h2⟩ := h
    refine ⟨a, _, _, [none, some p, some q], rfl, ha, by decide +kernel, by decide +kernel, by simp, rfl, fun i v hv => i3 (o := none) (p := some p) (q := some q) (.inl ⟨_, rfl⟩) h1 h2 i hv, fun z hz => ?_, fun f G zs pp hl hz hG => ?_⟩
    · simp only [List.mem_cons, reduceCtorEq, Option.some.injEq, List.not_mem_nil, or_false, false_or] at hz
      rcases hz with rfl | rfl
      · exact ⟨hg.2.1, Tm.dep_part (by simp [Tm.parts]), fun s hs => List.mem_append_left _ hs⟩
      · exact ⟨hg.2.2, Tm.dep_part (by simp [Tm.parts]), fun s hs => List.mem_append_right _ hs⟩
    · match zs, hl with
      | [y0, y1, y2], _ =>
        obtain ⟨o0, w0, e0, f0, r0⟩ := hz 0 y0 rfl
        obtain ⟨o1, w1, e1, f1, r1⟩ := hz 1 y1 rfl
        obtain ⟨o2, w2, e2, f2, r2⟩ := hz 2 y2 rfl
        cases e0; cases e1; cases e2; cases f0
        have : y0 = .str op := r0
        subst this
        exact ⟨pp, _, _, rfl, hG, r1, r2⟩
  | nt p =>
    obtain ⟨a, v1, rfl, ha, h1⟩ := h
    refine ⟨a, _, _, [some p], rfl, ha, by decide +kernel, by decide +kernel, by simp, rfl, fun i v hv => ?_, fun z hz => ?_, fun f G zs pp hl hz hG => ?_⟩
    · match i, hv with
      | 0, hv => cases hv; exact ⟨some p, rfl, h1⟩
    · simp only [List.mem_cons, Option.some.injEq, List.not_mem_nil, or_false] at hz
      subst hz
      exact ⟨hg, Tm.dep_part (by simp [Tm.parts]), fun s hs => hs⟩
    · match zs, hl with
      | [y0], _ =>
        obtain ⟨o0, w0, e0, f0, r0⟩ := hz 0 y0 rfl
        cases e0
        exact ⟨pp, _, rfl, hG, r0⟩
  | pk c p q =>
    obtain ⟨a, v0, v1, v2, rfl, ha, h0, h1, h2⟩ := h
    refine ⟨a, _, _, [some c, some p, some q], rfl, ha, by decide +kernel, by decide +kernel, by simp, rfl, fun i v hv => i3 (o := some c) (p := some p) (q := some q) h0 h1 h2 i hv, fun z hz => ?_, fun f G zs pp hl hz hG => ?_⟩
    · simp only [List.mem_cons, Option.some.injEq, List.not_mem_nil, or_false] at hz
      rcases hz with rfl | rfl | rfl
      · exact ⟨hg.1, Tm.dep_part (by simp [Tm.parts]), fun s hs => List.mem_append_left _ (List.mem_append_left _ hs)⟩
      · exact ⟨hg.2.1, Tm.dep_part (by simp [Tm.parts]), fun s hs => List.mem_append_left _ (List.mem_append_right _ hs)⟩
      · exact ⟨hg.2.2, Tm.dep_part (by simp [Tm.parts]), fun s hs => List.mem_append_right _ hs⟩
    · match zs, hl with
      | [y0, y1, y2], _ =>
        obtain ⟨o0, w0, e0, f0, r0⟩ := hz 0 y0 rfl
        obtain ⟨o1, w1, e1, f1, r1⟩ := hz 1 y1 rfl
        obtain ⟨o2, w2, e2, f2, r2⟩ := hz 2 y2 rfl
        cases e0; cases e1; cases e2
        exact ⟨pp, _, _, _, rfl, hG, r0, r1, r2⟩
theorem ok_term_renamed_l (T : Txt K mg Z) {n : Nat} (G_term_renamed_l : FnOk P w K mg base CX0 (n + 1) Z.f_term_renamed_l Z.fd_term_renamed_l ["_law_term_here", "_law_calls_here"] (sp_trn n)) : FnOk P w K mg base CX0 (n + 2) Z.f_term_renamed_l Z.fd_term_renamed_l ["_law_term_here", "_law_calls_here"] (sp_trn (n + 1)) := by
  refine T.F_term_renamed_l.ok sc_term_renamed_l (fun vs H Q E h => ?_) (fun cdv AA outer s H vs Q E hr h => ?_)
  · obtain ⟨t, u, d, f, rfl, _⟩ := h
    rfl
  · obtain ⟨t, u, d, f, rfl, ht, hg, hd, hD, k⟩ := h
    refine ⟨_, (pss_cons (ps_if (pt_cmpR op_eq (pe_ix ix_tup (pv 0) pe_int (fun _ _ => rfl)) pe_str (nomark _)) (pss_one (ps_ret (pe_tup (pa_cons pe_str (pa_cons (pe_dget (hu_of hr) (pv 1) (pe_ix ix_tup (pv 0) pe_int (fun _ _ => rfl)) (fun _ _ => rfl)) pa_nil))))) pss_nil)
      (pss_cons (ps_if (pt_cmpR op_eq (pe_ix ix_tup (pv 0) pe_int (fun _ _ => rfl)) pe_str (nomark _)) (pss_one (ps_ret (pv 0))) pss_nil)
      (pss_one (ps_ret (pe_callTy call_tuple_of (by rfl) T.n_tuple (by decide +kernel) (pa_cons (pe_lc (own := [("_law_part", 2)]) (g := (gName 2)) (tt := tYes) (te := (tIf (tB (tCB (rIsi K) (tCons (tVar 2) (tCons (tC (.ty "tuple")) tNil)))) (tCall (sp_trn n) [] E0 (tCons (tVar 2) (tCons (tVar 1) tNil))) (tVar 2))) rfl sc_term_renamed_l.nd (pi_tup (pv 0)) (blkOk_by (own := [("_law_part", 2)]) (N := N_term_renamed_l) (sc := defScope s_term_renamed_l) (by decide +kernel)) (fun _ _ _ _ _ => (pg_name (i := 2) sc_term_renamed_l.nd rfl (Or.inl rfl))) (fun _ _ _ _ _ => pts_nil) (fun _ _ _ _ _ => (pe_ifExp (pt_val (pe_callB call_isi (by rfl) T.n_isinstance (by decide +kernel) (pa_cons (pv 2) (pa_cons (pe_bltn (v := .ty "tuple") (by rfl) T.n_tuple (by decide +kernel) rfl) pa_nil)))) (pe_call G_term_renamed_l (hr.mono (by omega)) rfl T.g_term_renamed_l T.F_term_renamed_l.kp T.b_term_renamed_l .nil pass0 (pa_cons (pv 2) (pa_cons (pv 1) pa_nil))) (pv 2)))) pa_nil)))))), ?_⟩
    by_cases hn : ∃ s, t = .nm s
    · obtain ⟨s, rfl⟩ := hn
      obtain ⟨a, rfl, ha⟩ := ht
      walk_at "ss"
      refine c_ixT (SqT.of ha) rfl ?_
      walk_at "ss"
      rw [str_eq rfl]
      walk_at "ss"
      refine c_ixT (SqT.of ha) rfl ?_
      walk_at "ss"
      refine ⟨d, _, rfl, hD.get (by simp [Tm.flat]), ?_⟩
      walk_at "ss"
      exact newT fun p H2 hp e2 g2 => k _ _ e2 ⟨p, rfl, g2⟩
    · by_cases hv : ∃ v, t = .vl v
      · obtain ⟨v, rfl⟩ := hv
        have ht' := ht
        obtain ⟨a, rfl, ha⟩ := ht
        walk_at "ss"
        refine c_ixT (SqT.of ha) rfl ?_
        walk_at "ss"
        rw [str_ne (by decide +kernel)]
        walk_at "ss"
        refine c_ixT (SqT.of ha) rfl ?_
        walk_at "ss"
        rw [str_eq rfl]
        walk_at "ss"
        exact k _ _ (Ex.refl _) ht'
      · have hn' : ∀ s, t ≠ .nm s := fun s e => hn ⟨s, e⟩
        have hv' : ∀ v, t ≠ .vl v := fun v e => hv ⟨v, e⟩
        obtain ⟨a, w0, xs, os, rfl, ha, hw1, hw2, hx3, hxo, hbeh, hq, hmake⟩ := told_all (K := K) ht hg hn' hv'
        walk_at "ss"
        refine c_ixT (SqT.of ha) at_hd ?_
        walk_at "ss"
        rw [str_ne hw1]
        walk_at "ss"
        refine c_ixT (SqT.of ha) at_hd ?_
        walk_at "ss"
        rw [str_ne hw2]
        walk_at "ss"
        refine ⟨⟨_, SqT.of ha⟩, lcTN (fun i y G => ∃ o v, (none :: os)[i]? = some o ∧ (V.str w0 :: xs)[i]? = some v ∧ RenOf f G o v y) (fun i y G G2 en ⟨o, v, h1, h2, h3⟩ => ⟨o, v, h1, h2, h3.nl en⟩) (SqT.of ha) (by simp; omega) (fun i x hx H3 e3 R N hR => ?_) ?_⟩
        · have hb : ∃ o, (none :: os)[i]? = some o ∧ Beh K H o x := by
            cases i with
            | zero => exact ⟨none, rfl, .inl ⟨w0, by simpa using hx.symm⟩⟩
            | succ i =>
              rw [List.getElem?_cons_succ] at hx
              obtain ⟨o, h1, h2⟩ := hbeh i x hx
              exact ⟨o, by rw [List.getElem?_cons_succ]; exact h1, h2⟩
          obtain ⟨o, ho, hox⟩ := hb
          walk_at "ss"
          cases o with
          | none =>
            have hty : ∃ n : String, TyX K H3 x (.type n) ∧ kitB n "tuple" = some false := by
              rcases hox with ⟨s, rfl⟩ | h
              · exact ⟨_, ty_str s, kb_st⟩
              · cases x with
                | bl b => exact ⟨_, ty_bl b, kb_bt⟩
                | int i => exact ⟨_, ty_int i, kb_it⟩
                | _ => exact absurd h Bool.false_ne_true
            obtain ⟨nm, ty, kb⟩ := hty
            refine isi ty kb ?_
            walk_at "ss"
            exact hR _ _ (Ex.refl _) ⟨none, x, ho, hx, rfl⟩
          | some q =>
            have hqx : ToldAt H3 q x := ToldAt.up hox e3
            obtain ⟨a3, xs3, rfl, ha3⟩ := Told_tup hqx
            have hmem : some q ∈ os := by
              cases i with
              | zero => cases ho
              | succ i => rw [List.getElem?_cons_succ] at ho; exact List.mem_of_getElem? ho
            obtain ⟨q1, q2, q3⟩ := hq q hmem
            refine isi (ty_tup ha3) kb_tt ?_
            walk_at "ss"
            refine ⟨q, _, d, f, rfl, hqx, q1, by omega, (hD.up e3).sub q3, fun u' H4 e4 t4 => ?_⟩
            exact hR _ _ e4 ⟨some q, _, ho, hx, t4⟩
        intro ys lp H3 hyl hys hlp e3 g3
        walk_at "ss"
        refine ⟨lp, _, rfl, .inl ⟨SqL.of g3, fun p4 hp4 => ?_⟩⟩
        have e4 := Ex.new (H := H3) (p := p4) (o := .tup ys) hp4
        have g4 : upd H3 p4 (.tup ys) p4 = some (.tup ys) := upd_same
        refine k _ _ (e3.trans e4) ?_
        cases ys with
        | nil => simp at hyl
        | cons y0 zs =>
          obtain ⟨o0, v0, h1, h2, h3⟩ := hys 0 y0 rfl
          cases h1
          have hy0 : y0 = .str w0 := by
            have : y0 = v0 := h3
            rw [this]
            simpa using h2.symm
          subst hy0
          refine hmake f _ zs p4 (by simpa using hyl) (fun i y hy => ?_) g4
          obtain ⟨o, v, h1, h2, h3⟩ := hys (i + 1) y (by rw [List.getElem?_cons_succ]; exact hy)
          exact ⟨o, v, by rw [List.getElem?_cons_succ] at h1; exact h1, by rw [List.getElem?_cons_succ] at h2; exact h2, h3.nl (NL.of e4)⟩
theorem okn_trn (T : Txt K mg Z) : ∀ n, FnOk P w K mg base CX0 (n + 1) Z.f_term_renamed_l Z.fd_term_renamed_l ["_law_term_here", "_law_calls_here"] (sp_trn n)
  | 0 => ⟨fun vs H Q E ⟨t, u, d, f, e, _⟩ => by rw [e]; rfl, fun _ _ _ _ _ _ _ _ _ _ _ _ _ ⟨t, u, d, f, _, _, _, h1, _⟩ => by have := t.dep_pos; omega⟩
  | n + 1 => ok_term_renamed_l T (okn_trn T n)

/-! ### the law's own rows renamed -/
def sp_renamed_l : Sp := fun vs H Q _ => ∃ (r : Rw) (u : V) (d : Addr) (f : Str → Str), vs = [u, .ref d] ∧ RowAt H r u ∧ r.good ∧ DM H d f r.all ∧ ∀ u' H2, Ex H H2 → RowAt H2 (r.ren f) u' → Q u' H2
theorem ok_renamed_l (T : Txt K mg Z)  : FnOk P w K mg base CX0 (8) Z.f_renamed_l Z.fd_renamed_l ["_law_row_here", "_law_calls_here"] sp_renamed_l := by
  refine T.F_renamed_l.ok sc_renamed_l (fun vs H Q E h => ?_) (fun cdv AA outer s H vs Q E hr h => ?_)
  · obtain ⟨r, u, d, f, rfl, _⟩ := h
    rfl
  · obtain ⟨r, u, d, f, rfl, hr2, hg, hD, k⟩ := h
    have G_term_renamed_l := okn_trn (P := P) (w := w) (base := base) T 5
    have e0 : Ex H H := Ex.refl _
    refine ⟨_, (pss_cons (ps_if (pt_cmpR op_eq (pe_ix ix_tup (pv 0) pe_int (fun _ _ => rfl)) pe_str (nomark _)) (pss_one (ps_ret (pe_tup (pa_cons pe_str (pa_cons (pe_dget (hu_of hr) (pv 1) (pe_ix ix_tup (pv 0) pe_int (fun _ _ => rfl)) (fun _ _ => rfl)) (pa_cons (pe_call G_term_renamed_l (hr.mono (by omega)) rfl T.g_term_renamed_l T.F_term_renamed_l.kp T.b_term_renamed_l .nil pass0 (pa_cons (pe_ix ix_tup (pv 0) pe_int (fun _ _ => rfl)) (pa_cons (pv 1) pa_nil))) pa_nil)))))) pss_nil)
      (pss_cons (ps_if (pt_cmpR op_eq (pe_ix ix_tup (pv 0) pe_int (fun _ _ => rfl)) pe_str (nomark _)) (pss_one (ps_ret (pe_tup (pa_cons pe_str (pa_cons (pe_callTy call_tuple_of (by rfl) T.n_tuple (by decide +kernel) (pa_cons (pe_lc (own := [("_law_name", 2)]) (g := (gName 2)) (tt := tYes) (te := (tDGet (tVar 1) (tVar 2))) rfl sc_renamed_l.nd (pi_tup (pe_ix ix_tup (pv 0) pe_int (fun _ _ => rfl))) (blkOk_by (own := [("_law_name", 2)]) (N := N_renamed_l) (sc := defScope s_renamed_l) (by decide +kernel)) (fun _ _ _ _ _ => (pg_name (i := 2) sc_renamed_l.nd rfl (Or.inl rfl))) (fun _ _ _ _ _ => pts_nil) (fun _ _ _ _ _ => (pe_dget (hu_of hr) (pv 1) (pv 2) (fun _ _ => rfl)))) pa_nil)) pa_nil))))) pss_nil)
      (pss_cons (ps_if (pt_cmpR op_eq (pe_ix ix_tup (pv 0) pe_int (fun _ _ => rfl)) pe_str (nomark _)) (pss_cons (ps_set (i := 3) sc_renamed_l.nd rfl (Or.inl rfl) (pe_callTy call_tuple_of (by rfl) T.n_tuple (by decide +kernel) (pa_cons (pe_lc (own := [("_law_name", 2)]) (g := (gName 2)) (tt := tYes) (te := (tDGet (tVar 1) (tVar 2))) rfl sc_renamed_l.nd (pi_tup (pe_ix ix_tup (pv 0) pe_int (fun _ _ => rfl))) (blkOk_by (own := [("_law_name", 2)]) (N := N_renamed_l) (sc := defScope s_renamed_l) (by decide +kernel)) (fun _ _ _ _ _ => (pg_name (i := 2) sc_renamed_l.nd rfl (Or.inl rfl))) (fun _ _ _ _ _ => pts_nil) (fun _ _ _ _ _ => (pe_dget (hu_of hr) (pv 1) (pv 2) (fun _ _ => rfl)))) pa_nil)))
      (pss_one (ps_ret (pe_tup (pa_cons pe_str (pa_cons (pv 3) (pa_cons (pe_ix ix_tup (pv 0) pe_int (fun _ _ => rfl)) (pa_cons (pe_callTy call_tuple_of (by rfl) T.n_tuple (by decide +kernel) (pa_cons (pe_lc (own := [("_law_name", 2)]) (g := (gName 2)) (tt := tYes) (te := (tDGet (tVar 1) (tVar 2))) rfl sc_renamed_l.nd (pi_tup (pe_ix ix_tup (pv 0) pe_int (fun _ _ => rfl))) (blkOk_by (own := [("_law_name", 2)]) (N := N_renamed_l) (sc := defScope s_renamed_l) (by decide +kernel)) (fun _ _ _ _ _ => (pg_name (i := 2) sc_renamed_l.nd rfl (Or.inl rfl))) (fun _ _ _ _ _ => pts_nil) (fun _ _ _ _ _ => (pe_dget (hu_of hr) (pv 1) (pv 2) (fun _ _ => rfl)))) pa_nil)) pa_nil)))))))) pss_nil)
      (pss_cons (ps_if (pt_cmpR op_eq (pe_ix ix_tup (pv 0) pe_int (fun _ _ => rfl)) pe_str (nomark _)) (pss_one (ps_ret (pe_tup (pa_cons pe_str (pa_cons (pe_dget (hu_of hr) (pv 1) (pe_ix ix_tup (pv 0) pe_int (fun _ _ => rfl)) (fun _ _ => rfl)) (pa_cons (pe_dget (hu_of hr) (pv 1) (pe_ix ix_tup (pv 0) pe_int (fun _ _ => rfl)) (fun _ _ => rfl)) (pa_cons (pe_dget (hu_of hr) (pv 1) (pe_ix ix_tup (pv 0) pe_int (fun _ _ => rfl)) (fun _ _ => rfl)) pa_nil))))))) pss_nil)
      (pss_one (ps_ret (pe_tup (pa_cons (pe_ix ix_tup (pv 0) pe_int (fun _ _ => rfl)) (pa_cons (pe_dget (hu_of hr) (pv 1) (pe_ix ix_tup (pv 0) pe_int (fun _ _ => rfl)) (fun _ _ => rfl)) (pa_cons (pe_ix ix_tup (pv 0) pe_int (fun _ _ => rfl)) (pa_cons (pe_dget (hu_of hr) (pv 1) (pe_ix ix_tup (pv 0) pe_int (fun _ _ => rfl)) (fun _ _ => rfl)) pa_nil))))))))))), ?_⟩
    cases hr0 : r with
    | pl n t =>
    subst hr0
    obtain ⟨b, tw, rfl, hb, hw⟩ := hr2
    have hn : n ∈ (Rw.pl n t).all := by simp [Rw.all, Rw.tells]
    have h5 := hg.2.2
    walk_at "ss"
    refine c_ixT (SqT.of hb) rfl ?_
    walk_at "ss"
    refine if_tt (str_eq rfl) ?_
    walk_at "ss"
    refine c_ixT (SqT.of hb) rfl ?_
    walk_at "ss"
    refine ⟨d, _, rfl, hD.get hn, ?_⟩
    walk_at "ss"
    refine c_ixT (SqT.of hb) rfl ?_
    walk_at "ss"
    refine ⟨t, tw, d, f, rfl, hw, hg.2.1, h5, hD.sub (fun s hs => List.mem_append_right _ (flat_names hs)), fun u2 H2 e2 t2 => ?_⟩
    walk_at "ss"
    exact newT fun p3 H3 hp3 e3 g3 => k _ _ (e2.trans e3) ⟨p3, _, rfl, g3, t2.up e3⟩
    | vd kk n w0 x =>
    subst hr0
    obtain ⟨b, rfl, hb⟩ := hr2
    have hn : n ∈ (Rw.vd kk n w0 x).all := by simp [Rw.all, Rw.tells]
    have hx : x ∈ (Rw.vd kk n w0 x).all := by simp [Rw.all, Rw.names]
    walk_at "ss"
    refine c_ixT (SqT.of hb) rfl ?_
    walk_at "ss"
    refine if_ff (str_ne vw_ne) ?_
    walk_at "ss"
    refine c_ixT (SqT.of hb) rfl ?_
    walk_at "ss"
    refine if_ff (str_ne vw_neS) ?_
    walk_at "ss"
    refine c_ixT (SqT.of hb) rfl ?_
    walk_at "ss"
    refine if_ff (str_ne vw_neC) ?_
    walk_at "ss"
    refine c_ixT (SqT.of hb) rfl ?_
    walk_at "ss"
    refine if_ff (str_ne vw_neW) ?_
    walk_at "ss"
    refine c_ixT (SqT.of hb) rfl ?_
    walk_at "ss"
    refine c_ixT (SqT.of hb) rfl ?_
    walk_at "ss"
    refine ⟨d, _, rfl, hD.get hn, ?_⟩
    walk_at "ss"
    refine c_ixT (SqT.of hb) rfl ?_
    walk_at "ss"
    refine c_ixT (SqT.of hb) rfl ?_
    walk_at "ss"
    refine ⟨d, _, rfl, hD.get hx, ?_⟩
    walk_at "ss"
    exact newT fun p3 H3 hp3 e3 g3 => k _ _ e3 ⟨p3, rfl, g3⟩
    | wh n x y =>
    subst hr0
    obtain ⟨b, rfl, hb⟩ := hr2
    have hn : n ∈ (Rw.wh n x y).all := by simp [Rw.all, Rw.tells]
    have hx : x ∈ (Rw.wh n x y).all := List.mem_append_right _ (once_sub (by simp))
    have hy : y ∈ (Rw.wh n x y).all := List.mem_append_right _ (once_sub (by simp))
    walk_at "ss"
    refine c_ixT (SqT.of hb) rfl ?_
    walk_at "ss"
    refine if_ff (str_ne (by decide +kernel)) ?_
    walk_at "ss"
    refine c_ixT (SqT.of hb) rfl ?_
    walk_at "ss"
    refine if_ff (str_ne (by decide +kernel)) ?_
    walk_at "ss"
    refine c_ixT (SqT.of hb) rfl ?_
    walk_at "ss"
    refine if_ff (str_ne (by decide +kernel)) ?_
    walk_at "ss"
    refine c_ixT (SqT.of hb) rfl ?_
    walk_at "ss"
    refine if_tt (str_eq rfl) ?_
    walk_at "ss"
    refine c_ixT (SqT.of hb) rfl ?_
    walk_at "ss"
    refine ⟨d, _, rfl, hD.get hn, ?_⟩
    walk_at "ss"
    refine c_ixT (SqT.of hb) rfl ?_
    walk_at "ss"
    refine ⟨d, _, rfl, hD.get hx, ?_⟩
    walk_at "ss"
    refine c_ixT (SqT.of hb) rfl ?_
    walk_at "ss"
    refine ⟨d, _, rfl, hD.get hy, ?_⟩
    walk_at "ss"
    exact newT fun p3 H3 hp3 e3 g3 => k _ _ e3 ⟨p3, rfl, g3⟩
    | sm ns =>
    subst hr0
    obtain ⟨b, p, rfl, hb, hp⟩ := hr2
    have hl := hg.2.1
    have hall : ∀ s ∈ ns, s ∈ (Rw.sm ns).all := fun s hs => List.mem_append_right _ (once_sub hs)
    walk_at "ss"
    refine c_ixT (SqT.of hb) rfl ?_
    walk_at "ss"
    refine if_ff (str_ne (by decide +kernel)) ?_
    walk_at "ss"
    refine c_ixT (SqT.of hb) rfl ?_
    walk_at "ss"
    refine if_tt (str_eq rfl) ?_
    walk_at "ss"
    refine c_ixT (SqT.of hb) rfl ?_
    refine ⟨p, rfl, ⟨_, SqT.of hp⟩, lcT (fun i => (ns[i]?).bind fun s => some (.str (f s))) (SqT.of hp) (by rw [List.length_map]; omega) (fun i x hx => ?_) ?_⟩
    · rw [List.getElem?_map] at hx
      obtain ⟨s, hs, rfl⟩ := Option.map_eq_some_iff.mp hx
      intro H9 e9 R hR
      walk_at "ss"
      refine ⟨d, _, rfl, (hD.up (e0.trans e9)).get (hall s (List.mem_of_getElem? hs)), ?_⟩
      rw [hs] at hR
      exact hR _ (Ex.refl _)
    rw [List.length_map, fm_range, fm_some]
    intro l3 A3 hl3 c3 m3
    have M3 : A3 l3 = some (.lst ((ns.map f).map V.str)) := by rw [m3, List.map_map]; rfl
    walk_at "ss"
    refine ⟨l3, _, rfl, .inl ⟨SqL.of M3, fun q3 hq3 => ?_⟩⟩
    have c3' := Ex.new (H := A3) (p := q3) (o := .tup ((ns.map f).map V.str)) hq3
    have m3' : upd A3 q3 (.tup ((ns.map f).map V.str)) q3 = some (.tup ((ns.map f).map V.str)) := upd_same
    generalize upd A3 q3 (.tup ((ns.map f).map V.str)) = B3 at c3' m3'
    walk_at "ss"
    exact newT fun p4 H4 hp4 e4 g4 => k _ _ (c3.trans (c3'.trans e4)) ⟨p4, q3, rfl, g4, e4 _ _ m3'⟩
    | cl os nd xs =>
    subst hr0
    obtain ⟨b, p, q, rfl, hb, hp, hq⟩ := hr2
    have hl1 := hg.2.1
    have hl2 := hg.2.2.2.2.2.1
    have hall : ∀ s ∈ os, s ∈ (Rw.cl os nd xs).all := fun s hs => List.mem_append_left _ hs
    have hall2 : ∀ s ∈ xs, s ∈ (Rw.cl os nd xs).all := fun s hs => List.mem_append_right _ (once_sub hs)
    walk_at "ss"
    refine c_ixT (SqT.of hb) rfl ?_
    walk_at "ss"
    refine if_ff (str_ne (by decide +kernel)) ?_
    walk_at "ss"
    refine c_ixT (SqT.of hb) rfl ?_
    walk_at "ss"
    refine if_ff (str_ne (by decide +kernel)) ?_
    walk_at "ss"
    refine c_ixT (SqT.of hb) rfl ?_
    walk_at "ss"
    refine if_tt (str_eq rfl) ?_
    walk_at "ss"
    refine c_ixT (SqT.of hb) rfl ?_
    refine ⟨p, rfl, ⟨_, SqT.of hp⟩, lcT (fun i => (os[i]?).bind fun s => some (.str (f s))) (SqT.of hp) (by rw [List.length_map]; omega) (fun i x hx => ?_) ?_⟩
    · rw [List.getElem?_map] at hx
      obtain ⟨s, hs, rfl⟩ := Option.map_eq_some_iff.mp hx
      intro H9 e9 R hR
      walk_at "ss"
      refine ⟨d, _, rfl, (hD.up (e0.trans e9)).get (hall s (List.mem_of_getElem? hs)), ?_⟩
      rw [hs] at hR
      exact hR _ (Ex.refl _)
    rw [List.length_map, fm_range, fm_some]
    intro l3 A3 hl3 c3 m3
    have M3 : A3 l3 = some (.lst ((os.map f).map V.str)) := by rw [m3, List.map_map]; rfl
    walk_at "ss"
    refine ⟨l3, _, rfl, .inl ⟨SqL.of M3, fun q3 hq3 => ?_⟩⟩
    have c3' := Ex.new (H := A3) (p := q3) (o := .tup ((os.map f).map V.str)) hq3
    have m3' : upd A3 q3 (.tup ((os.map f).map V.str)) q3 = some (.tup ((os.map f).map V.str)) := upd_same
    generalize upd A3 q3 (.tup ((os.map f).map V.str)) = B3 at c3' m3'
    have e3 := c3.trans c3'
    walk_at "ss"
    refine c_ixT (SqT.of (e3 _ _ hb)) rfl ?_
    walk_at "ss"
    refine c_ixT (SqT.of (e3 _ _ hb)) rfl ?_
    refine ⟨q, rfl, ⟨_, SqT.of (e3 _ _ hq)⟩, lcT (fun i => (xs[i]?).bind fun s => some (.str (f s))) (SqT.of (e3 _ _ hq)) (by rw [List.length_map]; omega) (fun i x hx => ?_) ?_⟩
    · rw [List.getElem?_map] at hx
      obtain ⟨s, hs, rfl⟩ := Option.map_eq_some_iff.mp hx
      intro H9 e9 R hR
      walk_at "ss"
      refine ⟨d, _, rfl, (hD.up (e3.trans e9)).get (hall2 s (List.mem_of_getElem? hs)), ?_⟩
      rw [hs] at hR
      exact hR _ (Ex.refl _)
    rw [List.length_map, fm_range, fm_some]
    intro l4 A4 hl4 c4 m4
    have M4 : A4 l4 = some (.lst ((xs.map f).map V.str)) := by rw [m4, List.map_map]; rfl
    walk_at "ss"
    refine ⟨l4, _, rfl, .inl ⟨SqL.of M4, fun q4 hq4 => ?_⟩⟩
    have c4' := Ex.new (H := A4) (p := q4) (o := .tup ((xs.map f).map V.str)) hq4
    have m4' : upd A4 q4 (.tup ((xs.map f).map V.str)) q4 = some (.tup ((xs.map f).map V.str)) := upd_same
    generalize upd A4 q4 (.tup ((xs.map f).map V.str)) = B4 at c4' m4'
    walk_at "ss"
    exact newT fun p5 H5 hp5 e5 g5 => k _ _ (e3.trans (c4.trans (c4'.trans e5))) ⟨p5, q3, q4, rfl, g5, e5 _ _ (c4' _ _ (c4 _ _ m3')), e5 _ _ m4'⟩
/-! ### the law's dict of new names -/
/-- keys of ns, values good names -/
def CallsOk (kv : List (Key × V)) (ns : List Str) : Prop := (∀ s ∈ ns, ∃ s', valV kv (.inr s) = some (.str s') ∧ goodN s') ∧ ∀ p ∈ kv, ∃ s s', p = (.inr s, .str s') ∧ s ∈ ns ∧ goodN s'
theorem putK_nodup {kvs : List (Key × V)} {k : Key} {v : V} (h : (kvs.map (·.1)).Nodup) : ((putK kvs k v).map (·.1)).Nodup := by
  unfold putK
  cases ha : (kvs.any fun kv => decide (kv.1 = k)) with
  | true =>
    rw [if_pos rfl, List.map_map]
    refine (?_ : List.map _ kvs = kvs.map (·.1)) ▸ h
    refine List.map_congr_left fun p _ => ?_
    dsimp only [Function.comp]
    split <;> simp_all
  | false =>
    rw [if_neg (by decide), List.map_append, List.nodup_append]
    refine ⟨h, by simp, fun a ha2 b hb => ?_⟩
    obtain ⟨p, hp, rfl⟩ := List.mem_map.mp ha2
    have : b = k := by simpa using hb
    subst this
    intro he
    have : (kvs.any fun kv => decide (kv.1 = b)) = true := List.any_eq_true.mpr ⟨p, hp, by simpa using he⟩
    rw [ha] at this
    cases this
theorem putK_mem {kvs : List (Key × V)} {k : Key} {v : V} {p : Key × V} (h : p ∈ putK kvs k v) : p ∈ kvs ∨ p = (k, v) := by
  unfold putK at h
  split at h
  · obtain ⟨q, hq, e⟩ := List.mem_map.mp h
    split at e
    · rename_i hk
      right
      rw [← e, hk]
    · left
      rw [← e]; exact hq
  · rcases List.mem_append.mp h with h | h
    · exact .inl h
    · exact .inr (by simpa using h)
def sp_calls_l : Sp := fun vs H Q _ => ∃ (b nl : Addr) (ns : List Str), vs = [.ref b, .ref nl] ∧ BoxAt H b ∧ H nl = some (.lst (ns.map V.str)) ∧ (∀ s ∈ ns, goodN s) ∧ 0 < ns.length ∧ ns.length ≤ 11 ∧ ∀ cd kv H2, CallsOk kv ns → (kv.map (·.1)).Nodup → kv.length ≤ 11 → H cd = none → ExB b H H2 → BoxAt H2 b → H2 cd = some (.dK kv) → Q (.ref cd) H2
theorem ok_calls_l (T : Txt K mg Z) : FnOk P w K mg base CX0 3 Z.f_calls_l Z.fd_calls_l ["_law_box_here", "_law_names_here"] sp_calls_l := by
  have G_take_l := ok_take_l (P := P) (w := w) (base := base) T
  have G_names_l := ok_names_l (P := P) (w := w) (base := base) T
  refine T.F_calls_l.ok sc_calls_l (fun vs H Q E h => ?_) (fun cdv AA outer s H vs Q E hr h => ?_)
  · obtain ⟨b, nl, ns, rfl, _⟩ := h
    rfl
  · obtain ⟨b, nl, ns, rfl, hB, hnl, hgn, hn0, hn1, k⟩ := h
    refine ⟨_, (pss_cons (ps_set (i := 2) sc_calls_l.nd rfl (Or.inl rfl) (pe_call G_names_l (hr.mono (by omega)) rfl T.g_names_l T.F_names_l.kp T.b_names_l .nil pass0 (pa_cons (pv 0) (pa_cons (pe_op op_add (pe_callB call_len_seq (by rfl) T.n_len (by decide +kernel) (pa_cons (pv 1) pa_nil)) pe_int) pa_nil))))
      (pss_cons (ps_set (i := 3) sc_calls_l.nd rfl (Or.inl rfl) (pe_call G_take_l (hr.mono (by omega)) rfl T.g_take_l T.F_take_l.kp T.b_take_l .nil pass0 (pa_cons (pv 0) (pa_cons pe_int pa_nil))))
      (pss_cons (ps_set (i := 4) sc_calls_l.nd rfl (Or.inl rfl) pe_dnewK)
      (pss_cons (ps_for PassesOwn.never rfl (pi_range1 (by rfl) T.n_range (pa_cons (pe_callB call_len_seq (by rfl) T.n_len (by decide +kernel) (pa_cons (pv 1) pa_nil)) pa_nil)) (pg_name (i := 5) sc_calls_l.nd rfl (Or.inl rfl)) (pss_one (ps_dput (hu_of hr) (pv 4) (pe_ix ix_list (pv 1) (pv 5) (fun _ _ => rfl)) (pe_ix ix_list (pe_lst (pa_cons (pe_ix ix_list (pv 2) (pv 5) (fun _ _ => rfl)) (pa_cons (pe_ix ix_list (pv 1) (pe_op op_mod (pe_op op_add (pv 5) pe_int) (pe_callB call_len_seq (by rfl) T.n_len (by decide +kernel) (pa_cons (pv 1) pa_nil))) (fun _ _ => rfl)) (pa_cons (pe_ix ix_list (pv 2) (pe_call G_take_l (hr.mono (by omega)) rfl T.g_take_l T.F_take_l.kp T.b_take_l .nil pass0 (pa_cons (pv 0) (pa_cons pe_int pa_nil))) (fun _ _ => rfl)) pa_nil)))) (pv 3) (fun _ _ => rfl)) rfl)))
      (pss_one (ps_ret (pv 4))))))), ?_⟩
    walk_at "ss"
    refine ⟨nl, _, rfl, .inl (SqL.of hnl), ?_⟩
    walk_at "ss"
    have el : (((ns.map V.str).length : Nat) : Int) + 3 = ((ns.length + 3 : Nat) : Int) := by rw [List.length_map]; omega
    rw [el]
    refine ⟨b, ns.length + 3, rfl, hB, by omega, fun fs fl H1 hfl hgf hfl0 e1 b1 gf => ?_⟩
    have n1 := nl_up hn0 hB hnl e1
    walk_at "ss"
    refine ⟨b, 3, rfl, b1, by decide, by decide, fun way H2 h20 h21 e2 b2 => ?_⟩
    have hf0 : 0 < fs.length := by omega
    have n2 := nl_up hn0 b1 n1 e2
    have f2 := nl_up hf0 b1 gf e2
    walk_at "ss"
    intro cd hcd
    have e3 : Ex H2 (upd H2 cd (.dK [])) := Ex.new hcd
    have g3 : upd H2 cd (.dK []) cd = some (.dK []) := upd_same
    generalize upd H2 cd (.dK []) = H3 at e3 g3
    have hcdH : H cd = none := by
      cases hq : H cd with
      | none => rfl
      | some o =>
        by_cases hb : cd = b
        · subst hb
          obtain ⟨ob, hob⟩ := b2.some
          exact absurd rfl (ne_of_none hob hcd)
        · have := (e1.trans e2) cd o hb hq
          rw [hcd] at this
          cases this
    have ncb : cd ≠ b := by
      obtain ⟨ob, hob⟩ := b2.some
      exact (ne_of_none hob hcd).symm
    walk_at "ss"
    refine ⟨nl, _, rfl, .inl (SqL.of (e3 _ _ n2)), ?_⟩
    walk_at "ss"
    refine ⟨by omega, by (first | omega | (rw [List.length_map]; omega)), ?_⟩
    refine forR (fun i σ' G => (∃ v5, σ' = [some (.ref b), some (.ref nl), some (.ref fl), some (.int way), some (.ref cd), v5]) ∧ ExB b H G ∧ BoxAt G b ∧ G nl = some (.lst (ns.map V.str)) ∧ G fl = some (.lst (fs.map V.str)) ∧ ∃ kv, G cd = some (.dK kv) ∧ kv.length ≤ i ∧ CallsOk kv (ns.take i) ∧ (kv.map (·.1)).Nodup) ⟨⟨_, rfl⟩, e1.trans (e2.trans (ExB.of e3)), b2.ex e3, e3 _ _ n2, e3 _ _ f2, [], g3, Nat.le_refl _, ⟨fun s hs => by simp at hs, fun p hp => by cases hp⟩, List.nodup_nil⟩ ?_ ?_
    · rintro i σ' G hi ⟨⟨v5, rfl⟩, eG, bG, nG, fG, kv, gc, hkl, ⟨hok1, hok2⟩, hnd⟩
      rw [List.length_map] at hi
      have hi' : i < ns.length := by omega
      have hif : i < fs.length := by omega
      walk_at "ss"
      refine c_ixL (SqL.of fG) (atI_nat (v := .str (fs[i]'hif)) (by rw [List.getElem?_map, List.getElem?_eq_getElem hif] <;> rfl)) ?_
      walk_at "ss"
      refine ⟨nl, _, rfl, .inl (SqL.of nG), ?_⟩
      walk_at "ss"
      refine c_I (by rw [List.length_map]; omega) ?_
      obtain ⟨v1, hv1, hvm1⟩ := at_in (xs := ns.map V.str) (d := ((i : Int) + 1) % (((ns.map V.str).length : Nat) : Int)) (Int.emod_nonneg _ (by rw [List.length_map]; omega)) (Int.emod_lt_of_pos _ (by rw [List.length_map]; omega))
      obtain ⟨s1, hs1, rfl⟩ := List.mem_map.mp hvm1
      refine c_ixL (SqL.of nG) hv1 ?_
      walk_at "ss"
      refine ⟨b, 3, rfl, bG, by decide, by decide, fun d4 G4 h40 h41 e4 b4 => ?_⟩
      have n4 := nl_up hn0 bG nG e4
      have f4 := nl_up hf0 bG fG e4
      have c4 := e4 _ _ ncb gc
      obtain ⟨v2, hv2, hvm2⟩ := at_in (xs := fs.map V.str) (d := d4) h40 (by rw [List.length_map]; omega)
      obtain ⟨s2, hs2, rfl⟩ := List.mem_map.mp hvm2
      refine c_ixL (SqL.of f4) hv2 ?_
      walk_at "ss"
      refine newL fun p5 G5 hp5 e5 g5 => ?_
      walk_at "ss"
      obtain ⟨s', hat, hgs⟩ : ∃ s', atI [V.str (fs[i]'hif), .str s1, .str s2] way = some (.str s') ∧ goodN s' := by
        have : way = 0 ∨ way = 1 ∨ way = 2 := by omega
        rcases this with rfl | rfl | rfl
        · exact ⟨_, rfl, hgf _ (List.getElem_mem _)⟩
        · exact ⟨_, rfl, hgn _ hs1⟩
        · exact ⟨_, rfl, hgf _ hs2⟩
      refine c_ixL (SqL.of g5) hat ?_
      walk_at "ss"
      refine c_ixL (SqL.of (e5 _ _ n4)) (atI_nat (v := .str (ns[i]'hi')) (by rw [List.getElem?_map, List.getElem?_eq_getElem hi'] <;> rfl)) ?_
      walk_at "ss"
      refine ⟨cd, _, rfl, .inl ⟨_, .inr (ns[i]'hi'), e5 _ _ c4, rfl, Evl.sz_lt (by omega), rfl⟩, ?_⟩
      walk_at "ss"
      have hpl := putK_len kv (.inr (ns[i]'hi')) (.str s')
      have ncl : nl ≠ cd := ne_of n4 c4 (fun z => by cases z)
      have ncf : fl ≠ cd := ne_of f4 c4 (fun z => by cases z)
      have hti : ns.take (i + 1) = ns.take i ++ [ns[i]'hi'] := by rw [List.take_add_one, List.getElem?_eq_getElem hi']; rfl
      refine ⟨⟨_, rfl⟩, fun a o na ha => ?_, ?_, by rw [upd_ne ncl]; exact e5 _ _ n4, by rw [upd_ne ncf]; exact e5 _ _ f4, _, upd_same, by omega, ⟨fun s hs => ?_, fun p hp => ?_⟩, putK_nodup hnd⟩
      · rw [upd_ne (ne_of_none ha hcdH)]
        exact e5 _ _ ((eG.trans e4) a o na ha)
      · obtain ⟨x, y, z, h0, q⟩ := b4.ex e5
        exact ⟨x, y, z, h0, by rw [upd_ne ncb.symm]; exact q⟩
      · rw [valV_put]
        by_cases he : (Sum.inr s : Key) = Sum.inr (ns[i]'hi')
        · rw [if_pos he]
          exact ⟨s', rfl, hgs⟩
        · rw [if_neg he]
          rw [hti] at hs
          rcases List.mem_append.mp hs with h | h
          · exact hok1 s h
          · exact absurd (by have e : s = ns[i]'hi' := (by simpa using h); rw [e]) he
      · rw [hti]
        rcases putK_mem hp with h | h
        · obtain ⟨z, z', h1, h2, h3⟩ := hok2 p h
          exact ⟨z, z', h1, List.mem_append_left _ h2, h3⟩
        · exact ⟨_, s', h, List.mem_append_right _ (by simp), hgs⟩
    · rintro σ' G ⟨⟨v5, rfl⟩, eG, bG, nG, fG, kv, gc, hkl, hok, hnd⟩
      walk_at "ss"
      have hl : (((ns.map V.str).length : Nat) : Int).toNat = ns.length := by simp
      rw [hl, List.take_length] at hok
      rw [hl] at hkl
      exact k cd kv G hok hnd (by omega) hcdH eG bG gc

/-! ### walks over dicts -/
theorem c_lock {t : TS} {D : Ends} {σ : St} {H : Hp} {d : Addr} {u : HO} (hd : H d = some u) (hm : Mut (some u)) (h : ∀ od, t ⟨fun σ' H' => H' d = some (.frz od u) ∧ D.nx σ' (upd H' d u), fun v H' => H' d = some (.frz od u) ∧ D.rt v (upd H' d u), fun σ' H' => H' d = some (.frz od u) ∧ D.bk σ' (upd H' d u), fun σ' H' => H' d = some (.frz od u) ∧ D.ct σ' (upd H' d u)⟩ σ (upd H d (.frz od u))) : tLock t D σ H := ⟨d, u, hd, hm, h⟩
theorem c_forK {td : TE} {g : L2.TG} {tb : TS} {D : Ends} {σ : St} {H : Hp} (h : td σ H fun x H1 => ∃ d o, x = .ref d ∧ ((∃ kvs, H1 d = some (.frz o (.dK kvs)) ∧ ForI (Itk d o kvs) g tb D σ H1) ∨ ∃ kvs, H1 d = some (.frz o (.dT kvs)) ∧ ForI (Itkt d o kvs) g tb D σ H1)) : tFor (iKeys td) g tb D σ H := h
theorem forK {tb : TS} {D : Ends} {σ : St} {H : Hp} {d : Addr} {o : Obj} {kvs : List (Key × V)} {j : Nat} (Pv : Nat → St → Hp → Prop) (h0 : Pv 0 σ H) (hl : ∀ i σ' H', i ≤ kvs.length → Pv i σ' H' → H' d = some (.frz o (.dK kvs)))
    (hs : ∀ i k v σ' H', kvs[i]? = some (k, v) → Pv i σ' H' → tb { D with nx := Pv (i + 1), ct := Pv (i + 1), bk := D.nx } (σ'.set j (some (kV k))) H') (hd : ∀ σ' H', Pv kvs.length σ' H' → D.nx σ' H') : ForI (Itk d o kvs) (gName j) tb D σ H :=
  for_it walk_keys Pv h0 hl (fun i x σ' H' H'' _ p y => by
    obtain ⟨rfl, k, v, hk, rfl⟩ := y
    exact hs i k v σ' H'' hk p) hd
/-! ### names back -/
def sp_back_l : Sp := fun vs H Q _ => ∃ (cd : Addr) (kv : List (Key × V)) (ns : List Str), vs = [.ref cd] ∧ H cd = some (.dK kv) ∧ CallsOk kv ns ∧ (kv.map (·.1)).Nodup ∧ kv.length ≤ 11 ∧
  ∀ bd kb H2, kb.length ≤ 11 → (kb.length = kv.length → ∀ s s', ((Sum.inr s : Key), V.str s') ∈ kv → valV kb (.inr s') = some (.str s)) → H bd = none → Ex H H2 → H2 bd = some (.dK kb) → Q (.ref bd) H2
theorem valV_mem {kv : List (Key × V)} {k : Key} {v : V} (hn : (kv.map (·.1)).Nodup) (h : (k, v) ∈ kv) : valV kv k = some v := by
  induction kv with
  | nil => cases h
  | cons p r ih =>
    rw [List.map_cons, List.nodup_cons] at hn
    rcases List.mem_cons.mp h with e | h
    · subst e
      exact valV_pos rfl
    · have hne : ¬ p.1 = k := fun z => hn.1 (by rw [z]; exact List.mem_map.mpr ⟨(k, v), h, rfl⟩)
      rw [valV_neg hne]
      exact ih hn.2 h
theorem putK_len2 (kvs : List (Key × V)) (k : Key) (v : V) : (valV kvs k = none ∧ (putK kvs k v).length = kvs.length + 1) ∨ (putK kvs k v).length = kvs.length := by
  unfold putK
  cases h : (kvs.any fun kv => decide (kv.1 = k)) with
  | true => right; rw [if_pos rfl, List.length_map]
  | false =>
    left
    rw [valV_any] at h
    refine ⟨?_, by rw [if_neg (by decide), List.length_append]; rfl⟩
    cases hv : valV kvs k with
    | none => rfl
    | some x => rw [hv] at h; cases h
theorem ok_back_l (T : Txt K mg Z) : FnOk P w K mg base CX0 1 Z.f_back_l Z.fd_back_l ["_law_calls_here"] sp_back_l := by
  refine T.F_back_l.ok sc_back_l (fun vs H Q E h => ?_) (fun cdv AA outer s H vs Q E hr h => ?_)
  · obtain ⟨cd, kv, ns, rfl, _⟩ := h
    rfl
  · obtain ⟨cd, kv, ns, rfl, hcd, hok, hnd, hl, k⟩ := h
    refine ⟨_, (pss_cons (ps_set (i := 1) sc_back_l.nd rfl (Or.inl rfl) pe_dnewK)
      (pss_cons (ps_lock (ps_for PassesOwn.never rfl (pi_keys (pv 0)) (pg_name (i := 2) sc_back_l.nd rfl (Or.inl rfl)) (pss_one (ps_dput (hu_of hr) (pv 1) (pe_dget (hu_of hr) (pv 0) (pv 2) (fun _ _ => rfl)) (pv 2) rfl))))
      (pss_one (ps_ret (pv 1))))), ?_⟩
    walk_at "ss"
    intro bd hbd
    have e1 : Ex H (upd H bd (.dK [])) := Ex.new hbd
    have g1 : upd H bd (.dK []) bd = some (.dK []) := upd_same
    generalize upd H bd (.dK []) = H1 at e1 g1
    have nbc : bd ≠ cd := (ne_of_none hcd hbd).symm
    walk_at "ss"
    refine c_lock (e1 _ _ hcd) trivial fun od => ?_
    refine c_forK ?_
    walk_at "ss"
    refine ⟨cd, od, rfl, .inl ⟨kv, upd_same, ?_⟩⟩
    refine forK (fun i σ' G => (∃ v2, σ' = [some (.ref cd), some (.ref bd), v2]) ∧ ExB cd H G ∧ G cd = some (.frz od (.dK kv)) ∧ ∃ kb, G bd = some (.dK kb) ∧ kb.length ≤ i ∧ (kb.length = i → ∀ s s', ((Sum.inr s : Key), V.str s') ∈ kv.take i → valV kb (.inr s') = some (.str s))) ⟨⟨_, rfl⟩, fun a o na ha => by rw [upd_ne na]; exact e1 _ _ ha, upd_same, [], by rw [upd_ne nbc]; exact g1, Nat.le_refl _, fun _ s s' hs => by simp at hs⟩ (fun i σ' G _ q => q.2.2.1) ?_ ?_
    · rintro i key v σ' G hk ⟨⟨v2, rfl⟩, eG, gc, kb, gb, hkl, hkv⟩
      have hmem := List.mem_of_getElem? hk
      obtain ⟨s, s', he, hs, hgs⟩ := hok.2 _ hmem
      cases he
      have hv : valV kv (.inr s) = some (.str s') := valV_mem hnd hmem
      have hil := (List.getElem?_eq_some_iff.mp hk).1
      rw [show kV (Sum.inr s : Key) = V.str s from rfl]
      walk_at "ss"
      refine ⟨cd, _, rfl, .inl ⟨kv, .inr s, .inr ⟨od, gc⟩, rfl, hv.symm⟩, ?_⟩
      refine ⟨bd, _, rfl, .inl ⟨kb, .inr s', gb, rfl, Evl.sz_lt (by omega), rfl⟩, ?_⟩
      have hpl := putK_len kb (.inr s') (.str s)
      refine ⟨⟨_, rfl⟩, fun a o na ha => ?_, by rw [upd_ne nbc.symm]; exact gc, _, upd_same, by omega, fun hlen z z' hz => ?_⟩
      · rw [upd_ne (ne_of_none ha hbd)]
        exact eG a o na ha
      · have ht : kv.take (i + 1) = kv.take i ++ [(Sum.inr s, V.str s')] := by rw [List.take_add_one, hk]; rfl
        rw [ht] at hz
        rcases putK_len2 kb (.inr s') (.str s) with ⟨hnone, hl2⟩ | hl2
        · rw [valV_put]
          rcases List.mem_append.mp hz with h | h
          · have hold := hkv (by omega) z z' h
            by_cases he : (Sum.inr z' : Key) = Sum.inr s'
            · rw [he, hnone] at hold
              cases hold
            · rw [if_neg he]
              exact hold
          · have e : ((Sum.inr z : Key), V.str z') = (Sum.inr s, V.str s') := by simpa using h
            injection e with ea eb
            injection ea with ea
            injection eb with eb
            rw [eb, if_pos rfl, ea]
        · omega
    · rintro σ' G ⟨⟨v2, rfl⟩, eG, gc, kb, gb, hkl, hkv⟩
      rw [List.take_length] at hkv
      refine ⟨gc, ?_⟩
      walk_at "ss"
      refine k bd kb _ (by omega) hkv hbd (fun a o ha => ?_) (by rw [upd_ne nbc]; exact gb)
      by_cases hac : a = cd
      · subst hac
        rw [upd_same, ← ha, hcd]
      · rw [upd_ne hac]
        exact eG a o hac ha

/-! ### what is refused: repr of any thing, isinstance of a caught error that has fields -/
/-- the thing v is shown as t -/
def RpV (K : PySem.W.Frag) (H : Hp) (v : V) (t : Str) : Prop := ∃ d : PyData, (Dp K H v d ∧ RpOk 50 100000 d ∨ ∃ a, v = .ref a ∧ H a = some (.dK []) ∧ d = .dict []) ∧ t = d.shown
def rReprQ (K : PySem.W.Frag) : List V → Hp → VK → Prop := fun xs H Q => ∃ (v : V) (t : Str), xs = [v] ∧ RpV K H v t ∧ Q (.str t) H
theorem un62 {n : Nat} {A : Around} (h : Room n A) : A.units + 62 < cLine := by have := h.un; omega
theorem call_reprQ {X : Cx} (hgd : X.A.guards = some []) (hu : X.A.units + 62 < cLine) : CallR X (.builtin "repr") (rReprQ X.K) := by
  intro pins s σ H xs us Q I r h
  obtain ⟨v, t, rfl, ⟨d, hd, rfl⟩, q⟩ := h
  cases r with
  | cons ra rr =>
    cases rr
    rename_i u
    rcases hd with ⟨hd, hk⟩ | ⟨a, rfl, ha, rfl⟩
    · have hz : d.shown.length ≤ sizeLine := PyData.shown_fits_bulk (B := 13) (by decide) (by decide) hk.2.2.1 (Nat.le_trans hk.2.2.2.2 (by decide))
      have hdp : d.depth ≤ 60 := Nat.le_trans hk.2.2.2.1 (by decide)
      have hnd : d.hasDict = false := PyData.hasDict_of_canLay d hk.2.1
      cases hd with
      | non =>
        cases ra
        exact PySem.P.repr_of_none ⟨.str _, H, I.tok _, ⟨_, by rw [PyData.shown]⟩, q⟩
      | bl b =>
        cases ra
        exact PySem.P.repr_of_bool ⟨.str _, H, I.tok _, ⟨_, by rw [PyData.shown]⟩, q⟩
      | int i =>
        obtain ⟨t, rfl⟩ := ra
        exact PySem.P.repr_of_int (by have := hk.1; simpa only [PyData.showable, decide_eq_true_eq] using this) ⟨.str _, H, I.tok _, ⟨_, by rw [PyData.shown]⟩, q⟩
      | str x =>
        obtain ⟨t, rfl⟩ := ra
        rw [PyData.shown] at hz
        exact PySem.P.repr_of_str ⟨.str _, H, I.tok _, ⟨_, by rw [PyData.shown]⟩, q⟩ hz
      | lst hs ha =>
        cases ra
        obtain ⟨as, rd⟩ := Dp.reads I _ _ _ (.lst hs ha) rfl
        refine repr_of_reads' rd hk.1 (fun z => by rw [hnd] at z; cases z) hgd (by omega) (fun _ _ z => z) (fun h' u tk hk => ?_) hz
        exact ⟨.str _, H, I.kept (t' := tk) hk, ⟨_, rfl⟩, q⟩
      | tup hs ha =>
        cases ra
        obtain ⟨as, rd⟩ := Dp.reads I _ _ _ (.tup hs ha) rfl
        refine repr_of_reads' rd hk.1 (fun z => by rw [hnd] at z; cases z) hgd (by omega) (fun _ _ z => z) (fun h' u tk hk => ?_) hz
        exact ⟨.str _, H, I.kept (t' := tk) hk, ⟨_, rfl⟩, q⟩
    · cases (show u = Value.ref a from ra)
      obtain ⟨_, hsys, vs, hkv, o, es, ep, ho, hx, hda, _, hp, _⟩ := I.hok a _ ha
      cases hkv
      have he : es = #[] := by
        obtain ⟨l⟩ := es
        cases hp
        rfl
      subst he
      have rd : Reads s.heap (.ref a) (.dict []) [a] := Reads.dict (kvs := []) (as := []) (bs := []) ho hx.1 hda (by exact ReadsAll.nil) (by exact ReadsAll.nil)
      refine repr_of_reads' rd (by simp only [PyData.showable, PyData.showableKv]) (fun _ z => ?_) hgd (by simp only [PyData.depth, PyData.depthKv]; omega) (fun _ _ z => z) (fun h' u tk hk => ?_) (by simp only [PyData.shown, PyData.shownKv]; rw [sizeLine_eq]; decide +kernel)
      · have : sysModules = a := by simpa using z
        rw [this] at hsys
        simp at hsys
      · exact ⟨.str _, H, I.kept (t' := tk) hk, ⟨_, rfl⟩, q⟩
theorem call_reprS {X : Cx} {a : Addr} {pn : List (Addr × Obj)} (hgd : X.A.guards = some []) (hu : X.A.units + 62 < cLine) : CallR (X.suite a pn) (.builtin "repr") (rReprQ X.K) := call_reprQ (X := X.suite a pn) hgd hu
def rIsP (K : PySem.W.Frag) (D a : Addr) (cls : Value) (d : Option Addr) : List V → Hp → VK → Prop := fun xs H Q => ∃ (c : V) (cv : Value) (b : Bool), xs = [.ref a, c] ∧ ClsV c cv ∧ cls = .ref D ∧ (∃ (dd : Addr) (fs : List (Str × V)), d = some dd ∧ H dd = some (.xd fs)) ∧ PySem.W.kitOne K (.ref D) cv = some b ∧ Q (.bl b) H
theorem call_isP {X : Cx} {a D : Addr} {oe : Obj} {cls : Value} {d : Option Addr} {pn : List (Addr × Obj)} (C : IcC X.K D) (hz : Zc cls d oe) (hf : ∃ vs, oe.data = .fields vs) : CallR (X.suite a ((a, oe) :: pn)) (.builtin "isinstance") (rIsP X.K D a cls d) := by
  intro pins s σ H xs us Q I r h
  obtain ⟨c, cv, b, rfl, hcv, rfl, ⟨dd, fs, rfl, ea⟩, e, q⟩ := h
  cases r with
  | cons rx rr =>
    cases rr with
    | cons rt rr =>
      cases rr
      cases rx
      have ec := hcv.eq rt
      subst ec
      obtain ⟨hget, _⟩ := I.pin (a, oe) (List.mem_append.mpr (.inl List.mem_cons_self))
      obtain ⟨vs, hd⟩ := hf
      have hx : ObjOk X.prog X.w H s.heap dd (.xd fs) := I.hok dd _ ea
      obtain ⟨mA, hns, hr⟩ := hx
      obtain ⟨od, ho, hl⟩ := lookIn_ns hns
      have J : PySem.W.InstAt s.heap a oe D (some od) := ⟨hget, hz.1, by unfold PySem.W.notCls; rw [hd] <;> rfl, by rw [hz.2]; exact ho⟩
      exact PySem.W.kia_one (PySem.W.kitx_exc C.cl C.xf.ga C.xf.gg C.xf.exC C.ha C.hn C.ht C.hm) I.kIn J e (fun z => nomatch z) fun tk => ⟨.bl b, H, I.kept (t' := tk) fun _ _ z => z, rfl, q⟩

/-! ### renamed, of a row of any class -/
theorem gmE_renamed (T : Txt K mg Z) : ∀ C, MCE Z C → MOk P w K mg base CX0 26 C "renamed" (spmE_renamed Z C) := by
  rintro C ⟨i, hi, rfl⟩
  have hi' : i = 0 ∨ i = 1 ∨ i = 2 ∨ i = 3 ∨ i = 4 ∨ i = 5 ∨ i = 6 := by omega
  rcases hi' with rfl | rfl | rfl | rfl | rfl | rfl | rfl
  · exact ⟨(tcB_ok T.x_Plain).cl, _, _, _, ⟨T.h_renamed_Plain, T.y_Equation_renamed, T.F_Equation_renamed.kp⟩, ok_Equation_renamed (P := P) (w := w) (base := base) T, T.b_Equation_renamed⟩
  · exact ⟨(tcB_ok T.x_Before).cl, _, _, _, ⟨T.h_renamed_Before, T.y_Equation_renamed, T.F_Equation_renamed.kp⟩, ok_Equation_renamed (P := P) (w := w) (base := base) T, T.b_Equation_renamed⟩
  · exact ⟨(tcB_ok T.x_Hold).cl, _, _, _, ⟨T.h_renamed_Hold, T.y_Equation_renamed, T.F_Equation_renamed.kp⟩, ok_Equation_renamed (P := P) (w := w) (base := base) T, T.b_Equation_renamed⟩
  · exact ⟨(tcB_ok T.x_Like).cl, _, _, _, ⟨T.h_renamed_Like, T.y_Equation_renamed, T.F_Equation_renamed.kp⟩, ok_Equation_renamed (P := P) (w := w) (base := base) T, T.b_Equation_renamed⟩
  · exact ⟨(tcB_ok T.x_When).cl, _, _, _, ⟨T.h_renamed_When, T.y_Equation_renamed, T.F_Equation_renamed.kp⟩, ok_Equation_renamed (P := P) (w := w) (base := base) T, T.b_Equation_renamed⟩
  · exact ⟨(tcB_ok T.x_Same).cl, _, _, _, ⟨T.h_renamed_Same, T.y_Equation_renamed, T.F_Equation_renamed.kp⟩, ok_Equation_renamed (P := P) (w := w) (base := base) T, T.b_Equation_renamed⟩
  · exact ⟨(tcB_ok T.x_Call).cl, _, _, _, ⟨T.h_renamed_Call, T.y_Equation_renamed, T.F_Equation_renamed.kp⟩, ok_Equation_renamed (P := P) (w := w) (base := base) T, T.b_Equation_renamed⟩
def spmXE_renamed (Z : Adr) (C : Addr) : Sp := spRX Z
theorem gxE_renamed (T : Txt K mg Z) : ∀ C, MCE Z C → MOk P w K mg base (L2.CX P w) 26 C "renamed" (spmXE_renamed Z C) := by
  rintro C ⟨i, hi, rfl⟩
  have hi' : i = 0 ∨ i = 1 ∨ i = 2 ∨ i = 3 ∨ i = 4 ∨ i = 5 ∨ i = 6 := by omega
  rcases hi' with rfl | rfl | rfl | rfl | rfl | rfl | rfl
  · exact ⟨(tcB_ok T.x_Plain).cl, _, _, _, ⟨T.h_renamed_Plain, T.y_Equation_renamed, T.F_Equation_renamed.kp⟩, okX_renamed (P := P) (w := w) (base := base) T, T.b_Equation_renamed⟩
  · exact ⟨(tcB_ok T.x_Before).cl, _, _, _, ⟨T.h_renamed_Before, T.y_Equation_renamed, T.F_Equation_renamed.kp⟩, okX_renamed (P := P) (w := w) (base := base) T, T.b_Equation_renamed⟩
  · exact ⟨(tcB_ok T.x_Hold).cl, _, _, _, ⟨T.h_renamed_Hold, T.y_Equation_renamed, T.F_Equation_renamed.kp⟩, okX_renamed (P := P) (w := w) (base := base) T, T.b_Equation_renamed⟩
  · exact ⟨(tcB_ok T.x_Like).cl, _, _, _, ⟨T.h_renamed_Like, T.y_Equation_renamed, T.F_Equation_renamed.kp⟩, okX_renamed (P := P) (w := w) (base := base) T, T.b_Equation_renamed⟩
  · exact ⟨(tcB_ok T.x_When).cl, _, _, _, ⟨T.h_renamed_When, T.y_Equation_renamed, T.F_Equation_renamed.kp⟩, okX_renamed (P := P) (w := w) (base := base) T, T.b_Equation_renamed⟩
  · exact ⟨(tcB_ok T.x_Same).cl, _, _, _, ⟨T.h_renamed_Same, T.y_Equation_renamed, T.F_Equation_renamed.kp⟩, okX_renamed (P := P) (w := w) (base := base) T, T.b_Equation_renamed⟩
  · exact ⟨(tcB_ok T.x_Call).cl, _, _, _, ⟨T.h_renamed_Call, T.y_Equation_renamed, T.F_Equation_renamed.kp⟩, okX_renamed (P := P) (w := w) (base := base) T, T.b_Equation_renamed⟩
def sp_refused_l (K : PySem.W.Frag) (Z : Adr) : Sp := fun vs H Q _ => ∃ (r : Rw) (v u : V) (d : Addr) (kvs : List (Key × V)) (j : Nat) (s : Str) (w : V) (t : Str), vs = [v, .ref d] ∧ EqAt Z H r v u ∧ r.good ∧ H d = some (.dK kvs) ∧ r.all[j]? = some s ∧ (∀ (i : Nat) (s' : Str), i < j → r.all[i]? = some s' → ∃ s'', valV kvs (.inr s') = some (.str s'') ∧ goodN s'') ∧ BadAt H kvs s w ∧
  (∀ H2, Ex H H2 → RpV K H2 w t) ∧ RetL [.str t, .bl false, .bl true] H Q
theorem ok_refused_l (T : Txt K mg Z)  : FnG P w K mg base CX0 (28) Z.f_refused_l Z.fd_refused_l ["_law_equation", "_law_calls_here"] (sp_refused_l K Z) := by
  refine T.F_refused_l.okG sc_refused_l (fun vs H Q E h => ?_) (fun cdv AA outer s H vs Q E hgd hr h => ?_)
  · obtain ⟨r, v, u, d, kvs, j, s, w0, t, rfl, _⟩ := h
    rfl
  · obtain ⟨r, v, u, d, kvs, j, s, w0, t, rfl, hE, hg, hd, hj, hgood, hbad, hrp, k⟩ := h
    have GXE_renamed := gxE_renamed (P := P) (w := w) (base := base) T
    obtain ⟨a, dx, fs, rfl, ha, hr2, hrow, ⟨⟨o1, o2, o3, o4, o5⟩, hoR, hoR2⟩, htm⟩ := id hE
    have hM : MCE Z (clsK Z r.kind) := ⟨_, r.kind_lt, rfl⟩
    refine ⟨_, (pss_cons (ps_set (i := 2) sc_refused_l.nd rfl (Or.inl rfl) pe_non)
      (pss_cons (ps_try_as (i := 3) rfl rfl sc_refused_l.nd rfl rfl ⟨rfl, by decide, .inl T.m_NoName⟩ takes0 (fun W pn xe tk _ => (pss_one (ps_expr (pe_methPS (pv 0) GXE_renamed (hr.mono (by omega)) (fun σ => passAt tk σ) (pa_cons (pv 1) pa_nil))))) (fun a oe cls d pn hz hf => (pss_one (ps_set (i := 2) sc_refused_l.nd rfl (Or.inl rfl) (pe_lst (pa_cons (pe_callB (call_reprS hgd (un62 hr)) (by rfl) T.n_repr (by decide +kernel) (pa_cons (pe_xf (exB_ok T.x_NoName).ic.xf ((exB_ok T.x_NoName).no _ (by decide +kernel)) hz hf (pv 3)) pa_nil)) (pa_cons (pe_callB (call_isP (exB_ok T.x_NoName).ic hz hf) (by rfl) T.n_isinstance (by decide +kernel) (pa_cons (pv 3) (pa_cons (pe_gcst (v := .ref Z.c_NoEquation) rfl ⟨_, T.m_NoEquation, rfl⟩) pa_nil))) (pa_cons (pe_callB (call_isP (exB_ok T.x_NoName).ic hz hf) (by rfl) T.n_isinstance (by decide +kernel) (pa_cons (pv 3) (pa_cons (pe_gcst (v := .ref Z.c_BeatError) rfl ⟨_, T.m_BeatError, rfl⟩) pa_nil))) pa_nil))))))))
      (pss_one (ps_ret (pv 2))))), ?_⟩
    walk_at "ss"
    refine c_mps ?_
    walk_at "ss"
    refine ⟨a, _, dx, fs, rfl, ha, hM, hoR2, ?_⟩
    walk_at "ss"
    refine ⟨r, _, u, d, kvs, j, s, w0, rfl, hE, hg, hd, hj, hgood, hbad, fun x H2 hx e2 g2 => ?_⟩
    refine ⟨true, T.fact_exm, fun _ ae hae => ?_, fun z => nomatch z⟩
    walk_at "ss"
    refine ⟨x, _, _, rfl, g2, lk_hd, ?_⟩
    walk_at "ss"
    refine ⟨_, t, rfl, hrp _ e2, ?_⟩
    walk_at "ss"
    refine ⟨_, _, false, rfl, .own _, rfl, ⟨x, _, rfl, g2⟩, T.fact_kitNN, ?_⟩
    walk_at "ss"
    refine ⟨_, _, true, rfl, .own _, rfl, ⟨x, _, rfl, g2⟩, T.fact_kitNB, ?_⟩
    walk_at "ss"
    refine newL fun l H3 hl e3 g3 => ?_
    walk_at "ss"
    exact k l H3 (fresh_back e2 hl) (e2.trans e3) g3

/-! ### texts that are shown -/
theorem okc_repr {q c : Nat} (hq : q < 1114112) (hc : c < 1114112) : ∀ z ∈ Builtin.Str.reprChar q c, z < 1114112 := by
  intro z hz
  have hd : ∀ w, z ∈ (List.replicate (w - ((Nat.toDigits 16 c).map Char.toNat).length) 48 ++ (Nat.toDigits 16 c).map Char.toNat) → z < 1114112 := by
    intro w hz
    rcases List.mem_append.mp hz with h | h
    · have := List.eq_of_mem_replicate h; omega
    · obtain ⟨ch, _, rfl⟩ := List.mem_map.mp h
      rcases ch.valid with h | h
      · exact Nat.lt_trans h (by decide)
      · exact h.2
  unfold Builtin.Str.reprChar at hz
  dsimp only at hz
  repeat' split at hz
  all_goals simp only [List.mem_cons, List.mem_append, List.not_mem_nil, or_false] at hz
  all_goals first | omega | (rcases hz with (h | h) | h; · omega
                             · omega
                             · exact hd _ (List.mem_append.mpr h))
theorem okf_repr (q : Nat) (hq : q < 1114112) : ∀ (l : List Nat) (acc : Array Nat), (∀ z ∈ acc.toList, z < 1114112) → (∀ c ∈ l, c < 1114112) → ∀ z ∈ (l.foldl (fun out c => out ++ (Builtin.Str.reprChar q c).toArray) acc).toList, z < 1114112
  | [], acc, h, _ => h
  | c :: r, acc, h, hl => by
    rw [List.foldl_cons]
    refine okf_repr q hq r _ (fun z hz => ?_) fun d hd => hl d (List.mem_cons_of_mem _ hd)
    rw [Array.toList_append] at hz
    rcases List.mem_append.mp hz with h2 | h2
    · exact h z h2
    · exact okc_repr hq (hl c List.mem_cons_self) z h2
theorem okT_repr {x : Str} (h : OkT x) : OkT (reprText x) := by
  have hq : reprQuote x < 1114112 := by
    unfold reprQuote
    split <;> omega
  intro c hc
  have hc2 : c ∈ ((x.cps.foldl (fun out c => out ++ (Builtin.Str.reprChar (reprQuote x) c).toArray) #[reprQuote x]).push (reprQuote x)).toList := hc
  rw [Array.toList_push, ← Array.foldl_toList] at hc2
  rcases List.mem_append.mp hc2 with h2 | h2
  · refine okf_repr _ hq _ _ (fun z hz => ?_) (fun z hz => h z hz) c h2
    have : z = reprQuote x := by simpa using hz
    omega
  · have : c = reprQuote x := by simpa using h2
    omega
/-! ### each once: the first places -/
theorem fold_pre (l : List Str) : ∀ acc : List Str, ∃ r, l.foldl (fun acc n => addN acc [n]) acc = acc ++ r := by
  induction l with
  | nil => exact fun acc => ⟨[], (List.append_nil _).symm⟩
  | cons n l ih =>
    intro acc
    obtain ⟨r, hr⟩ := ih (addN acc [n])
    refine ⟨([n].filter fun n => !acc.contains n) ++ r, ?_⟩
    rw [List.foldl_cons, hr]
    unfold addN
    rw [List.append_assoc]
theorem fold_first (l : List Str) : ∀ (acc : List Str) (j : Nat) (s : Str), acc.length ≤ j → (l.foldl (fun acc n => addN acc [n]) acc)[j]? = some s → ∃ k : Nat, l[k]? = some s ∧ ∀ (i : Nat) (z : Str), i < k → l[i]? = some z → z ∈ (l.foldl (fun acc n => addN acc [n]) acc).take j := by
  induction l with
  | nil =>
    intro acc j s hj h
    rw [List.foldl_nil, List.getElem?_eq_none hj] at h
    cases h
  | cons n l ih =>
    intro acc j s hj h
    have hin : ∀ acc2 : List Str, n ∈ acc2 → acc2.length ≤ j → n ∈ (l.foldl (fun acc n => addN acc [n]) acc2).take j := by
      intro acc2 hn hl
      obtain ⟨r, hr⟩ := fold_pre l acc2
      rw [hr, List.take_append]
      rw [List.take_of_length_le hl]
      exact List.mem_append_left _ hn
    rw [List.foldl_cons] at h ⊢
    rw [addN_one] at h ⊢
    cases hc : acc.contains n with
    | true =>
      rw [hc, if_pos rfl] at h
      rw [if_pos rfl]
      obtain ⟨k, h1, h2⟩ := ih acc j s hj h
      refine ⟨k + 1, h1, fun i z hi hz => ?_⟩
      cases i with
      | zero =>
        have : n = z := by simpa using hz
        rw [← this]
        exact hin acc (by simpa using hc) hj
      | succ i => exact h2 i z (by omega) hz
    | false =>
      rw [hc, if_neg (by decide)] at h
      rw [if_neg (by decide)]
      by_cases he : j = acc.length
      · obtain ⟨r, hr⟩ := fold_pre l (acc ++ [n])
        rw [hr, he, List.append_assoc, List.getElem?_append_right (Nat.le_refl _), Nat.sub_self] at h
        have : n = s := by simpa using h
        exact ⟨0, by rw [this] <;> rfl, fun i z hi => absurd hi (Nat.not_lt_zero _)⟩
      · have hl : (acc ++ [n]).length ≤ j := by rw [List.length_append, List.length_singleton]; omega
        obtain ⟨k, h1, h2⟩ := ih (acc ++ [n]) j s hl h
        refine ⟨k + 1, h1, fun i z hi hz => ?_⟩
        cases i with
        | zero =>
          have : n = z := by simpa using hz
          rw [← this]
          exact hin _ (by simp) hl
        | succ i => exact h2 i z (by omega) hz
theorem once_first {l : List Str} {j : Nat} {s : Str} (h : (once l)[j]? = some s) : ∃ k : Nat, l[k]? = some s ∧ ∀ (i : Nat) (z : Str), i < k → l[i]? = some z → z ∈ (once l).take j := fold_first l [] j s (Nat.zero_le _) h
theorem fold_nodup (l : List Str) : ∀ acc : List Str, acc.Nodup → (l.foldl (fun acc n => addN acc [n]) acc).Nodup := by
  induction l with
  | nil => exact fun acc h => h
  | cons n l ih =>
    intro acc h
    rw [List.foldl_cons, addN_one]
    refine ih _ ?_
    split
    · exact h
    · rename_i hc
      rw [List.nodup_append]
      refine ⟨h, by simp, fun a ha b hb he => hc ?_⟩
      have : b = n := by simpa using hb
      rw [← this, ← he]
      simpa using ha
theorem once_nodup (l : List Str) : (once l).Nodup := fold_nodup l [] List.nodup_nil
theorem once_pos {l : List Str} (h : 0 < l.length) : 0 < (once l).length := by
  cases l with
  | nil => simp at h
  | cons n l =>
    unfold once
    rw [List.foldl_cons, addN_one]
    obtain ⟨r, hr⟩ := fold_pre l (if ([] : List Str).contains n then [] else [] ++ [n])
    rw [hr]
    simp
theorem Rw.all_pos {r : Rw} (g : r.good) : 0 < r.all.length := by
  cases r with
  | pl n t => simp [Rw.all, Rw.tells]
  | vd k n v x => simp [Rw.all, Rw.tells]
  | wh n x y => simp [Rw.all, Rw.tells]
  | sm ns =>
    have h2 := g.1
    have := once_pos (l := ns) (by omega)
    simp only [Rw.all, Rw.tells, Rw.names, List.nil_append]
    exact this
  | cl os nd xs =>
    have h2 := g.1
    simp only [Rw.all, Rw.tells, List.length_append]
    omega
theorem nodup_at {l : List Str} (h : l.Nodup) {j i : Nat} {s z : Str} (hj : l[j]? = some s) (hz : z ∈ l.take i) (hi : i ≤ j) : z ≠ s := by
  obtain ⟨k, hk, he⟩ := List.mem_iff_getElem.mp hz
  rw [List.length_take] at hk
  rw [List.getElem_take] at he
  intro e
  have hjl := (List.getElem?_eq_some_iff.mp hj).1
  have e2 : l[k]'(by omega) = l[j]'hjl := by rw [he, e]; exact ((List.getElem?_eq_some_iff.mp hj).2).symm
  have := (List.getElem_inj h).mp e2
  omega
theorem valV_drop {kvs : List (Key × V)} {k k' : Key} : valV (dropK kvs k) k' = if k' = k then none else valV kvs k' := by
  induction kvs with
  | nil => split <;> rfl
  | cons p r ih =>
    by_cases e : p.1 = k
    · rw [dropK_pos e, ih]
      split
      · rfl
      · rename_i h
        rw [valV_neg (fun z => h (z.symm.trans e))]
    · rw [dropK_neg e]
      by_cases e2 : p.1 = k'
      · rw [valV_pos e2, valV_pos e2, if_neg (fun z => e (e2.trans z))]
      · rw [valV_neg e2, valV_neg e2, ih]

/-! ### a dict that lacks a name, or has no name for it -/
theorem c_dpop {σ : St} {H : Hp} {Q : VK} {td ty : TE} (h : td σ H fun x H1 => ∃ a, x = .ref a ∧ IsD H1 a ∧ ty σ H1 fun y H2 => ∃ kvs k v, H2 a = some (.dK kvs) ∧ y = kV k ∧ valV kvs k = some v ∧ Q v (upd H2 a (.dK (dropK kvs k)))) : tDPop1 td ty σ H Q := h
theorem at_last {xs : List V} (h : 0 < xs.length) : atI xs (-1) = xs[xs.length - 1]? := by
  unfold atI ixN
  rw [if_neg (by omega), if_pos (by omega)]
  show xs[_]? = _
  congr 1
  omega
theorem exB_put {b ld : Addr} {H G : Hp} {o : HO} (e : ExB b H G) (h : H ld = none) : ExB b H (upd G ld o) := fun a q na ha => by rw [upd_ne (ne_of_none ha h)]; exact e a q na ha
theorem box_put {b ld : Addr} {G : Hp} {o : HO} (h : BoxAt G b) (n : b ≠ ld) : BoxAt (upd G ld o) b := by
  obtain ⟨x, y, z, h0, q⟩ := h
  exact ⟨x, y, z, h0, by rw [upd_ne n]; exact q⟩
theorem freshB {b ld : Addr} {H G : Hp} (e : ExB b H G) (hb : BoxAt G b) (h : G ld = none) : H ld = none := by
  cases hq : H ld with
  | none => rfl
  | some o =>
    by_cases hn : ld = b
    · subst hn
      obtain ⟨ob, hob⟩ := hb.some
      exact absurd rfl (ne_of_none hob h)
    · have := e ld o hn hq
      rw [h] at this
      cases this
theorem okT_lit {t : Str} (h : (TL.tl t).all (fun c => decide (c < 1114112)) = true) : OkT t := OkT.lit h
def BadG (K : PySem.W.Frag) (p1 p2 p3 : Addr) (w : V) (t : Str) : Prop := ∀ G : Hp, G p1 = some (.tup [.str "a"]) → G p2 = some (.lst [.str "a"]) → G p3 = some (.dK []) → BadN G w ∧ RpV K G w t
theorem bads {p1 p2 p3 : Addr} {d : Int} (h0 : 0 ≤ d) (h1 : d < 10) :
    ∃ w t, atI [V.non, .str "", .str "a.", .str "hold", .int 5, .bl true, .ref p1, .ref p2, .str "A", .ref p3] d = some w ∧ OkT t ∧ BadG K p1 p2 p3 w t := by
  have hs : ∀ s : Str, s.length ≤ 10 → OkT s → isPointed s = false → ∃ t, OkT t ∧ BadG K p1 p2 p3 (.str s) t := by
    intro s hl ho hp
    exact ⟨_, by rw [PyData.shown]; exact okT_repr ho, fun G _ _ _ => ⟨.inl ⟨s, rfl, by omega, hp⟩, .str s, .inl ⟨.str s, (rp_str ho).mono (by decide) (by omega)⟩, rfl⟩⟩
  have hd : d = 0 ∨ d = 1 ∨ d = 2 ∨ d = 3 ∨ d = 4 ∨ d = 5 ∨ d = 6 ∨ d = 7 ∨ d = 8 ∨ d = 9 := by omega
  have ra := rp_str (x := "a") (okT_lit (by decide +kernel))
  rcases hd with rfl | rfl | rfl | rfl | rfl | rfl | rfl | rfl | rfl | rfl
  · exact ⟨_, PyData.none.shown, rfl, okT_lit (by decide +kernel), fun G _ _ _ => ⟨.inr (.inl (.inl rfl)), .none, .inl ⟨.non, rp_non.mono (by decide) (by decide)⟩, rfl⟩⟩
  · obtain ⟨t, h1, h2⟩ := hs "" (by decide +kernel) (okT_lit (by decide +kernel)) (by decide +kernel)
    exact ⟨_, t, rfl, h1, h2⟩
  · obtain ⟨t, h1, h2⟩ := hs "a." (by decide +kernel) (okT_lit (by decide +kernel)) (by decide +kernel)
    exact ⟨_, t, rfl, h1, h2⟩
  · obtain ⟨t, h1, h2⟩ := hs "hold" (by decide +kernel) (okT_lit (by decide +kernel)) (by decide +kernel)
    exact ⟨_, t, rfl, h1, h2⟩
  · exact ⟨_, (PyData.int 5).shown, rfl, okT_lit (by decide +kernel), fun G _ _ _ => ⟨.inr (.inl (.inr (.inr ⟨5, rfl⟩))), .int 5, .inl ⟨.int 5, (rp_int (by decide)).mono (by decide) (by decide)⟩, rfl⟩⟩
  · exact ⟨_, (PyData.bool true).shown, rfl, okT_lit (by decide +kernel), fun G _ _ _ => ⟨.inr (.inl (.inr (.inl ⟨true, rfl⟩))), .bool true, .inl ⟨.bl true, (rp_bl true).mono (by decide) (by decide)⟩, rfl⟩⟩
  · exact ⟨_, (PyData.tuple [.str "a"]).shown, rfl, okT_lit (by decide +kernel), fun G g1 _ _ => ⟨.inr (.inr ⟨p1, rfl, .inl ⟨_, g1⟩⟩), .tuple [.str "a"], .inl ⟨.tup (SqT.of g1) (.cons (.str _) .nil), (rp_tup (rp_cons ra rp_nil)).mono (by decide) (by decide +kernel)⟩, rfl⟩⟩
  · exact ⟨_, (PyData.list [.str "a"]).shown, rfl, okT_lit (by decide +kernel), fun G _ g2 _ => ⟨.inr (.inr ⟨p2, rfl, .inr (.inl ⟨_, g2⟩)⟩), .list [.str "a"], .inl ⟨.lst (SqL.of g2) (.cons (.str _) .nil), (rp_lst (rp_cons ra rp_nil)).mono (by decide) (by decide +kernel)⟩, rfl⟩⟩
  · obtain ⟨t, h1, h2⟩ := hs "A" (by decide +kernel) (okT_lit (by decide +kernel)) (by decide +kernel)
    exact ⟨_, t, rfl, h1, h2⟩
  · exact ⟨_, (PyData.dict []).shown, rfl, okT_lit (by decide +kernel), fun G _ _ g3 => ⟨.inr (.inr ⟨p3, rfl, .inr (.inr ⟨_, g3⟩)⟩), .dict [], .inr ⟨p3, rfl, g3, rfl⟩, rfl⟩⟩
def sp_lacking_right_l (Z : Adr) : Sp := fun vs H Q _ => ∃ (b : Addr) (r : Rw) (v u u' : V) (cd : Addr) (kv : List (Key × V)), vs = [.ref b, v, u, .ref cd] ∧ BoxAt H b ∧ EqAt Z H r v u' ∧ RowAt H r u ∧ r.good ∧ H cd = some (.dK kv) ∧ kv.length ≤ 11 ∧
  (∀ s ∈ r.all, goodN s ∧ ∃ s', valV kv (.inr s) = some (.str s') ∧ goodN s') ∧ ∀ H2, ExB b H H2 → BoxAt H2 b → Q (.bl true) H2
theorem ok_lacking_right_l (T : Txt K mg Z)  : FnG P w K mg base CX0 (30) Z.f_lacking_right_l Z.fd_lacking_right_l ["_law_box_here", "_law_equation", "_law_row_here", "_law_calls_here"] (sp_lacking_right_l Z) := by
  have G_once_l := ok_once_l (P := P) (w := w) (base := base) T
  have G_tells_l := ok_tells_l (P := P) (w := w) (base := base) T
  have G_mentions_l := ok_mentions_l (P := P) (w := w) (base := base) T
  have G_take_l := ok_take_l (P := P) (w := w) (base := base) T
  have G_refused_l := ok_refused_l (P := P) (w := w) (base := base) T
  refine T.F_lacking_right_l.okG sc_lacking_right_l (fun vs H Q E h => ?_) (fun cdv AA outer s H vs Q E hgd hr h => ?_)
  · obtain ⟨b, r, v, u, u', cd, kv, rfl, _⟩ := h
    rfl
  · obtain ⟨b, r, v, u, u', cd, kv, rfl, hB, hE, hrow, hg, hcd, hkl, hall, k⟩ := h
    have hal := Rw.all_len hg
    have hap := Rw.all_pos hg
    have hal2 : r.tells.length + r.names.length ≤ 1000 := by unfold Rw.all at hal; rw [List.length_append] at hal; exact hal
    have hop := once_pos hap
    have hol := once_len r.all
    have hnd := once_nodup r.all
    have ncb := box_ne hB hcd (fun _ _ _ z => by cases z)
    refine ⟨_, (pss_cons (ps_set (i := 4) sc_lacking_right_l.nd rfl (Or.inl rfl) (pe_call G_once_l (hr.mono (by omega)) rfl T.g_once_l T.F_once_l.kp T.b_once_l .nil pass0 (pa_cons (pe_op op_cat (pe_call G_tells_l (hr.mono (by omega)) rfl T.g_tells_l T.F_tells_l.kp T.b_tells_l .nil pass0 (pa_cons (pv 2) pa_nil)) (pe_call G_mentions_l (hr.mono (by omega)) rfl T.g_mentions_l T.F_mentions_l.kp T.b_mentions_l .nil pass0 (pa_cons (pv 2) pa_nil))) pa_nil)))
      (pss_cons (ps_set (i := 5) sc_lacking_right_l.nd rfl (Or.inl rfl) (pe_call G_take_l (hr.mono (by omega)) rfl T.g_take_l T.F_take_l.kp T.b_take_l .nil pass0 (pa_cons (pv 0) (pa_cons (pe_callB call_len_seq (by rfl) T.n_len (by decide +kernel) (pa_cons (pv 4) pa_nil)) pa_nil))))
      (pss_cons (ps_set (i := 6) sc_lacking_right_l.nd rfl (Or.inl rfl) (pe_callTy call_dictD (by rfl) T.n_dict (by decide +kernel) (pa_cons (pv 3) pa_nil)))
      (Evl.pss_cut (ps_if (pt_cmpR op_lt (pe_op op_add (pv 5) pe_int) (pe_callB call_len_seq (by rfl) T.n_len (by decide +kernel) (pa_cons (pv 4) pa_nil)) (nomark _)) (pss_one (ps_dput (hu_of hr) (pv 6) (pe_ix ix_list (pv 4) (pe_un un_neg pe_int) (fun _ _ => rfl)) pe_int rfl)) pss_nil)
      (pss_cons (ps_set (i := 7) sc_lacking_right_l.nd rfl (Or.inl rfl) (pe_ix ix_list (pe_lst (pa_cons pe_non (pa_cons pe_str (pa_cons pe_str (pa_cons pe_str (pa_cons pe_int (pa_cons pe_bl (pa_cons (pe_tup (pa_cons pe_str pa_nil)) (pa_cons (pe_lst (pa_cons pe_str pa_nil)) (pa_cons pe_str (pa_cons pe_dnewK pa_nil))))))))))) (pe_call G_take_l (hr.mono (by omega)) rfl T.g_take_l T.F_take_l.kp T.b_take_l .nil pass0 (pa_cons (pv 0) (pa_cons pe_int pa_nil))) (fun _ _ => rfl)))
      (pss_cons (ps_dput (hu_of hr) (pv 6) (pe_ix ix_list (pv 4) (pv 5) (fun _ _ => rfl)) (pv 7) rfl)
      (pss_cons (ps_if (pt_cmpR (op_neD hr.units) (pe_callG hgd G_refused_l (hr.mono (by omega)) rfl T.g_refused_l T.F_refused_l.kp T.b_refused_l pass0 (pa_cons (pv 1) (pa_cons (pv 6) pa_nil))) (pe_lst (pa_cons (pe_callB (call_reprQ hgd (un62 hr)) (by rfl) T.n_repr (by decide +kernel) (pa_cons (pv 7) pa_nil)) (pa_cons pe_bl (pa_cons pe_bl pa_nil)))) (nomark _)) (pss_one (ps_ret pe_bl)) pss_nil)
      (pss_cons (ps_expr (pe_dpop1 (pv 6) (pe_ix ix_list (pv 4) (pv 5) (fun _ _ => rfl)) ⟨rfl, rfl, rfl, rfl⟩))
      (pss_one (ps_ret (pe_cmpR (op_eqD hr.units) (pe_callG hgd G_refused_l (hr.mono (by omega)) rfl T.g_refused_l T.F_refused_l.kp T.b_refused_l pass0 (pa_cons (pv 1) (pa_cons (pv 6) pa_nil))) (pe_lst (pa_cons (pe_callB (call_reprQ hgd (un62 hr)) (by rfl) T.n_repr (by decide +kernel) (pa_cons (pe_ix ix_list (pv 4) (pv 5) (fun _ _ => rfl)) pa_nil)) (pa_cons pe_bl (pa_cons pe_bl pa_nil)))) (nomark _)))))))))))), ?_⟩
    walk_at "ss"
    refine ⟨r, u, rfl, hrow, hg, fun l1 H1 hl1 e1 g1 => ?_⟩
    walk_at "ss"
    refine ⟨r, u, rfl, hrow.up e1, hg, fun l2 H2 hl2 e2 g2 => ?_⟩
    refine c_cat (e2 _ _ g1) g2 (fun l3 H3 hl3 e3 g3 => ?_) (by rw [List.length_map, List.length_map]; omega)
    walk_at "ss"
    refine ⟨l3, r.all, rfl, by rw [g3]; unfold Rw.all; rw [List.map_append], by omega, fun nl H4 hnl e4 g4 => ?_⟩
    have E4 : Ex H H4 := e1.trans (e2.trans (e3.trans e4))
    walk_at "ss"
    refine ⟨nl, _, rfl, .inl (SqL.of g4), ?_⟩
    walk_at "ss"
    refine ⟨b, _, rfl, hB.up E4, by rw [List.length_map]; omega, by rw [List.length_map]; omega, fun d H5 h50 h51 e5 b5 => ?_⟩
    rw [List.length_map] at h51
    obtain ⟨at0, rfl⟩ := Int.eq_ofNat_of_zero_le h50
    have hat : at0 < (once r.all).length := by omega
    have n5 := nl_up hop (hB.up E4) g4 e5
    have E5 : ExB b H H5 := (ExB.of E4).trans e5
    walk_at "ss"
    refine ⟨cd, kv, rfl, .inl (E5 _ _ ncb hcd), fun ld hld => ?_⟩
    have hldH : H ld = none := freshB E5 b5 hld
    have nbl : b ≠ ld := by
      obtain ⟨ob, hob⟩ := b5.some
      exact ne_of_none hob hld
    have nnl : nl ≠ ld := ne_of_none n5 hld
    have g6 : upd H5 ld (.dK kv) ld = some (.dK kv) := upd_same
    have E6 : ExB b H (upd H5 ld (.dK kv)) := exB_put E5 hldH
    have b6 : BoxAt (upd H5 ld (.dK kv)) b := box_put b5 nbl
    have n6 : upd H5 ld (.dK kv) nl = some (.lst ((once r.all).map V.str)) := by rw [upd_ne nnl]; exact n5
    generalize upd H5 ld (.dK kv) = H6 at g6 E6 b6 n6
    obtain ⟨sa, hsa⟩ : ∃ s, (once r.all)[at0]? = some s := ⟨_, List.getElem?_eq_getElem hat⟩
    obtain ⟨j, hj, hfirst⟩ := once_first hsa
    walk_at "ss"
    refine c_cut (M := fun σ' G => σ' = [some (.ref b), some v, some u, some (.ref cd), some (.ref nl), some (.int (at0 : Int)), some (.ref ld), none] ∧ ExB b H G ∧ BoxAt G b ∧ G nl = some (.lst ((once r.all).map V.str)) ∧ ∃ kv1, G ld = some (.dK kv1) ∧ kv1.length ≤ 12 ∧ ∀ z ∈ (once r.all).take at0, valV kv1 (.inr z) = valV kv (.inr z)) ?_ ?_
    · walk_at "ss"
      refine ⟨nl, _, rfl, .inl (SqL.of n6), ?_⟩
      walk_at "ss"
      rw [List.length_map]
      refine if_cs (fun hc => ?_) fun hc => ?_
      · have hlt : at0 + 1 < (once r.all).length := by have := of_decide_eq_true hc; omega
        walk_at "ss"
        have hlast : atI ((once r.all).map V.str) (-1) = some (.str ((once r.all)[(once r.all).length - 1]'(by omega))) := by
          rw [at_last (by rw [List.length_map]; omega), List.length_map, List.getElem?_map, List.getElem?_eq_getElem (by omega)]
          rfl
        refine c_ixL (SqL.of n6) hlast ?_
        have hpl := putK_len kv (.inr ((once r.all)[(once r.all).length - 1]'(by omega))) (.int 7)
        refine ⟨ld, _, rfl, .inl ⟨_, .inr _, g6, rfl, Evl.sz_lt (by omega), rfl⟩, ?_⟩
        walk_at "ss"
        refine ⟨exB_put E6 hldH, box_put b6 nbl, by rw [upd_ne nnl]; exact n6, _, upd_same, by omega, fun z hz => ?_⟩
        rw [valV_put, if_neg (fun e => nodup_at hnd (List.getElem?_eq_getElem (by omega)) hz (by omega) (Sum.inr.inj e))]
      · walk_at "ss"
        exact ⟨E6, b6, n6, kv, g6, by omega, fun z _ => rfl⟩
    · rintro σ' G ⟨rfl, E7, b7, n7, kv1, g7, hk1, hv1⟩
      walk_at "ss"
      refine newT fun p1 G1 hp1 f1 m1 => ?_
      walk_at "ss"
      refine newL fun p2 G2 hp2 f2 m2 => ?_
      walk_at "ss"
      intro p3 hp3
      have f3 : Ex G2 (upd G2 p3 (.dK [])) := Ex.new hp3
      have m3 : upd G2 p3 (.dK []) p3 = some (.dK []) := upd_same
      generalize upd G2 p3 (.dK []) = G3 at f3 m3
      walk_at "ss"
      refine newL fun p4 G4 hp4 f4 m4 => ?_
      have F4 : Ex G G4 := f1.trans (f2.trans (f3.trans f4))
      walk_at "ss"
      refine ⟨b, 10, rfl, b7.up F4, by decide, by decide, fun d0 G5 h0 h1 x5 b8 => ?_⟩
      have nb1 : ∀ {p : Addr} {o : HO}, G4 p = some o → (∀ x y z : Int, o ≠ .lst [.int x, .int y, .int z]) → G5 p = some o := fun hp hn => x5 _ _ (box_ne (b7.up F4) hp hn) hp
      have m1' := nb1 ((f2.trans (f3.trans f4)) _ _ m1) (fun _ _ _ z => by cases z)
      have m2' := nb1 ((f3.trans f4) _ _ m2) (fun _ _ _ z => by cases z)
      have m3' := nb1 (f4 _ _ m3) (fun _ _ _ z => by cases z)
      have m4' := nb1 m4 (fun _ _ _ z => by cases z)
      have g8 := nb1 (F4 _ _ g7) (fun _ _ _ z => by cases z)
      have n8 := nl_up hop (b7.up F4) (F4 _ _ n7) x5
      have E8 : ExB b H G5 := E7.trans ((ExB.of F4).trans x5)
      obtain ⟨w0, t, hw, hot, hG⟩ := bads (K := K) (p1 := p1) (p2 := p2) (p3 := p3) h0 h1
      refine c_ixL (SqL.of m4') hw ?_
      walk_at "ss"
      have hats : atI ((once r.all).map V.str) (at0 : Int) = some (.str sa) := atI_nat (by rw [List.getElem?_map, hsa] <;> rfl)
      refine c_ixL (SqL.of n8) hats ?_
      refine ⟨ld, _, rfl, .inl ⟨_, .inr sa, g8, rfl, Evl.sz_lt (by omega), rfl⟩, ?_⟩
      have l1 : p1 ≠ ld := (ne_of_none g7 hp1).symm
      have l2 : p2 ≠ ld := (ne_of_none (f1 _ _ g7) hp2).symm
      have l3 : p3 ≠ ld := (ne_of_none ((f1.trans f2) _ _ g7) hp3).symm
      generalize hkv2 : putK kv1 (.inr sa) w0 = kv2
      have hva : valV kv2 (.inr sa) = some w0 := by rw [← hkv2, valV_put, if_pos rfl]
      have hvz : ∀ (i : Nat) (z : Str), i < j → r.all[i]? = some z → z ≠ sa ∧ ∃ s'', valV kv2 (.inr z) = some (.str s'') ∧ goodN s'' := by
        intro i z hi hz
        have hzt := hfirst i z hi hz
        have hne : z ≠ sa := nodup_at hnd hsa hzt (Nat.le_refl _)
        refine ⟨hne, ?_⟩
        rw [← hkv2, valV_put, if_neg (fun e => hne (Sum.inr.inj e)), hv1 z hzt]
        exact (hall z (List.mem_of_getElem? hz)).2
      have E9 : ExB b H (upd G5 ld (.dK kv2)) := exB_put E8 hldH
      have b9 : BoxAt (upd G5 ld (.dK kv2)) b := box_put b8 nbl
      have g9 : upd G5 ld (.dK kv2) ld = some (.dK kv2) := upd_same
      have n9 : upd G5 ld (.dK kv2) nl = some (.lst ((once r.all).map V.str)) := by rw [upd_ne nnl]; exact n8
      have q1 : upd G5 ld (.dK kv2) p1 = some (.tup [.str "a"]) := by rw [upd_ne l1]; exact m1'
      have q2 : upd G5 ld (.dK kv2) p2 = some (.lst [.str "a"]) := by rw [upd_ne l2]; exact m2'
      have q3 : upd G5 ld (.dK kv2) p3 = some (.dK []) := by rw [upd_ne l3]; exact m3'
      generalize upd G5 ld (.dK kv2) = G9 at E9 b9 g9 n9 q1 q2 q3
      have okl : ([.str t, .bl false, .bl true] : List V).all okV = true := by
        simp only [List.all_cons, List.all_nil, Bool.and_true]
        rw [okT_V hot]
        rfl
      walk_at "ss"
      refine ⟨r, v, u', ld, kv2, j, sa, w0, t, rfl, hE.nl (NL.box E9 hB), hg, g9, hj, fun i z hi hz => (hvz i z hi hz).2, .inr ⟨hva, (hG G9 q1 q2 q3).1⟩, fun G10 e10 => (hG G10 (e10 _ _ q1) (e10 _ _ q2) (e10 _ _ q3)).2, fun la Ga hla ea ga => ?_⟩
      walk_at "ss"
      refine ⟨w0, t, rfl, (hG Ga (ea _ _ q1) (ea _ _ q2) (ea _ _ q3)).2, ?_⟩
      walk_at "ss"
      refine newL fun lb Gb hlb eb gb => ?_
      refine c_neLs (SqL.of (eb _ _ ga)) (SqL.of gb) okl okl ?_
      rw [eqL_refl (okL_flat okl)]
      walk_at "ss"
      have eab := ea.trans eb
      refine c_dpop ?_
      walk_at "ss"
      refine ⟨.inl ⟨_, .inl (eab _ _ g9)⟩, ?_⟩
      walk_at "ss"
      refine c_ixL (SqL.of (eab _ _ n9)) hats ?_
      refine ⟨kv2, .inr sa, w0, eab _ _ g9, rfl, hva, ?_⟩
      have E11 : ExB b H (upd Gb ld (.dK (dropK kv2 (.inr sa)))) := exB_put (E9.trans (ExB.of eab)) hldH
      have b11 : BoxAt (upd Gb ld (.dK (dropK kv2 (.inr sa)))) b := box_put (b9.up eab) nbl
      have g11 : upd Gb ld (.dK (dropK kv2 (.inr sa))) ld = some (.dK (dropK kv2 (.inr sa))) := upd_same
      have n11 : upd Gb ld (.dK (dropK kv2 (.inr sa))) nl = some (.lst ((once r.all).map V.str)) := by rw [upd_ne nnl]; exact eab _ _ n9
      generalize upd Gb ld (.dK (dropK kv2 (.inr sa))) = G11 at E11 b11 g11 n11
      have hsg := (hall sa (List.mem_of_getElem? hj)).1
      have hrs : ∀ G : Hp, RpV K G (.str sa) (PyData.str sa).shown := fun G => ⟨.str sa, .inl ⟨.str sa, (rp_str hsg.2.2).mono (by decide) (by have := hsg.2.1; omega)⟩, rfl⟩
      have okl2 : ([.str (PyData.str sa).shown, .bl false, .bl true] : List V).all okV = true := by
        simp only [List.all_cons, List.all_nil, Bool.and_true]
        rw [okT_V (by rw [PyData.shown]; exact okT_repr hsg.2.2)]
        rfl
      walk_at "ss"
      refine ⟨r, v, u', ld, _, j, sa, .str sa, _, rfl, hE.nl (NL.box E11 hB), hg, g11, hj, fun i z hi hz => ?_, .inl ⟨by rw [valV_drop, if_pos rfl], rfl⟩, fun G12 _ => hrs G12, fun lc Gc hlc ec gc => ?_⟩
      · obtain ⟨hne, hv⟩ := hvz i z hi hz
        rw [valV_drop, if_neg (fun e => hne (Sum.inr.inj e))]
        exact hv
      walk_at "ss"
      refine c_ixL (SqL.of (ec _ _ n11)) hats ?_
      walk_at "ss"
      refine ⟨_, _, rfl, hrs _, ?_⟩
      walk_at "ss"
      refine newL fun le Ge hle ee ge => ?_
      refine c_eqLs (SqL.of (ee _ _ gc)) (SqL.of ge) okl2 okl2 ?_
      rw [eqL_refl (okL_flat okl2)]
      walk_at "ss"
      exact k _ (E11.trans (ExB.of (ec.trans ee))) (b11.up (ec.trans ee))

/-! ### comprehensions over dicts; dicts of pairs -/
theorem c_lockE {t : TE} {Q : VK} {σ : St} {H : Hp} {d : Addr} {u : HO} (hd : H d = some u) (hm : Mut (some u)) (h : ∀ od, t σ (upd H d (.frz od u)) fun v H' => H' d = some (.frz od u) ∧ Q v (upd H' d u)) : tLockE t σ H Q := ⟨d, u, hd, hm, h⟩
theorem c_lcK {td : TE} {g : L2.TG} {tt : TT} {te : TE} {vs : List Nat} {σ : St} {H : Hp} {Q : VK} (h : td σ H fun x H1 => ∃ d o, x = .ref d ∧ ((∃ kvs, H1 d = some (.frz o (.dK kvs)) ∧ LcI (Itk d o kvs) g tt te vs σ H1 Q) ∨ ∃ kvs, H1 d = some (.frz o (.dT kvs)) ∧ LcI (Itkt d o kvs) g tt te vs σ H1 Q)) : tLc (iKeys td) g tt te vs σ H Q := h
theorem call_lenK {X : Cx} : CallR X (.builtin "len") (fun xs H Q => ∃ (a : Addr) (kvs : List (Key × V)), xs = [.ref a] ∧ Rd H a (.dK kvs) ∧ Q (.int kvs.length) H) := by
  intro pins s σ H xs us Q I r h
  obtain ⟨a, kvs, rfl, e, q⟩ := h
  rw [Vals.ref1 r]
  exact d_len I e fun t s' I' => ⟨.int _, H, I', ⟨_, rfl⟩, q⟩
theorem paired_up {α β : Type} {F G : α → β → Prop} (h : ∀ a b, F a b → G a b) : ∀ {l : List α} {m : List β}, Paired F l m → Paired G l m
  | _, _, .nil => .nil
  | _, _, .cons p q => .cons (h _ _ p) (paired_up h q)
theorem paired_snoc {α β : Type} {F : α → β → Prop} {a : α} {b : β} (p : F a b) : ∀ {l : List α} {m : List β}, Paired F l m → Paired F (l ++ [a]) (m ++ [b])
  | _, _, .nil => .cons p .nil
  | _, _, .cons q r => .cons q (paired_snoc p r)
theorem paired_len {α β : Type} {F : α → β → Prop} : ∀ {l : List α} {m : List β}, Paired F l m → l.length = m.length
  | _, _, .nil => rfl
  | _, _, .cons _ q => by rw [List.length_cons, List.length_cons, paired_len q]
theorem lcK {d : Addr} {o : Obj} {kvs : List (Key × V)} {g : L2.TG} {tt : TT} {te : TE} {vs : List Nat} {σ : St} {H : Hp} {Q : VK} (F : Key × V → Bool) (R0 : Key × V → V → Hp → Prop) (hst : ∀ kv y G G2, NL G G2 → R0 kv y G → R0 kv y G2)
    (hd : H d = some (.frz o (.dK kvs))) (hn : kvs.length ≤ 1000)
    (ht : ∀ (i : Nat) (kv : Key × V), kvs[i]? = some kv → ∀ H2, Ex H H2 → ∀ (R : V → Hp → Prop) (N : Hp → Prop), (F kv = true → ∀ y H3, Ex H2 H3 → R0 kv y H3 → R y H3) → (F kv = false → ∀ H3, Ex H2 H3 → N H3) →
      g (kV kv.1) (wipe σ vs) H2 fun σ2 H3 => wipe σ2 vs = wipe σ vs ∧ tt σ2 H3 fun c H4 => if c = true then te σ2 H4 fun y H5 => R y H5 else N H4)
    (k : ∀ ys p H2, Paired (fun y kv => R0 kv y H2) ys (kvs.filter F) → H p = none → Ex H H2 → H2 p = some (.lst ys) → Q (.ref p) H2) : LcI (Itk d o kvs) g tt te vs σ H Q := by
  refine fun D hD => ?_
  have ex : ∀ {G : Hp} {o : HO}, Ex H G → Ex H (upd G D o) := fun e b u hb => by rw [upd_ne (ne_of_none hb hD)]; exact e b u hb
  refine lc_it walk_keys (fun i H' => i ≤ kvs.length ∧ Ex H H' ∧ ∃ ys, Paired (fun y kv => R0 kv y H') ys ((kvs.take i).filter F) ∧ H' D = some (.lst ys))
    ⟨Nat.zero_le _, ex (Ex.refl _), [], .nil, upd_same⟩ (fun i H' _ p => p.2.1 _ _ hd) (fun i x H' H'' hi p y => ?_) (fun H' p => ?_)
  · obtain ⟨rfl, key, v, hk, rfl⟩ := y
    obtain ⟨_, e1, ys, hy, hD'⟩ := p
    have hyl : ys.length ≤ i := by
      rw [paired_len hy]
      exact Nat.le_trans (List.length_filter_le _ _) (by rw [List.length_take]; omega)
    have htk : kvs.take (i + 1) = kvs.take i ++ [(key, v)] := by rw [List.take_add_one, hk]; rfl
    refine ht i (key, v) hk H'' e1 (fun y H4 => ∃ acc, H4 D = some (.lst acc) ∧ acc.length < sizeLine ∧ (i + 1 ≤ kvs.length ∧ Ex H (upd H4 D (.lst (acc ++ [y]))) ∧ ∃ zs, Paired (fun z kv => R0 kv z (upd H4 D (.lst (acc ++ [y])))) zs ((kvs.take (i + 1)).filter F) ∧ upd H4 D (.lst (acc ++ [y])) D = some (.lst zs))) (fun H4 => i + 1 ≤ kvs.length ∧ Ex H H4 ∧ ∃ zs, Paired (fun y kv => R0 kv y H4) zs ((kvs.take (i + 1)).filter F) ∧ H4 D = some (.lst zs)) (fun hF y H3 e3 py => ?_) (fun hF H3 e3 => ?_)
    · have hD3 := e3 _ _ hD'
      have eD : NL H3 (upd H3 D (.lst (ys ++ [y]))) := NL.upd hD3
      refine ⟨ys, hD3, Evl.sz_lt (by omega), hi, ex (e1.trans e3), ys ++ [y], ?_, upd_same⟩
      rw [htk, List.filter_append, List.filter_cons_of_pos hF, List.filter_nil]
      exact paired_snoc (F := fun a b => R0 b a (upd H3 D (HO.lst (ys ++ [y])))) (hst _ _ _ _ eD py) (paired_up (fun a b h => hst _ _ _ _ eD (hst _ _ _ _ (NL.of e3) h)) hy)
    · refine ⟨hi, e1.trans e3, ys, ?_, e3 _ _ hD'⟩
      rw [htk, List.filter_append, List.filter_cons_of_neg (by rw [hF]; decide), List.filter_nil, List.append_nil]
      exact paired_up (fun a b h => hst _ _ _ _ (NL.of e3) h) hy
  · obtain ⟨_, e1, ys, hy, hD'⟩ := p
    rw [List.take_length] at hy
    exact k ys D H' hy hD e1 hD'
theorem ex_unlock {H G : Hp} {d : Addr} {od : Obj} {u : HO} (hd : H d = some u) (e : Ex (upd H d (.frz od u)) G) : Ex H (upd G d u) := fun a o ha => by
  by_cases h : a = d
  · subst h
    rw [upd_same, ← ha, hd]
  · rw [upd_ne h]
    exact e a o (by rw [upd_ne h]; exact ha)
theorem RowAt.tu {H H2 : Hp} (e : ∀ a xs, H a = some (.tup xs) → H2 a = some (.tup xs)) {r : Rw} {u : V} (h : RowAt H r u) : RowAt H2 r u := by
  cases r with
  | pl n t => obtain ⟨a, w, h1, h2, h3⟩ := h; exact ⟨a, w, h1, e _ _ h2, h3.keep e⟩
  | vd k n v x => obtain ⟨a, h1, h2⟩ := h; exact ⟨a, h1, e _ _ h2⟩
  | wh n x y => obtain ⟨a, h1, h2⟩ := h; exact ⟨a, h1, e _ _ h2⟩
  | sm ns => obtain ⟨a, p, h1, h2, h3⟩ := h; exact ⟨a, p, h1, e _ _ h2, e _ _ h3⟩
  | cl os nd xs => obtain ⟨a, p, q, h1, h2, h3, h4⟩ := h; exact ⟨a, p, q, h1, e _ _ h2, e _ _ h3, e _ _ h4⟩
theorem tup_lock {H : Hp} {d : Addr} {od : Obj} {kv : List (Key × V)} (hd : H d = some (.dK kv)) {u : HO} : ∀ a xs, H a = some (.tup xs) → upd H d (.frz od u) a = some (.tup xs) := fun a xs h => by
  rw [upd_ne (ne_of h hd (fun z => by cases z))]
  exact h
theorem putK_new {kvs : List (Key × V)} {k : Key} {v : V} (h : k ∉ kvs.map (·.1)) : putK kvs k v = kvs ++ [(k, v)] := by
  unfold putK
  rw [if_neg]
  intro ha
  obtain ⟨p, hp, he⟩ := List.any_eq_true.mp ha
  exact h (List.mem_map.mpr ⟨p, hp, by simpa using he⟩)
theorem mergeK_nodup : ∀ (more kvs : List (Key × V)), ((kvs ++ more).map (·.1)).Nodup → mergeK kvs more = kvs ++ more
  | [], kvs, _ => (List.append_nil _).symm
  | p :: more, kvs, h => by
    have hp : p.1 ∉ kvs.map (·.1) := by
      rw [List.map_append, List.nodup_append] at h
      intro hm
      exact h.2.2 _ hm _ (List.mem_map.mpr ⟨p, List.mem_cons_self, rfl⟩) rfl
    show mergeK (putK kvs p.1 p.2) more = _
    rw [putK_new hp, mergeK_nodup more (kvs ++ [(p.1, p.2)]) (by rw [List.append_assoc]; exact h), List.append_assoc]
    rfl
theorem valV_filter {kvs : List (Key × V)} {F : Key × V → Bool} {k : Key} (h : ∀ v v', F (k, v) = F (k, v')) {v0 : V} (hF : F (k, v0) = true) : valV (kvs.filter F) k = valV kvs k := by
  induction kvs with
  | nil => rfl
  | cons p r ih =>
    by_cases e : p.1 = k
    · have hp : F p = true := by rw [← hF, show p = (k, p.2) from by rw [← e]]; exact h _ _
      rw [List.filter_cons_of_pos hp, valV_pos e, valV_pos e]
    · rw [valV_neg e]
      cases hp : F p with
      | true => rw [List.filter_cons_of_pos hp, valV_neg e, ih]
      | false => rw [List.filter_cons_of_neg (by rw [hp]; decide), ih]
theorem eqK_refl {kv : List (Key × V)} (hn : (kv.map (·.1)).Nodup) (hf : ∀ p ∈ kv, okV p.2 = true) : eqK kv kv = true := by
  unfold eqK
  rw [beq_self_eq_true, Bool.true_and, List.all_eq_true]
  intro p hp
  rw [valV_mem (k := p.1) (v := p.2) hn hp]
  exact eqV_refl (okV_flat (hf p hp))
/-! ### names there and back -/
def fK (kv : List (Key × V)) (s : Str) : Str := match valV kv (.inr s) with
  | some (.str s') => s'
  | _ => s
theorem fK_of {kv : List (Key × V)} {s s' : Str} (h : valV kv (.inr s) = some (.str s')) : fK kv s = s' := by unfold fK; rw [h]
theorem Tm.ren_ren {f g : Str → Str} : ∀ {t : Tm}, (∀ s ∈ t.flat, g (f s) = s) → (t.ren f).ren g = t := by
  intro t
  induction t with
  | nm s => intro h; simp only [Tm.ren]; rw [h s (by simp [Tm.flat])]
  | vl v => intro _; rfl
  | two op a b iha ihb => intro h; simp only [Tm.ren]; rw [iha fun s hs => h s (List.mem_append_left _ hs), ihb fun s hs => h s (List.mem_append_right _ hs)]
  | nt a iha => intro h; simp only [Tm.ren]; rw [iha h]
  | pk c a b ihc iha ihb => intro h; simp only [Tm.ren]; rw [ihc fun s hs => h s (List.mem_append_left _ (List.mem_append_left _ hs)), iha fun s hs => h s (List.mem_append_left _ (List.mem_append_right _ hs)), ihb fun s hs => h s (List.mem_append_right _ hs)]
theorem map_back {f g : Str → Str} {l : List Str} (h : ∀ s ∈ l, g (f s) = s) : (l.map f).map g = l := by
  rw [List.map_map]
  exact (List.map_congr_left h).trans (List.map_id _)
theorem Rw.ren_ren {f g : Str → Str} {r : Rw} (h : ∀ s ∈ r.all, g (f s) = s) : (r.ren f).ren g = r := by
  cases r with
  | pl n t => simp only [Rw.ren]; rw [h n (by simp [Rw.all, Rw.tells]), Tm.ren_ren fun s hs => h s (List.mem_append_right _ (flat_names hs))]
  | vd k n v x => simp only [Rw.ren]; rw [h n (by simp [Rw.all, Rw.tells]), h x (by simp [Rw.all, Rw.names])]
  | wh n x y => simp only [Rw.ren]; rw [h n (by simp [Rw.all, Rw.tells]), h x (List.mem_append_right _ (once_sub (by simp))), h y (List.mem_append_right _ (once_sub (by simp)))]
  | sm ns => simp only [Rw.ren]; rw [map_back fun s hs => h s (List.mem_append_right _ (once_sub hs))]
  | cl os nd xs => simp only [Rw.ren]; rw [map_back (l := os) fun s hs => h s (List.mem_append_left _ hs), map_back (l := xs) fun s hs => h s (List.mem_append_right _ (once_sub hs))]
theorem Rw.ren_all {f : Str → Str} {r : Rw} {z : Str} (h : z ∈ (r.ren f).all) : ∃ s ∈ r.all, z = f s := by
  have key : ∀ l : List Str, (∀ s ∈ l, s ∈ r.all) → z ∈ l.map f → ∃ s ∈ r.all, z = f s := fun l hl hz => by
    obtain ⟨s, hs, rfl⟩ := List.mem_map.mp hz
    exact ⟨s, hl s hs, rfl⟩
  cases r with
  | pl n t =>
    rcases List.mem_append.mp h with h | h
    · exact key [n] (fun s hs => List.mem_append_left _ hs) h
    · have h2 : z ∈ (t.ren f).flat := names_flat h
      rw [Tm.ren_flat] at h2
      exact key t.flat (fun s hs => List.mem_append_right _ (flat_names hs)) h2
  | vd k n v x =>
    rcases List.mem_append.mp h with h | h
    · exact key [n] (fun s hs => List.mem_append_left _ hs) h
    · exact key [x] (fun s hs => List.mem_append_right _ hs) h
  | wh n x y =>
    rcases List.mem_append.mp h with h | h
    · exact key [n] (fun s hs => List.mem_append_left _ hs) h
    · exact key [x, y] (fun s hs => List.mem_append_right _ (once_sub hs)) (once_mem h)
  | sm ns =>
    rcases List.mem_append.mp h with h | h
    · cases h
    · exact key ns (fun s hs => List.mem_append_right _ (once_sub hs)) (once_mem h)
  | cl os nd xs =>
    rcases List.mem_append.mp h with h | h
    · exact key os (fun s hs => List.mem_append_left _ hs) h
    · exact key xs (fun s hs => List.mem_append_right _ (once_sub hs)) (once_mem h)
theorem str_ok {l : List Str} (h : ∀ s ∈ l, goodN s) : (l.map V.str).all okV = true := by
  rw [List.all_eq_true]
  intro x hx
  obtain ⟨s, hs, rfl⟩ := List.mem_map.mp hx
  exact okT_V (h s hs).2.2
theorem Tm.good_flat : ∀ {t : Tm}, t.good → ∀ s ∈ t.flat, goodN s := by
  intro t
  induction t with
  | nm z => intro g s hs; have : s = z := (by simpa [Tm.flat] using hs); rw [this]; exact g
  | vl v => intro _ s hs; cases hs
  | two op a b iha ihb => intro g s hs; exact (List.mem_append.mp hs).elim (iha g.2.1 s) (ihb g.2.2 s)
  | nt a iha => intro g s hs; exact iha g s hs
  | pk c a b ihc iha ihb => intro g s hs; exact (List.mem_append.mp hs).elim (fun h => (List.mem_append.mp h).elim (ihc g.1 s) (iha g.2.1 s)) (ihb g.2.2 s)
theorem Rw.good_all {r : Rw} (g : r.good) : ∀ s ∈ r.all, goodN s := by
  intro s hs
  cases r with
  | pl n t =>
    rcases List.mem_append.mp hs with h | h
    · have : s = n := by simpa [Rw.tells] using h
      rw [this]; exact g.1
    · exact Tm.good_flat g.2.1 s (names_flat h)
  | vd k n v x =>
    rcases List.mem_append.mp hs with h | h
    · have : s = n := by simpa [Rw.tells] using h
      rw [this]; exact g.2.1
    · have : s = x := by simpa [Rw.names] using h
      rw [this]; exact g.2.2.2
  | wh n x y =>
    rcases List.mem_append.mp hs with h | h
    · have : s = n := by simpa [Rw.tells] using h
      rw [this]; exact g.1
    · have h2 : s ∈ [x, y] := once_mem h
      simp only [List.mem_cons, List.not_mem_nil, or_false] at h2
      rcases h2 with rfl | rfl
      · exact g.2.1
      · exact g.2.2
  | sm ns =>
    rcases List.mem_append.mp hs with h | h
    · cases h
    · exact g.2.2 s (once_mem h)
  | cl os nd xs =>
    rcases List.mem_append.mp hs with h | h
    · exact g.2.2.1 s h
    · exact g.2.2.2.2.2.2 s (once_mem h)

/-! ### the law -/
theorem EqAt.cls2 {H : Hp} {r : Rw} {v u : V} (h : EqAt Z H r v u) : ∃ a dx fs, v = .ref a ∧ H a = some (.ins (clsK Z r.kind) dx fs) ∧ MCE Z (clsK Z r.kind) ∧ offE fs ∧ fs.lookup ("renamed" : Str) = none ∧ RowAt H r u := by
  obtain ⟨a, dx, fs, h1, h2, h3, _, h5, _⟩ := h
  exact ⟨a, dx, fs, h1, h2, ⟨_, r.kind_lt, rfl⟩, h5.1, h5.2.2, h3⟩
theorem re_told {r : Rw} {v u : V} {H : Hp} {Q : VK} (q : Q u H) : Re_told r v u H Q := q
theorem exB_ex {b : Addr} {H G G2 : Hp} (e : Ex H G) (hb : H b = none) (x : ExB b G G2) : Ex H G2 := fun a o h => x a o (ne_of_none h hb) (e a o h)
theorem eqL_strs : ∀ {F : List Str}, eqL (F.map V.str) (F.map V.str) = true
  | [] => rfl
  | a :: F => by
    rw [List.map_cons, eqL, eqL_strs, Bool.and_true]
    show (a == a) = true
    exact beq_self_eq_true a
def inAll (r : Rw) : Key × V → Bool := fun p => match p.1 with
  | .inr s => r.all.contains s
  | .inl _ => false
theorem pair_refs {G G' : Hp} (hT : ∀ a xs, G a = some (.tup xs) → G' a = some (.tup xs)) : ∀ {ys : List V} {l : List (Key × V)}, Paired (fun y (kv : Key × V) => ∃ a, y = .ref a ∧ G a = some (.tup [kV kv.1, kv.2])) ys l → ∃ ps : List Addr, ys = ps.map V.ref ∧ Paired (fun p (kv : Key × V) => SqT K G' p [kV kv.1, kv.2]) ps l
  | _, _, .nil => ⟨[], rfl, .nil⟩
  | _, _, .cons ⟨a, h1, h2⟩ q => by
    obtain ⟨ps, rfl, hp⟩ := pair_refs hT q
    subst h1
    exact ⟨a :: ps, rfl, .cons (SqT.of (hT _ _ h2)) hp⟩
theorem pair_keys {F : Key × V → Bool} : ∀ {ys : List V} {l : List (Key × V)}, Paired (fun y (kv : Key × V) => y = kV kv.1) ys l → ys = l.map fun p => kV p.1
  | _, _, .nil => rfl
  | _, _, .cons h q => by rw [List.map_cons, ← pair_keys (F := F) q, h]
theorem valV_in {kv : List (Key × V)} {k : Key} {v : V} (h : valV kv k = some v) : (k, v) ∈ kv := by
  induction kv with
  | nil => cases h
  | cons p r ih =>
    by_cases e : p.1 = k
    · rw [valV_pos e] at h
      have : p = (k, v) := by rw [← e, ← Option.some.inj h]
      rw [this]
      exact List.mem_cons_self
    · rw [valV_neg e] at h
      exact List.mem_cons_of_mem _ (ih h)
/-! the suites of a statement -/
def suiB (s : Stmt) : List Stmt := match s with
  | .For _ _ b _ _ => b
  | .While _ b _ _ => b
  | .If _ b _ _ => b
  | .Try b _ _ _ _ => b
  | _ => []
def suiE (s : Stmt) : List Stmt := match s with
  | .For _ _ _ b _ => b
  | .While _ _ b _ => b
  | .If _ _ b _ => b
  | .Try _ _ b _ _ => b
  | _ => []

def sp_law (K : PySem.W.Frag) : Sp := fun vs H Q _ => ∃ (a : Addr) (ns : List Int), vs = [.ref a] ∧ SqL K H a (ns.map V.int) ∧ ns.length ≤ 63 ∧ ∀ H', Q (.bl true) H'
/-- what the rest of a turn asks -/
def SpcTail (Z : Adr) (t : TS) : Prop := ∀ (nx : St → Hp → Prop) (rt : VK) (bk ct : St → Hp → Prop) (G15 : Hp) (v1 v4 v12 v13 v14 v15 : Option V) (a b nl tp cd kd p1 pd a1 a2 : Addr) (u2 : V) (r : Rw) (kv : List (Key × V)) (nms : List Str), BoxAt G15 b → G15 cd = some (.dK kv) → CallsOk kv nms → (kv.map (·.1)).Nodup → kv.length ≤ 11 → (∀ s ∈ r.all, s ∈ nms) → (∀ s ∈ nms, goodN s) → r.good → EqAt Z G15 r (.ref a1) (.ref p1) → EqAt Z G15 (r.ren (fK kv)) (.ref a2) u2 → RowAt G15 (r.ren (fK kv)) (.ref pd) →
  (∀ (v12 v13 v15 : Option V) (G2 : Hp), ExB b G15 G2 → BoxAt G2 b → nx [some (.ref a), v1, some (.ref b), some (.ref nl), v4, some (.ref tp), some (.ref p1), some (.ref a1), some (.ref cd), some (.ref kd), some (.ref a2), some (.ref pd), v12, v13, v14, v15] G2) → t ⟨nx, rt, bk, ct⟩ [some (.ref a), v1, some (.ref b), some (.ref nl), v4, some (.ref tp), some (.ref p1), some (.ref a1), some (.ref cd), some (.ref kd), some (.ref a2), some (.ref pd), v12, v13, v14, v15] G15
theorem blk_tail (T : Txt K mg Z) {cdv : Value} {AA : Around} {outer : List Env} {s : Shared} {H0 : Hp} {E : XK} (hgd : AA.guards = some []) (hr : Room 33 (AA.deeper (PyProof.Rows.envOfC "law" (defScope s_law) s.heap.objs.size Z.f_law cdv))) :
    ∃ t, PSs (cxOf CX0 P w K mg base N_law "law" (defScope s_law) Z.f_law cdv AA outer s H0 E).nox ((suiB ((suiB ((defBody s_law).getD 0 (.Pass ⟨0, 0, 0, 0⟩))).getD 2 (.Pass ⟨0, 0, 0, 0⟩))).drop 9) t ∧ SpcTail Z t := by
  have G_take_l := ok_take_l (P := P) (w := w) (base := base) T
  have G_tells_l := ok_tells_l (P := P) (w := w) (base := base) T
  have G_mentions_l := ok_mentions_l (P := P) (w := w) (base := base) T
  have G_back_l := ok_back_l (P := P) (w := w) (base := base) T
  have G_lacking_right_l := ok_lacking_right_l (P := P) (w := w) (base := base) T
  have GME_told := gmE_told (P := P) (w := w) (base := base) T
  have GME_renamed := gmE_renamed (P := P) (w := w) (base := base) T
  refine ⟨_, (pss_cons (ps_set (i := 12) sc_law.nd rfl (Or.inr rfl) (pe_callTy (call_dictP rfl) (by rfl) T.n_dict (by decide +kernel) (pa_cons (pe_lock (pe_lc (own := [("_law_name", 13)]) (g := (gName 13)) (tt := (tTest (tOp (rIn K false) (tVar 13) (tOp rCat (tCall sp_tells_l [] E0 (tCons (tVar 6) tNil)) (tCall sp_mentions_l [] E0 (tCons (tVar 6) tNil)))))) (te := (tTup (tCons (tVar 13) (tCons (tDGet (tVar 8) (tVar 13)) tNil)))) rfl sc_law.nd (pi_keys (pv 8)) (blkOk_by (own := [("_law_name", 13)]) (N := N_law) (sc := defScope s_law) (by decide +kernel)) (fun _ _ _ _ _ => (pg_name (i := 13) sc_law.nd rfl (Or.inl rfl))) (fun _ _ _ _ _ => (pts_one (pt_cmpR op_in_seq (pv 13) (pe_op op_cat (pe_call G_tells_l (hr.mono (by omega)) rfl T.g_tells_l T.F_tells_l.kp T.b_tells_l .nil pass0 (pa_cons (pv 6) pa_nil)) (pe_call G_mentions_l (hr.mono (by omega)) rfl T.g_mentions_l T.F_mentions_l.kp T.b_mentions_l .nil pass0 (pa_cons (pv 6) pa_nil))) (by rfl)))) (fun _ _ _ _ _ => (pe_tup (pa_cons (pv 13) (pa_cons (pe_dget (hu_of hr) (pv 8) (pv 13) (fun _ _ => rfl)) pa_nil)))))) pa_nil)))
      (Evl.pss_cut (ps_for PassesOwn.never rfl (pi_list (pe_lock (pe_lc (own := [("_law_one", 14)]) (g := (gName 14)) (tt := (tTest (tOp rNotInDk (tVar 14) (tVar 12)))) (te := (tVar 14)) rfl sc_law.nd (pi_keys (pv 8)) (blkOk_by (own := [("_law_one", 14)]) (N := N_law) (sc := defScope s_law) (by decide +kernel)) (fun _ _ _ _ _ => (pg_name (i := 14) sc_law.nd rfl (Or.inl rfl))) (fun _ _ _ _ _ => (pts_one (pt_cmpR (op_notInDk (hu_of hr)) (pv 14) (pv 12) (by rfl)))) (fun _ _ _ _ _ => (pv 14))))) (pg_name (i := 13) sc_law.nd rfl (Or.inl rfl)) (pss_one (ps_dput (hu_of hr) (pv 12) (pv 13) (pe_ix ix_list (pe_lst (pa_cons pe_non (pa_cons pe_str (pa_cons pe_int (pa_cons (pe_lst (pa_cons (pv 13) pa_nil)) (pa_cons (pe_dget (hu_of hr) (pv 8) (pv 13) (fun _ _ => rfl)) pa_nil)))))) (pe_call G_take_l (hr.mono (by omega)) rfl T.g_take_l T.F_take_l.kp T.b_take_l .nil pass0 (pa_cons (pv 2) (pa_cons pe_int pa_nil))) (fun _ _ => rfl)) rfl)))
      (pss_cons (ps_if (pt_cmpR op_ne (pe_callB (call_reprD hgd hr) (by rfl) T.n_repr (by decide +kernel) (pa_cons (pe_methP0 (pe_methP (pv 7) GME_renamed (hr.mono (by omega)) pass0 (pa_cons (pv 12) pa_nil)) GME_told (hr.mono (by omega)) pass0) pa_nil)) (pe_callB (call_reprD hgd hr) (by rfl) T.n_repr (by decide +kernel) (pa_cons (pv 11) pa_nil)) (nomark _)) (pss_one (ps_ret pe_bl)) pss_nil)
      (pss_cons (ps_set (i := 15) sc_law.nd rfl (Or.inl rfl) (pe_call G_back_l (hr.mono (by omega)) rfl T.g_back_l T.F_back_l.kp T.b_back_l .nil pass0 (pa_cons (pv 8) pa_nil)))
      (Evl.pss_cut (ps_if (PW.pt (pw_and (pt_cmpR op_eq (pe_callB call_lenK (by rfl) T.n_len (by decide +kernel) (pa_cons (pv 15) pa_nil)) (pe_callB call_lenK (by rfl) T.n_len (by decide +kernel) (pa_cons (pv 8) pa_nil)) (nomark _)) (pw_and1 (pt_cmpR op_ne (pe_callB (call_reprD hgd hr) (by rfl) T.n_repr (by decide +kernel) (pa_cons (pe_methP0 (pe_methP (pv 10) GME_renamed (hr.mono (by omega)) pass0 (pa_cons (pv 15) pa_nil)) GME_told (hr.mono (by omega)) pass0) pa_nil)) (pe_callB (call_reprD hgd hr) (by rfl) T.n_repr (by decide +kernel) (pa_cons (pv 6) pa_nil)) (nomark _))))) (pss_one (ps_ret pe_bl)) pss_nil)
      (pss_one (ps_if (pt_not (pt_val (pe_callG hgd G_lacking_right_l (hr.mono (by omega)) rfl T.g_lacking_right_l T.F_lacking_right_l.kp T.b_lacking_right_l pass0 (pa_cons (pv 2) (pa_cons (pv 7) (pa_cons (pv 6) (pa_cons (pv 8) pa_nil))))))) (pss_one (ps_ret pe_bl)) pss_nil))))))), ?_⟩
  intro nx rt bk ct G15 v1 v4 v12 v13 v14 v15 a b nl tp cd kd p1 pd a1 a2 u2 r kv nms B15 gcd15 hok hnd hkl hin hgn hg hv15 hv15' hRd15 kk
  have hfv : ∀ s ∈ nms, valV kv (.inr s) = some (.str (fK kv s)) ∧ goodN (fK kv s) := fun s hs => by
    obtain ⟨s', h1, h2⟩ := hok.1 s hs
    rw [fK_of h1]
    exact ⟨h1, h2⟩
  have hgr : (r.ren (fK kv)).good := Rw.ren_good hg fun s hs => (hfv s (hin s hs)).2
  obtain ⟨_, dx1, fs1, ea1, ha1, hM1, ⟨o1, o2, o3, o4, o5⟩, oR1, R15⟩ := hv15.cls2
  cases ea1
  obtain ⟨_, dx2, fs2, ea2, ha2, hM2, ⟨q1, q2, q3, q4, q5⟩, oR2, hrow2⟩ := hv15'.cls2
  cases ea2
  walk_at "ss"
  have ncb : cd ≠ b := box_ne B15 gcd15 (fun _ _ _ z => by cases z)
  have hal := Rw.all_len hg
  have hal2 : r.tells.length + r.names.length ≤ 1000 := by unfold Rw.all at hal; rw [List.length_append] at hal; exact hal
  have okR : (r.all.map V.str).all okV = true := str_ok (Rw.good_all hg)
  have RL : ∀ od, RowAt (upd G15 cd (.frz od (.dK kv))) r (.ref p1) := fun od => R15.tu (tup_lock gcd15)
  refine c_lockE gcd15 trivial fun od => ?_
  refine c_lcK ?_
  walk_at "ss"
  refine ⟨cd, od, rfl, .inl ⟨kv, upd_same, ?_⟩⟩
  refine lcK (inAll r) (fun p y G => ∃ a, y = .ref a ∧ G a = some (.tup [kV p.1, p.2])) (fun p y G G2 hn ⟨a, h1, h2⟩ => ⟨a, h1, NL.tup hn h2⟩) upd_same (by omega) (fun i p hp F2 f2 R N hY hN => ?_) (fun ys pl G16 hpair hpl e16 g16 => ?_)
  · obtain ⟨s, s', rfl, hs, hgs⟩ := hok.2 _ (List.mem_of_getElem? hp)
    have hvs : valV kv (.inr s) = some (.str s') := valV_mem hnd (List.mem_of_getElem? hp)
    rw [show kV (Sum.inr s : Key) = V.str s from rfl]
    walk_at "ss"
    refine ⟨r, _, rfl, (RL od).up f2, hg, fun l1 F3 hl1 f3 m3 => ?_⟩
    walk_at "ss"
    refine ⟨r, _, rfl, ((RL od).up f2).up f3, hg, fun l2 F4 hl2 f4 m4 => ?_⟩
    refine c_cat (f4 _ _ m3) m4 (fun l3 F5 hl3 f5 m5 => ?_) (by rw [List.length_map, List.length_map]; omega)
    have m5' : F5 l3 = some (.lst (r.all.map V.str)) := by rw [m5]; unfold Rw.all; rw [List.map_append]
    have f25 : Ex F2 F5 := f3.trans (f4.trans f5)
    refine c_in (.inl (SqL.of m5')) rfl (okL_flat okR) ?_
    rw [inV_str]
    walk_at "ss"
    refine if_cs (fun hc => ?_) (fun hc => ?_)
    · walk_at "ss"
      refine ⟨cd, _, rfl, .inl ⟨kv, .inr s, .inr ⟨od, (f2.trans f25) _ _ upd_same⟩, rfl, hvs.symm⟩, ?_⟩
      walk_at "ss"
      refine newT fun q F6 hq f6 m6 => ?_
      exact hY hc _ _ (f25.trans f6) ⟨q, rfl, m6⟩
    · exact hN hc _ f25
  refine ⟨e16 _ _ upd_same, ?_⟩
  have E16 : Ex G15 (upd G16 cd (.dK kv)) := ex_unlock gcd15 e16
  have hplc : pl ≠ cd := by
    intro z
    subst z
    rw [upd_same] at hpl
    cases hpl
  have hpl15 : G15 pl = none := by rw [upd_ne hplc] at hpl; exact hpl
  have gl16 : upd G16 cd (.dK kv) pl = some (.lst ys) := by rw [upd_ne hplc]; exact g16
  have hT16 : ∀ a xs, G16 a = some (.tup xs) → upd G16 cd (.dK kv) a = some (.tup xs) := fun a xs h => by
    rw [upd_ne (ne_of h (e16 _ _ upd_same) (fun z => by cases z))]
    exact h
  obtain ⟨pps, rfl, hpp⟩ := pair_refs (K := K) hT16 hpair
  generalize upd G16 cd (.dK kv) = G17 at E16 gl16 hpp
  walk_at "ss"
  refine ⟨pl, pps, _, rfl, SqL.of gl16, hpp, fun oda hoda => ?_⟩
  have hndF : ((kv.filter (inAll r)).map (·.1)).Nodup := List.Nodup.sublist (List.Sublist.map _ List.filter_sublist) hnd
  rw [mergeK_nodup _ [] (by rw [List.nil_append]; exact hndF), List.nil_append]
  have hoda15 : G15 oda = none := fresh_back E16 hoda
  have e18 : Ex G17 (upd G17 oda (.dK (kv.filter (inAll r)))) := Ex.new hoda
  have g18 : upd G17 oda (.dK (kv.filter (inAll r))) oda = some (.dK (kv.filter (inAll r))) := upd_same
  generalize upd G17 oda (.dK (kv.filter (inAll r))) = G18 at e18 g18
  have hvF : ∀ s ∈ r.all, valV (kv.filter (inAll r)) (.inr s) = valV kv (.inr s) := fun s hs => valV_filter (F := inAll r) (v0 := .non) (fun _ _ => rfl) (by show r.all.contains s = true; simpa using hs)
  have hlF : (kv.filter (inAll r)).length ≤ 11 := Nat.le_trans (List.length_filter_le _ _) hkl
  generalize kv.filter (inAll r) = kvf at g18 hvF hlF
  have E18 : Ex G15 G18 := E16.trans e18
  have gcd18 := E18 _ _ gcd15
  walk_at "ss"
  refine c_cut (M := fun σ' G' => (∃ v13, σ' = [some (.ref a), v1, some (.ref b), some (.ref nl), v4, some (.ref tp), some (.ref p1), some (.ref a1), some (.ref cd), some (.ref kd), some (.ref a2), some (.ref pd), some (.ref oda), v13, v14, v15]) ∧ ExB b G15 G' ∧ BoxAt G' b ∧ ∃ kvo, G' oda = some (.dK kvo) ∧ kvo.length ≤ 22 ∧ ∀ s ∈ r.all, valV kvo (.inr s) = valV kv (.inr s)) ?_ ?_
  focus
   walk_at "ss"
   refine c_lockE gcd18 trivial fun od2 => ?_
   refine c_lcK ?_
   walk_at "ss"
   refine ⟨cd, od2, rfl, .inl ⟨kv, upd_same, ?_⟩⟩
   have noc : oda ≠ cd := (ne_of_none gcd15 hoda15).symm
   refine lcK (fun p => !(valV kvf p.1).isSome) (fun p y G => y = kV p.1) (fun p y G G2 hn h => h) upd_same (by omega) (fun i p hp F2 f2 R N hY hN => ?_) (fun ys l2 G19 hpair2 hl2 e19 g19 => ?_)
   · obtain ⟨s, s', rfl, hs, hgs⟩ := hok.2 _ (List.mem_of_getElem? hp)
     rw [show kV (Sum.inr s : Key) = V.str s from rfl]
     walk_at "ss"
     refine ⟨oda, _, rfl, dgetK (f2 _ _ (by rw [upd_ne noc]; exact g18)), ?_⟩
     walk_at "ss"
     refine if_cs (fun hc => ?_) (fun hc => ?_)
     · walk_at "ss"
       exact hY hc _ _ (Ex.refl _) rfl
     · exact hN hc _ (Ex.refl _)
   refine ⟨e19 _ _ upd_same, ?_⟩
   have E19 : Ex G18 (upd G19 cd (.dK kv)) := ex_unlock gcd18 e19
   have hlc2 : l2 ≠ cd := by
     intro z
     subst z
     rw [upd_same] at hl2
     cases hl2
   have hl218 : G18 l2 = none := by rw [upd_ne hlc2] at hl2; exact hl2
   have gl19 : upd G19 cd (.dK kv) l2 = some (.lst ys) := by rw [upd_ne hlc2]; exact g19
   generalize upd G19 cd (.dK kv) = G20 at E19 gl19
   have hys := pair_keys (F := inAll r) hpair2
   have hysl : ys.length ≤ 11 := by rw [hys, List.length_map]; exact Nat.le_trans (List.length_filter_le _ _) hkl
   have hyk : ∀ y ∈ ys, ∃ s s', y = .str s ∧ s ∉ r.all ∧ valV kv (.inr s) = some (.str s') := by
     intro y hy
     rw [hys] at hy
     obtain ⟨p, hp, rfl⟩ := List.mem_map.mp hy
     obtain ⟨hp1, hp2⟩ := List.mem_filter.mp hp
     obtain ⟨s, s', rfl, hs, hgs⟩ := hok.2 _ hp1
     have hvs := valV_mem hnd hp1
     refine ⟨s, s', rfl, fun hin => ?_, hvs⟩
     have h2 : (!(valV kvf (.inr s)).isSome) = true := hp2
     rw [hvF s hin, hvs] at h2
     cases h2
   have E20 : Ex G15 G20 := E18.trans E19
   have nl2o : l2 ≠ oda := (ne_of_none g18 hl218).symm
   have nl2b : l2 ≠ b := by
     obtain ⟨ob, hob⟩ := (B15.up E18).some
     exact (ne_of_none hob hl218).symm
   have nob : oda ≠ b := by
     obtain ⟨ob, hob⟩ := B15.some
     exact (ne_of_none hob hoda15).symm
   walk_at "ss"
   refine ⟨⟨_, SqL.of gl19⟩, forL (xs := ys) (fun i σ' G' => (∃ v13, σ' = [some (.ref a), v1, some (.ref b), some (.ref nl), v4, some (.ref tp), some (.ref p1), some (.ref a1), some (.ref cd), some (.ref kd), some (.ref a2), some (.ref pd), some (.ref oda), v13, v14, v15]) ∧ ExB b G15 G' ∧ BoxAt G' b ∧ G' l2 = some (.lst ys) ∧ ∃ kvo, G' oda = some (.dK kvo) ∧ kvo.length ≤ 11 + i ∧ ∀ s ∈ r.all, valV kvo (.inr s) = valV kv (.inr s)) ⟨⟨_, rfl⟩, ExB.of E20, B15.up E20, gl19, kvf, E19 _ _ g18, hlF, hvF⟩ (fun i σ' G' _ q => SqL.of q.2.2.2.1) ?_ ?_⟩
   · rintro i y σ' G' hy ⟨⟨v13, rfl⟩, xG, bG, gl, kvo, go, hko, hvo⟩
     obtain ⟨s, s', rfl, hsn, hvs⟩ := hyk y (List.mem_of_getElem? hy)
     have hil := (List.getElem?_eq_some_iff.mp hy).1
     walk_at "ss"
     have gcdG := xG _ _ ncb gcd15
     refine newL fun q1' F1 hq1 f1 m1 => ?_
     walk_at "ss"
     refine ⟨cd, _, rfl, by rw [← hvs]; exact dgetK (f1 _ _ gcdG), ?_⟩
     walk_at "ss"
     refine newL fun q2' F2 hq2 f2 m2 => ?_
     walk_at "ss"
     have f12 := f1.trans f2
     refine ⟨b, 5, rfl, bG.up f12, by decide, by decide, fun d F3 h0 h1 x3 b3 => ?_⟩
     obtain ⟨w0, hw, _⟩ := at_in (xs := [.non, .str "", .int 5, .ref q1', .str s']) h0 h1
     have nq2 : q2' ≠ b := by
       obtain ⟨ob, hob⟩ := (bG.up f1).some
       exact (ne_of_none hob hq2).symm
     refine c_ixL (SqL.of (x3 _ _ nq2 m2)) hw ?_
     walk_at "ss"
     have go3 := x3 _ _ nob (f12 _ _ go)
     refine ⟨oda, _, rfl, .inl ⟨_, .inr s, go3, rfl, Evl.sz_lt (by omega), rfl⟩, ?_⟩
     walk_at "ss"
     have hpl := putK_len kvo (.inr s) w0
     refine ⟨⟨_, rfl⟩, exB_put (xG.trans ((ExB.of f12).trans x3)) hoda15, box_put b3 nob.symm, by rw [upd_ne nl2o]; exact x3 _ _ nl2b (f12 _ _ gl), _, upd_same, by omega, fun z hz => ?_⟩
     rw [valV_put, if_neg (fun e => hsn (by rw [← Sum.inr.inj e]; exact hz))]
     exact hvo z hz
   · rintro σ' G21 ⟨⟨v13, rfl⟩, x21, b21, _, kvo, go, hko, hvo⟩
     walk_at "ss"
     exact ⟨⟨_, rfl⟩, x21, b21, kvo, go, by omega, hvo⟩
  rintro σ' G21 ⟨⟨v13, rfl⟩, x21, b21, kvo, go, hko, hvo⟩
  walk_at "ss"
  have N21 : NL G15 G21 := NL.box x21 B15
  refine ⟨a1, _, dx1, fs1, rfl, NL.ins N21 _ _ _ _ ha1, hM1, oR1, ?_⟩
  walk_at "ss"
  have hDo : DM G21 oda (fK kv) r.all := ⟨kvo, go, fun s hs => by rw [hvo s hs]; exact hfv s (hin s hs)⟩
  refine ⟨r, _, _, oda, fK kv, rfl, hv15.nl N21, hg, hDo, fun v3 u3 G22 e22 hv22 => ?_⟩
  obtain ⟨a3, dx3, fs3, rfl, ha3, hM3, ⟨w1, w2, w3, w4, w5⟩, oR3, hrow3⟩ := hv22.cls2
  obtain ⟨p3, ys3, rfl, hp3⟩ := hrow3.hd
  walk_at "ss"
  refine ⟨a3, _, dx3, fs3, rfl, ha3, hM3, w1, ?_⟩
  walk_at "ss"
  refine ⟨_, _, _, rfl, hv22, hgr, rfl, re_told ?_⟩
  walk_at "ss"
  refine c_repr (hrow3.dp hgr) (Rw.rp hgr) ?_
  walk_at "ss"
  refine c_repr (((hRd15.nl N21).up e22).dp hgr) (Rw.rp hgr) ?_
  walk_at "ss"
  rw [decide_eq_true rfl]
  walk_at "ss"
  have X22 : ExB b G15 G22 := x21.trans (ExB.of e22)
  refine ⟨cd, kv, nms, rfl, X22 _ _ ncb gcd15, hok, hnd, hkl, fun bd kb G23 hkbl hkb hbd e23 g23 => ?_⟩
  have X23 : ExB b G15 G23 := X22.trans (ExB.of e23)
  have N23 : NL G15 G23 := NL.box X23 B15
  walk_at "ss"
  refine c_cut (M := fun σ' G => σ' = [some (.ref a), v1, some (.ref b), some (.ref nl), v4, some (.ref tp), some (.ref p1), some (.ref a1), some (.ref cd), some (.ref kd), some (.ref a2), some (.ref pd), some (.ref oda), v13, v14, some (.ref bd)] ∧ Ex G23 G) ?_ ?_
  · walk_at "ss"
    refine ⟨bd, kb, rfl, .inl g23, ?_⟩
    walk_at "ss"
    refine ⟨cd, kv, rfl, .inl (X23 _ _ ncb gcd15), ?_⟩
    walk_at "ss"
    refine if_cs (fun hc => ?_) (fun hc => ?_)
    · have hlen : kb.length = kv.length := by
        have h1 := V.int.inj (of_decide_eq_true hc)
        omega
      have hback : ∀ s ∈ r.all, valV kb (.inr (fK kv s)) = some (.str s) := fun s hs => hkb hlen s _ (valV_in (hfv s (hin s hs)).1)
      have hDb : DM G23 bd (fK kb) (r.ren (fK kv)).all := ⟨kb, g23, fun z hz => by
        obtain ⟨s, hs, rfl⟩ := Rw.ren_all hz
        have h1 := hback s hs
        rw [fK_of h1]
        exact ⟨h1, hgn s (hin s hs)⟩⟩
      have hrr : (r.ren (fK kv)).ren (fK kb) = r := Rw.ren_ren fun s hs => fK_of (hback s hs)
      walk_at "ss"
      refine ⟨a2, _, dx2, fs2, rfl, NL.ins N23 _ _ _ _ ha2, hM2, oR2, ?_⟩
      walk_at "ss"
      refine ⟨_, _, _, bd, fK kb, rfl, hv15'.nl N23, hgr, hDb, fun v5 u5 G24 e24 hv24 => ?_⟩
      rw [hrr] at hv24
      obtain ⟨a5, dx5, fs5, rfl, ha5, hM5, ⟨z1, z2, z3, z4, z5⟩, oR5, hrow5⟩ := hv24.cls2
      obtain ⟨p5, ys5, rfl, hp5⟩ := hrow5.hd
      walk_at "ss"
      refine ⟨a5, _, dx5, fs5, rfl, ha5, hM5, z1, ?_⟩
      walk_at "ss"
      refine ⟨_, _, _, rfl, hv24, hg, rfl, re_told ?_⟩
      walk_at "ss"
      refine c_repr (hrow5.dp hg) (Rw.rp hg) ?_
      walk_at "ss"
      refine c_repr (((R15.nl N23).up e24).dp hg) (Rw.rp hg) ?_
      walk_at "ss"
      rw [decide_eq_true rfl]
      walk_at "ss"
      exact e24
    · walk_at "ss"
      exact Ex.refl _
  rintro σ' G25 ⟨rfl, e25⟩
  have X25 : ExB b G15 G25 := X23.trans (ExB.of e25)
  have N25 : NL G15 G25 := NL.box X25 B15
  have b22 : BoxAt G22 b := b21.up e22
  walk_at "ss"
  refine ⟨b, r, _, _, _, cd, kv, rfl, (b22.up e23).up e25, hv15.nl N25, R15.nl N25, hg, X25 _ _ ncb gcd15, hkl, fun s hs => ⟨hgn s (hin s hs), _, hfv s (hin s hs)⟩, fun G26 x26 b26 => ?_⟩
  walk_at "ss"
  exact kk _ _ _ _ (X25.trans x26) b26

theorem ok_law (T : Txt K mg Z)  : FnG P w K mg base CX0 (34) Z.f_law Z.fd_law ["_law_script"] (sp_law K) := by
  have G_cell_at_l := ok_cell_at_l (P := P) (w := w) (base := base) T
  have G_box_l := ok_box_l (P := P) (w := w) (base := base) T
  have G_take_l := ok_take_l (P := P) (w := w) (base := base) T
  have G_names_l := ok_names_l (P := P) (w := w) (base := base) T
  have G_row_l := ok_row_l (P := P) (w := w) (base := base) T
  have G_calls_l := ok_calls_l (P := P) (w := w) (base := base) T
  have G_renamed_l := ok_renamed_l (P := P) (w := w) (base := base) T
  have G_tells_l := ok_tells_l (P := P) (w := w) (base := base) T
  have G_mentions_l := ok_mentions_l (P := P) (w := w) (base := base) T
  have G_back_l := ok_back_l (P := P) (w := w) (base := base) T
  have G_lacking_right_l := ok_lacking_right_l (P := P) (w := w) (base := base) T
  have G_equation_of := ok_equation_of (P := P) (w := w) (base := base) T
  refine T.F_law.okG sc_law (fun vs H Q E h => ?_) (fun cdv AA outer s H vs Q E hgd hr h => ?_)
  · obtain ⟨a, ns, rfl, _⟩ := h
    rfl
  · obtain ⟨a, ns, rfl, hS, hl, k⟩ := h
    have GME_told := gmE_told (P := P) (w := w) (base := base) T
    have GME_tells := gmE_tells (P := P) (w := w) (base := base) T
    have GME_names := gmE_names (P := P) (w := w) (base := base) T
    have GME_renamed := gmE_renamed (P := P) (w := w) (base := base) T
    obtain ⟨t_tail, d_tail, h_tail⟩ := blk_tail (P := P) (w := w) (base := base) T (cdv := cdv) (outer := outer) (s := s) (H0 := H) (E := E) hgd hr
    refine ⟨_, (pss_cons (ps_for PassesOwn.never rfl (pi_range1 (by rfl) T.n_range (pa_cons (pe_callB (call_max2 rfl) (by rfl) T.n_max (by decide +kernel) (pa_cons pe_int (pa_cons (pe_callB (call_min2 rfl) (by rfl) T.n_min (by decide +kernel) (pa_cons pe_int (pa_cons (pe_callB call_len_seq (by rfl) T.n_len (by decide +kernel) (pa_cons (pv 0) pa_nil)) pa_nil))) pa_nil))) pa_nil)) (pg_name (i := 1) sc_law.nd rfl (Or.inl rfl)) (pss_cons (ps_set (i := 2) sc_law.nd rfl (Or.inr rfl) (pe_call G_box_l (hr.mono (by omega)) rfl T.g_box_l T.F_box_l.kp T.b_box_l .nil pass0 (pa_cons (pe_call G_cell_at_l (hr.mono (by omega)) rfl T.g_cell_at_l T.F_cell_at_l.kp T.b_cell_at_l .nil pass0 (pa_cons (pv 0) (pa_cons (pv 1) pa_nil))) pa_nil)))
      (pss_cons (ps_set (i := 3) sc_law.nd rfl (Or.inr rfl) (pe_call G_names_l (hr.mono (by omega)) rfl T.g_names_l T.F_names_l.kp T.b_names_l .nil pass0 (pa_cons (pv 2) (pa_cons (pe_op op_add pe_int (pe_call G_take_l (hr.mono (by omega)) rfl T.g_take_l T.F_take_l.kp T.b_take_l .nil pass0 (pa_cons (pv 2) (pa_cons pe_int pa_nil)))) pa_nil))))
      (pss_one (ps_for PassesOwn.never rfl (pi_range1 (by rfl) T.n_range (pa_cons pe_int pa_nil)) (pg_name (i := 4) sc_law.nd rfl (Or.inl rfl)) (pss_cons (ps_setLc (i := 5) (own := [("_law_k", 1)]) (g := (gName 1)) (tt := tYes) (te := (tOp (rIxL K) (tVar 3) (tCall sp_take_l [] E0 (tCons (tVar 2) (tCons (tCB (fun xs H Q => ∃ p ys, xs = [.ref p] ∧ (SqL K H p ys ∨ SqT K H p ys) ∧ Q (.int ys.length) H) (tCons (tVar 3) tNil)) tNil))))) rfl sc_law.nd rfl rfl (sw_true rfl rfl rfl (by decide +kernel)) (pi_range1 (by rfl) T.n_range (pa_cons (pe_op op_add pe_int (pe_call G_take_l (hr.mono (by omega)) rfl T.g_take_l T.F_take_l.kp T.b_take_l .nil pass0 (pa_cons (pv 2) (pa_cons pe_int pa_nil)))) pa_nil)) (blkOk_by (own := [("_law_k", 1)]) (N := N_law) (sc := defScope s_law) (by decide +kernel)) (fun _ _ _ _ _ => (pg_name (i := 1) sc_law.nd rfl (Or.inl rfl))) (fun _ _ _ _ _ => pts_nil) (fun _ _ _ _ _ => (pe_ix ix_list (pv 3) (pe_call G_take_l (hr.mono (by omega)) rfl T.g_take_l T.F_take_l.kp T.b_take_l .nil pass0 (pa_cons (pv 2) (pa_cons (pe_callB call_len_seq (by rfl) T.n_len (by decide +kernel) (pa_cons (pv 3) pa_nil)) pa_nil))) (fun _ _ => rfl))))
      (pss_cons (ps_set (i := 6) sc_law.nd rfl (Or.inr rfl) (pe_call G_row_l (hr.mono (by omega)) rfl T.g_row_l T.F_row_l.kp T.b_row_l .nil pass0 (pa_cons (pv 2) (pa_cons (pv 5) (pa_cons (pv 3) pa_nil)))))
      (pss_cons (ps_set (i := 7) sc_law.nd rfl (Or.inl rfl) (pe_call G_equation_of (hr.mono (by omega)) rfl T.g_equation_of T.F_equation_of.kp T.b_equation_of .nil pass0 (pa_cons (pv 6) pa_nil)))
      (pss_cons (ps_set (i := 8) sc_law.nd rfl (Or.inr rfl) (pe_call G_calls_l (hr.mono (by omega)) rfl T.g_calls_l T.F_calls_l.kp T.b_calls_l .nil pass0 (pa_cons (pv 2) (pa_cons (pv 3) pa_nil))))
      (pss_cons (ps_set (i := 9) sc_law.nd rfl (Or.inl rfl) (pe_callTy call_dictD (by rfl) T.n_dict (by decide +kernel) (pa_cons (pv 8) pa_nil)))
      (pss_cons (ps_set (i := 10) sc_law.nd rfl (Or.inl rfl) (pe_methP (pv 7) GME_renamed (hr.mono (by omega)) pass0 (pa_cons (pv 8) pa_nil)))
      (pss_cons (ps_set (i := 11) sc_law.nd rfl (Or.inl rfl) (pe_call G_renamed_l (hr.mono (by omega)) rfl T.g_renamed_l T.F_renamed_l.kp T.b_renamed_l .nil pass0 (pa_cons (pv 6) (pa_cons (pv 8) pa_nil))))
      (pss_cons (ps_if (PW.pt (pw_or (pt_cmpR (op_neK (hu66 hr)) (pv 8) (pv 9) (nomark _)) (pw_or (pt_cmpR op_ne (pe_callB (call_reprD hgd hr) (by rfl) T.n_repr (by decide +kernel) (pa_cons (pe_methP0 (pv 10) GME_told (hr.mono (by omega)) pass0) pa_nil)) (pe_callB (call_reprD hgd hr) (by rfl) T.n_repr (by decide +kernel) (pa_cons (pv 11) pa_nil)) (nomark _)) (pw_or1 (pt_cmpR op_ne (pe_callB (call_reprD hgd hr) (by rfl) T.n_repr (by decide +kernel) (pa_cons (pe_methP0 (pv 7) GME_told (hr.mono (by omega)) pass0) pa_nil)) (pe_callB (call_reprD hgd hr) (by rfl) T.n_repr (by decide +kernel) (pa_cons (pv 6) pa_nil)) (nomark _)))))) (pss_one (ps_ret pe_bl)) pss_nil)
      (pss_cons (ps_if (PW.pt (pw_or (pt_cmpR (op_neD hr.units) (pe_methP0 (pv 10) GME_tells (hr.mono (by omega)) pass0) (pe_call G_tells_l (hr.mono (by omega)) rfl T.g_tells_l T.F_tells_l.kp T.b_tells_l .nil pass0 (pa_cons (pv 11) pa_nil)) (nomark _)) (pw_or1 (pt_cmpR (op_neD hr.units) (pe_methP0 (pv 10) GME_names (hr.mono (by omega)) pass0) (pe_call G_mentions_l (hr.mono (by omega)) rfl T.g_mentions_l T.F_mentions_l.kp T.b_mentions_l .nil pass0 (pa_cons (pv 11) pa_nil)) (nomark _))))) (pss_one (ps_ret pe_bl)) pss_nil)
      d_tail))))))))))))))
      (pss_one (ps_ret pe_bl))), ?_⟩
    walk_at "ss"
    refine ⟨_, _, rfl, .inl hS, ?_⟩
    walk_at "ss"
    refine ⟨_, _, rfl, ?_⟩
    walk_at "ss"
    refine ⟨_, _, rfl, ?_⟩
    walk_at "ss"
    refine ⟨by split <;> split <;> omega, by split <;> split <;> omega, ?_⟩
    refine forR (fun i σ' G => (∃ v1 v2 v3 v4 v5 v6 v7 v8 v9 v10 v11 v12 v13 v14 v15, σ' = [some (.ref a), v1, v2, v3, v4, v5, v6, v7, v8, v9, v10, v11, v12, v13, v14, v15]) ∧ Ex H G) ⟨⟨_, _, _, _, _, _, _, _, _, _, _, _, _, _, _, rfl⟩, Ex.refl _⟩ ?_ ?_
    · rintro i σ' G hi ⟨⟨v1, v2, v3, v4, v5, v6, v7, v8, v9, v10, v11, v12, v13, v14, v15, rfl⟩, e⟩
      have hi10 : i < 10 := by
        revert hi
        split <;> split <;> omega
      walk_at "ss"
      refine ⟨_, _, _, rfl, ex_l e hS, by omega, fun n => ?_⟩
      walk_at "ss"
      refine ⟨_, rfl, fun b G1 hb f1 hB => ?_⟩
      have hbH : H b = none := fresh_back e hb
      walk_at "ss"
      refine ⟨b, 9, rfl, hB, by decide, by decide, fun d G2 h0 h1 x2 b2 => ?_⟩
      walk_at "ss"
      obtain ⟨dn, rfl⟩ := Int.eq_ofNat_of_zero_le h0
      have el : (2 : Int) + (dn : Int) = ((2 + dn : Nat) : Int) := by omega
      rw [el]
      refine ⟨b, 2 + dn, rfl, b2, by omega, fun nms nl G3 hnl hgn hnlf x3 b3 gnl => ?_⟩
      have X3 : ExB b G G3 := (ExB.of f1).trans (x2.trans x3)
      have hn0 : 0 < nms.length := by omega
      have hn1 : nms.length ≤ 11 := by omega
      have e3 : Ex H G3 := exB_ex e hbH X3
      walk_at "ss"
      refine ⟨by decide, by decide, ?_⟩
      refine forR (fun j σ' G' => (∃ v1 v4 v5 v6 v7 v8 v9 v10 v11 v12 v13 v14 v15, σ' = [some (.ref a), v1, some (.ref b), some (.ref nl), v4, v5, v6, v7, v8, v9, v10, v11, v12, v13, v14, v15]) ∧ Ex H G' ∧ BoxAt G' b ∧ G' nl = some (.lst (nms.map V.str))) ⟨⟨_, _, _, _, _, _, _, _, _, _, _, _, _, rfl⟩, e3, b3, gnl⟩ ?_ ?_
      · rintro j σ' G' hj ⟨⟨v1, v4, v5, v6, v7, v8, v9, v10, v11, v12, v13, v14, v15, rfl⟩, e', bx, gn⟩
        walk_at "ss"
        refine ⟨b, 4, rfl, bx, by decide, by decide, fun d4 G4 h40 h41 x4 b4 => ?_⟩
        have n4 := nl_up hn0 bx gn x4
        walk_at "ss"
        refine ⟨by omega, by omega, ?_⟩
        refine lcRB (b := b) (fun v => ∃ s, v = .str s ∧ (goodN s ∧ s ∈ nms)) (by omega) b4 (fun i2 hi2 Gc bG eG R N hR => ?_) ?_
        · have nG := nl_up hn0 b4 n4 eG
          walk_at "ss"
          refine ⟨nl, _, rfl, .inl (SqL.of nG), ?_⟩
          walk_at "ss"
          refine ⟨b, _, rfl, bG, by rw [List.length_map]; omega, by rw [List.length_map]; omega, fun d5 G5 h50 h51 x5 b5 => ?_⟩
          exact pick_name hn0 bG nG hgn x5 h50 h51 fun s hs gs => hR _ _ ⟨s, rfl, gs, hs⟩ b5 x5
        intro zs tp G5 hzl hzg htp x5 b5 g5
        obtain ⟨ts, rfl, hts⟩ := strs_of hzg
        rw [List.length_map] at hzl
        have n5 := nl_up hn0 b4 n4 x5
        walk_at "ss"
        refine ⟨b, tp, nl, ts, nms, rfl, b5, g5, n5, fun s hs => (hts s hs).1, hgn, by omega, by omega, hn0, by omega, fun r u G6 hg' hR x6 b6 => ?_⟩
        have hg := hg'.1
        have hin : ∀ s ∈ r.all, s ∈ nms := fun s hs => (hg'.2 s hs).elim (fun h => (hts s h).2) id
        have n6 := nl_up hn0 b5 n5 x6
        have e6 : Ex H G6 := exB_ex e' hbH (x4.trans (x5.trans x6))
        walk_at "ss"
        refine ⟨r, u, rfl, hR, hg, fun v G7 e7 hv => ?_⟩
        walk_at "ss"
        refine ⟨b, nl, nms, rfl, b6.up e7, e7 _ _ n6, hgn, hn0, hn1, fun cd kv G8 hok hnd hkl hcdf x8 b8 gcd => ?_⟩
        have hv8 := hv.nl (NL.box x8 (b6.up e7))
        have hR8 := (hR.up e7).nl (NL.box x8 (b6.up e7))
        have n8 := nl_up hn0 (b6.up e7) (e7 _ _ n6) x8
        have e8 : Ex H G8 := exB_ex (e6.trans e7) hbH x8
        walk_at "ss"
        refine ⟨cd, kv, rfl, .inl gcd, fun kd hkd => ?_⟩
        have e9 : Ex G8 (upd G8 kd (.dK kv)) := Ex.new hkd
        have gkd : upd G8 kd (.dK kv) kd = some (.dK kv) := upd_same
        generalize upd G8 kd (.dK kv) = G9 at e9 gkd
        have hfv : ∀ s ∈ nms, valV kv (.inr s) = some (.str (fK kv s)) ∧ goodN (fK kv s) := fun s hs => by
          obtain ⟨s', h1, h2⟩ := hok.1 s hs
          rw [fK_of h1]
          exact ⟨h1, h2⟩
        have hD9 : DM G9 cd (fK kv) r.all := ⟨kv, e9 _ _ gcd, fun s hs => hfv s (hin s hs)⟩
        have hv9 := hv8.up e9
        obtain ⟨a1, dx1, fs1, rfl, ha1, hM1, ⟨o1, o2, o3, o4, o5⟩, oR1, hrow1⟩ := hv9.cls2
        walk_at "ss"
        refine ⟨a1, _, dx1, fs1, rfl, ha1, hM1, oR1, ?_⟩
        walk_at "ss"
        refine ⟨r, _, _, cd, fK kv, rfl, hv9, hg, hD9, fun v' u' G10 e10 hv10 => ?_⟩
        have hgr : (r.ren (fK kv)).good := Rw.ren_good hg fun s hs => (hfv s (hin s hs)).2
        walk_at "ss"
        refine ⟨r, u, cd, fK kv, rfl, (hR8.up e9).up e10, hg, hD9.up e10, fun ud G11 e11 hRd => ?_⟩
        have e811 := e9.trans (e10.trans e11)
        have hE' := hv10.up e11
        obtain ⟨a2, dx2, fs2, rfl, ha2, hM2, ⟨q1, q2, q3, q4, q5⟩, oR2, hrow2⟩ := hE'.cls2
        have hokv : ∀ p ∈ kv, okV p.2 = true := fun p hp => by
          obtain ⟨s, s', rfl, _, hs'⟩ := hok.2 p hp
          exact okT_V hs'.2.2
        walk_at "ss"
        refine ⟨cd, kd, kv, kv, rfl, rfl, e811 _ _ gcd, (e10.trans e11) _ _ gkd, hokv, fun key z hz => ?_, ?_⟩
        · obtain ⟨s, s', he, _, hs'⟩ := hok.2 _ (valV_in hz)
          injection he with _ he2
          rw [he2]
          exact okT_V hs'.2.2
        rw [eqK_refl hnd hokv]
        walk_at "ss"
        have B11 : BoxAt G11 b := b8.up e811
        have hv11 := hv9.up (e10.trans e11)
        have hR11 : RowAt G11 r u := (hR8.up e9).up (e10.trans e11)
        obtain ⟨p2, ys2, rfl, hp2⟩ := hrow2.hd
        obtain ⟨pd, ysd, rfl, hpd⟩ := hRd.hd
        have hrow1' := hrow1.up (e10.trans e11)
        obtain ⟨p1, ys1, rfl, hp1⟩ := hrow1'.hd
        refine ⟨a2, _, dx2, fs2, rfl, ha2, hM2, q1, ?_⟩
        walk_at "ss"
        refine ⟨_, _, _, rfl, hE', hgr, rfl, re_told ?_⟩
        walk_at "ss"
        refine c_repr (hrow2.dp hgr) (Rw.rp hgr) ?_
        walk_at "ss"
        refine c_repr (hRd.dp hgr) (Rw.rp hgr) ?_
        walk_at "ss"
        rw [decide_eq_true rfl]
        walk_at "ss"
        refine ⟨a1, _, dx1, fs1, rfl, (e10.trans e11) _ _ ha1, hM1, o1, ?_⟩
        walk_at "ss"
        refine ⟨r, _, _, rfl, hv11, hg, rfl, re_told ?_⟩
        walk_at "ss"
        refine c_repr (hrow1'.dp hg) (Rw.rp hg) ?_
        walk_at "ss"
        refine c_repr (hR11.dp hg) (Rw.rp hg) ?_
        walk_at "ss"
        rw [decide_eq_true rfl]
        walk_at "ss"
        have okA : ∀ l : List Str, (∀ s ∈ l, s ∈ (r.ren (fK kv)).all) → (l.map V.str).all okV = true := fun l hl => str_ok fun s hs => Rw.good_all hgr s (hl s hs)
        have okT1 := okA _ fun s hs => List.mem_append_left _ hs
        have okN1 := okA _ fun s hs => List.mem_append_right _ hs
        refine ⟨a2, _, dx2, fs2, rfl, ha2, hM2, q2, ?_⟩
        walk_at "ss"
        refine ⟨_, _, _, rfl, hE', hgr, rfl, fun t1 G12 ht1 e12 g12 => ?_⟩
        walk_at "ss"
        refine ⟨_, _, rfl, hRd.up e12, hgr, fun t2 G13 ht2 e13 g13 => ?_⟩
        refine c_neLs (SqL.of (e13 _ _ g12)) (SqL.of g13) okT1 okT1 ?_
        rw [eqL_strs]
        walk_at "ss"
        have e1113 := e12.trans e13
        refine ⟨a2, _, dx2, fs2, rfl, e1113 _ _ ha2, hM2, q3, ?_⟩
        walk_at "ss"
        refine ⟨_, _, _, rfl, hE'.up e1113, hgr, rfl, fun t3 G14 ht3 e14 g14 => ?_⟩
        walk_at "ss"
        refine ⟨_, _, rfl, (hRd.up e1113).up e14, hgr, fun t4 G15 ht4 e15 g15 => ?_⟩
        refine c_neLs (SqL.of (e15 _ _ g14)) (SqL.of g15) okN1 okN1 ?_
        rw [eqL_strs]
        walk_at "ss"
        have e1115 : Ex G11 G15 := e1113.trans (e14.trans e15)
        have e815 := e811.trans e1115
        refine h_tail _ _ _ _ G15 _ _ _ _ _ _ a b nl tp cd kd p1 pd a1 a2 _ r kv nms (b8.up e815) (e815 _ _ gcd) hok hnd hkl hin hgn hg (hv11.up e1115) (hE'.up e1115) (hRd.up e1115) fun v12 v13 v15 G2 x2 b2 => ?_
        exact ⟨⟨_, _, _, _, _, _, _, _, _, _, _, _, _, rfl⟩, exB_ex (e8.trans e815) hbH x2, b2, nl_up hn0 (b8.up e815) (e815 _ _ n8) x2⟩
      · rintro σ' G' ⟨⟨v1, v4, v5, v6, v7, v8, v9, v10, v11, v12, v13, v14, v15, rfl⟩, e', bx, gn⟩
        walk_at "ss"
        exact ⟨⟨_, _, _, _, _, _, _, _, _, _, _, _, _, _, _, rfl⟩, e'⟩
    · rintro σ' G ⟨⟨v1, v2, v3, v4, v5, v6, v7, v8, v9, v10, v11, v12, v13, v14, v15, rfl⟩, e⟩
      walk_at "ss"
      exact k _

end
def d_NoName_init : He.DefD := ⟨("NoName", some "__init__"), "__init__", "NoName.__init__", defArgs s_NoName_init, defBody s_NoName_init, defScope s_NoName_init, [], []⟩
def d_NoEquation_init : He.DefD := ⟨("NoEquation", some "__init__"), "__init__", "NoEquation.__init__", defArgs s_NoEquation_init, defBody s_NoEquation_init, defScope s_NoEquation_init, [], []⟩
def d_is_whole : He.DefD := ⟨("is_whole", none), "is_whole", "is_whole", defArgs s_is_whole, defBody s_is_whole, defScope s_is_whole, [], []⟩
def d_is_within : He.DefD := ⟨("is_within", none), "is_within", "is_within", defArgs s_is_within, defBody s_is_within, defScope s_is_within, [], []⟩
def d_is_name : He.DefD := ⟨("is_name", none), "is_name", "is_name", defArgs s_is_name, defBody s_is_name, defScope s_is_name, [], []⟩
def d_is_pointed : He.DefD := ⟨("is_pointed", none), "is_pointed", "is_pointed", defArgs s_is_pointed, defBody s_is_pointed, defScope s_is_pointed, [], []⟩
def d_is_value : He.DefD := ⟨("is_value", none), "is_value", "is_value", defArgs s_is_value, defBody s_is_value, defScope s_is_value, [], []⟩
def d_ops_told : He.DefD := ⟨("ops_told", none), "ops_told", "ops_told", defArgs s_ops_told, defBody s_ops_told, defScope s_ops_told, [], []⟩
def d_Term_parts : He.DefD := ⟨("Term", some "parts"), "parts", "Term.parts", defArgs s_Term_parts, defBody s_Term_parts, defScope s_Term_parts, [], []⟩
def d_Term_names : He.DefD := ⟨("Term", some "names"), "names", "Term.names", defArgs s_Term_names, defBody s_Term_names, defScope s_Term_names, [], []⟩
def d_Term_levels : He.DefD := ⟨("Term", some "levels"), "levels", "Term.levels", defArgs s_Term_levels, defBody s_Term_levels, defScope s_Term_levels, [], []⟩
def d_Term_renamed : He.DefD := ⟨("Term", some "renamed"), "renamed", "Term.renamed", defArgs s_Term_renamed, defBody s_Term_renamed, defScope s_Term_renamed, [], []⟩
def d_need_term : He.DefD := ⟨("need_term", none), "need_term", "need_term", defArgs s_need_term, defBody s_need_term, defScope s_need_term, [], []⟩
def d_Name_init : He.DefD := ⟨("Name", some "__init__"), "__init__", "Name.__init__", defArgs s_Name_init, defBody s_Name_init, defScope s_Name_init, [], []⟩
def d_Name_names : He.DefD := ⟨("Name", some "names"), "names", "Name.names", defArgs s_Name_names, defBody s_Name_names, defScope s_Name_names, [], []⟩
def d_Name_renamed : He.DefD := ⟨("Name", some "renamed"), "renamed", "Name.renamed", defArgs s_Name_renamed, defBody s_Name_renamed, defScope s_Name_renamed, [], []⟩
def d_Name_told : He.DefD := ⟨("Name", some "told"), "told", "Name.told", defArgs s_Name_told, defBody s_Name_told, defScope s_Name_told, [], []⟩
def d_Value_init : He.DefD := ⟨("Value", some "__init__"), "__init__", "Value.__init__", defArgs s_Value_init, defBody s_Value_init, defScope s_Value_init, [], []⟩
def d_Value_told : He.DefD := ⟨("Value", some "told"), "told", "Value.told", defArgs s_Value_told, defBody s_Value_told, defScope s_Value_told, [], []⟩
def d_Two_init : He.DefD := ⟨("Two", some "__init__"), "__init__", "Two.__init__", defArgs s_Two_init, defBody s_Two_init, defScope s_Two_init, [], []⟩
def d_Two_parts : He.DefD := ⟨("Two", some "parts"), "parts", "Two.parts", defArgs s_Two_parts, defBody s_Two_parts, defScope s_Two_parts, [], []⟩
def d_Two_renamed : He.DefD := ⟨("Two", some "renamed"), "renamed", "Two.renamed", defArgs s_Two_renamed, defBody s_Two_renamed, defScope s_Two_renamed, [], []⟩
def d_Two_told : He.DefD := ⟨("Two", some "told"), "told", "Two.told", defArgs s_Two_told, defBody s_Two_told, defScope s_Two_told, [], []⟩
def d_Not_init : He.DefD := ⟨("Not", some "__init__"), "__init__", "Not.__init__", defArgs s_Not_init, defBody s_Not_init, defScope s_Not_init, [], []⟩
def d_Not_parts : He.DefD := ⟨("Not", some "parts"), "parts", "Not.parts", defArgs s_Not_parts, defBody s_Not_parts, defScope s_Not_parts, [], []⟩
def d_Not_renamed : He.DefD := ⟨("Not", some "renamed"), "renamed", "Not.renamed", defArgs s_Not_renamed, defBody s_Not_renamed, defScope s_Not_renamed, [], []⟩
def d_Not_told : He.DefD := ⟨("Not", some "told"), "told", "Not.told", defArgs s_Not_told, defBody s_Not_told, defScope s_Not_told, [], []⟩
def d_Pick_init : He.DefD := ⟨("Pick", some "__init__"), "__init__", "Pick.__init__", defArgs s_Pick_init, defBody s_Pick_init, defScope s_Pick_init, [], []⟩
def d_Pick_parts : He.DefD := ⟨("Pick", some "parts"), "parts", "Pick.parts", defArgs s_Pick_parts, defBody s_Pick_parts, defScope s_Pick_parts, [], []⟩
def d_Pick_renamed : He.DefD := ⟨("Pick", some "renamed"), "renamed", "Pick.renamed", defArgs s_Pick_renamed, defBody s_Pick_renamed, defScope s_Pick_renamed, [], []⟩
def d_Pick_told : He.DefD := ⟨("Pick", some "told"), "told", "Pick.told", defArgs s_Pick_told, defBody s_Pick_told, defScope s_Pick_told, [], []⟩
def d_simple_of : He.DefD := ⟨("simple_of", none), "simple_of", "simple_of", defArgs s_simple_of, defBody s_simple_of, defScope s_simple_of, [], []⟩
def d_made_of_told : He.DefD := ⟨("made_of_told", none), "made_of_told", "made_of_told", defArgs s_made_of_told, defBody s_made_of_told, defScope s_made_of_told, [], []⟩
def d_term_of : He.DefD := ⟨("term_of", none), "term_of", "term_of", defArgs s_term_of, defBody s_term_of, defScope s_term_of, [], []⟩
def d_new_name : He.DefD := ⟨("new_name", none), "new_name", "new_name", defArgs s_new_name, defBody s_new_name, defScope s_new_name, [], []⟩
def d_each_once : He.DefD := ⟨("each_once", none), "each_once", "each_once", defArgs s_each_once, defBody s_each_once, defScope s_each_once, [], []⟩
def d_Equation_init : He.DefD := ⟨("Equation", some "__init__"), "__init__", "Equation.__init__", defArgs s_Equation_init, defBody s_Equation_init, defScope s_Equation_init, [], []⟩
def d_Equation_told : He.DefD := ⟨("Equation", some "told"), "told", "Equation.told", defArgs s_Equation_told, defBody s_Equation_told, defScope s_Equation_told, [], []⟩
def d_Equation_tells : He.DefD := ⟨("Equation", some "tells"), "tells", "Equation.tells", defArgs s_Equation_tells, defBody s_Equation_tells, defScope s_Equation_tells, [], []⟩
def d_Equation_names : He.DefD := ⟨("Equation", some "names"), "names", "Equation.names", defArgs s_Equation_names, defBody s_Equation_names, defScope s_Equation_names, [], []⟩
def d_Equation_term : He.DefD := ⟨("Equation", some "term"), "term", "Equation.term", defArgs s_Equation_term, defBody s_Equation_term, defScope s_Equation_term, [], []⟩
def d_Equation_put_otherwise : He.DefD := ⟨("Equation", some "put_otherwise"), "put_otherwise", "Equation.put_otherwise", defArgs s_Equation_put_otherwise, defBody s_Equation_put_otherwise, defScope s_Equation_put_otherwise, [], []⟩
def d_Equation_renamed : He.DefD := ⟨("Equation", some "renamed"), "renamed", "Equation.renamed", defArgs s_Equation_renamed, defBody s_Equation_renamed, defScope s_Equation_renamed, [], []⟩
def d_Plain_init : He.DefD := ⟨("Plain", some "__init__"), "__init__", "Plain.__init__", defArgs s_Plain_init, defBody s_Plain_init, defScope s_Plain_init, [], []⟩
def d_Plain_names : He.DefD := ⟨("Plain", some "names"), "names", "Plain.names", defArgs s_Plain_names, defBody s_Plain_names, defScope s_Plain_names, [], []⟩
def d_Plain_term : He.DefD := ⟨("Plain", some "term"), "term", "Plain.term", defArgs s_Plain_term, defBody s_Plain_term, defScope s_Plain_term, [], []⟩
def d_Plain_put_otherwise : He.DefD := ⟨("Plain", some "put_otherwise"), "put_otherwise", "Plain.put_otherwise", defArgs s_Plain_put_otherwise, defBody s_Plain_put_otherwise, defScope s_Plain_put_otherwise, [], []⟩
def d_When_names : He.DefD := ⟨("When", some "names"), "names", "When.names", defArgs s_When_names, defBody s_When_names, defScope s_When_names, [], []⟩
def d_When_put_otherwise : He.DefD := ⟨("When", some "put_otherwise"), "put_otherwise", "When.put_otherwise", defArgs s_When_put_otherwise, defBody s_When_put_otherwise, defScope s_When_put_otherwise, [], []⟩
def d_Same_tells : He.DefD := ⟨("Same", some "tells"), "tells", "Same.tells", defArgs s_Same_tells, defBody s_Same_tells, defScope s_Same_tells, [], []⟩
def d_Same_names : He.DefD := ⟨("Same", some "names"), "names", "Same.names", defArgs s_Same_names, defBody s_Same_names, defScope s_Same_names, [], []⟩
def d_Same_put_otherwise : He.DefD := ⟨("Same", some "put_otherwise"), "put_otherwise", "Same.put_otherwise", defArgs s_Same_put_otherwise, defBody s_Same_put_otherwise, defScope s_Same_put_otherwise, [], []⟩
def d_Call_tells : He.DefD := ⟨("Call", some "tells"), "tells", "Call.tells", defArgs s_Call_tells, defBody s_Call_tells, defScope s_Call_tells, [], []⟩
def d_Call_names : He.DefD := ⟨("Call", some "names"), "names", "Call.names", defArgs s_Call_names, defBody s_Call_names, defScope s_Call_names, [], []⟩
def d_Call_put_otherwise : He.DefD := ⟨("Call", some "put_otherwise"), "put_otherwise", "Call.put_otherwise", defArgs s_Call_put_otherwise, defBody s_Call_put_otherwise, defScope s_Call_put_otherwise, [], []⟩
def d_are_pointed : He.DefD := ⟨("are_pointed", none), "are_pointed", "are_pointed", defArgs s_are_pointed, defBody s_are_pointed, defScope s_are_pointed, [], []⟩
def d_is_valued : He.DefD := ⟨("is_valued", none), "is_valued", "is_valued", defArgs s_is_valued, defBody s_is_valued, defScope s_is_valued, [], []⟩
def d_plain_of : He.DefD := ⟨("plain_of", none), "plain_of", "plain_of", defArgs s_plain_of, defBody s_plain_of, defScope s_plain_of, [], []⟩
def d_valued_of : He.DefD := ⟨("valued_of", none), "valued_of", "valued_of", defArgs s_valued_of, defBody s_valued_of, defScope s_valued_of, [], []⟩
def d_call_of : He.DefD := ⟨("call_of", none), "call_of", "call_of", defArgs s_call_of, defBody s_call_of, defScope s_call_of, [], []⟩
def d_made_of : He.DefD := ⟨("made_of", none), "made_of", "made_of", defArgs s_made_of, defBody s_made_of, defScope s_made_of, [], []⟩
def d_equation_of : He.DefD := ⟨("equation_of", none), "equation_of", "equation_of", defArgs s_equation_of, defBody s_equation_of, defScope s_equation_of, [], []⟩
def d_cell_at_l : He.DefD := ⟨("_law_cell_at", none), "_law_cell_at", "_law_cell_at", defArgs s_cell_at_l, defBody s_cell_at_l, defScope s_cell_at_l, [], []⟩
def d_box_l : He.DefD := ⟨("_law_box", none), "_law_box", "_law_box", defArgs s_box_l, defBody s_box_l, defScope s_box_l, [], []⟩
def d_take_l : He.DefD := ⟨("_law_take", none), "_law_take", "_law_take", defArgs s_take_l, defBody s_take_l, defScope s_take_l, [], []⟩
def d_names_l : He.DefD := ⟨("_law_names", none), "_law_names", "_law_names", defArgs s_names_l, defBody s_names_l, defScope s_names_l, [], []⟩
def d_value_l : He.DefD := ⟨("_law_value", none), "_law_value", "_law_value", defArgs s_value_l, defBody s_value_l, defScope s_value_l, [], []⟩
def d_term_l : He.DefD := ⟨("_law_term", none), "_law_term", "_law_term", defArgs s_term_l, defBody s_term_l, defScope s_term_l, [], []⟩
def d_row_l : He.DefD := ⟨("_law_row", none), "_law_row", "_law_row", defArgs s_row_l, defBody s_row_l, defScope s_row_l, [], []⟩
def d_term_names_l : He.DefD := ⟨("_law_term_names", none), "_law_term_names", "_law_term_names", defArgs s_term_names_l, defBody s_term_names_l, defScope s_term_names_l, [], []⟩
def d_once_l : He.DefD := ⟨("_law_once", none), "_law_once", "_law_once", defArgs s_once_l, defBody s_once_l, defScope s_once_l, [], []⟩
def d_mentions_l : He.DefD := ⟨("_law_mentions", none), "_law_mentions", "_law_mentions", defArgs s_mentions_l, defBody s_mentions_l, defScope s_mentions_l, [], []⟩
def d_tells_l : He.DefD := ⟨("_law_tells", none), "_law_tells", "_law_tells", defArgs s_tells_l, defBody s_tells_l, defScope s_tells_l, [], []⟩
def d_term_renamed_l : He.DefD := ⟨("_law_term_renamed", none), "_law_term_renamed", "_law_term_renamed", defArgs s_term_renamed_l, defBody s_term_renamed_l, defScope s_term_renamed_l, [], []⟩
def d_renamed_l : He.DefD := ⟨("_law_renamed", none), "_law_renamed", "_law_renamed", defArgs s_renamed_l, defBody s_renamed_l, defScope s_renamed_l, [], []⟩
def d_calls_l : He.DefD := ⟨("_law_calls", none), "_law_calls", "_law_calls", defArgs s_calls_l, defBody s_calls_l, defScope s_calls_l, [], []⟩
def d_refused_l : He.DefD := ⟨("_law_refused", none), "_law_refused", "_law_refused", defArgs s_refused_l, defBody s_refused_l, defScope s_refused_l, [], []⟩
def d_lacking_right_l : He.DefD := ⟨("_law_lacking_right", none), "_law_lacking_right", "_law_lacking_right", defArgs s_lacking_right_l, defBody s_lacking_right_l, defScope s_lacking_right_l, [], []⟩
def d_back_l : He.DefD := ⟨("_law_back", none), "_law_back", "_law_back", defArgs s_back_l, defBody s_back_l, defScope s_back_l, [], []⟩
def d_law : He.DefD := ⟨("law", none), "law", "law", defArgs s_law, defBody s_law, defScope s_law, [], []⟩
def fnL0 : List He.DefD := [d_NoName_init, d_NoEquation_init, d_is_whole, d_is_within, d_is_name, d_is_pointed, d_is_value, d_ops_told, d_Term_parts, d_Term_names, d_Term_levels, d_Term_renamed, d_need_term, d_Name_init, d_Name_names, d_Name_renamed, d_Name_told, d_Value_init, d_Value_told, d_Two_init, d_Two_parts, d_Two_renamed, d_Two_told, d_Not_init, d_Not_parts, d_Not_renamed, d_Not_told, d_Pick_init, d_Pick_parts, d_Pick_renamed]
def fnL1 : List He.DefD := [d_Pick_told, d_simple_of, d_made_of_told, d_term_of, d_new_name, d_each_once, d_Equation_init, d_Equation_told, d_Equation_tells, d_Equation_names, d_Equation_term, d_Equation_put_otherwise, d_Equation_renamed, d_Plain_init, d_Plain_names, d_Plain_term, d_Plain_put_otherwise, d_When_names, d_When_put_otherwise, d_Same_tells, d_Same_names, d_Same_put_otherwise, d_Call_tells, d_Call_names, d_Call_put_otherwise, d_are_pointed, d_is_valued, d_plain_of, d_valued_of, d_call_of]
def fnL2 : List He.DefD := [d_made_of, d_equation_of, d_cell_at_l, d_box_l, d_take_l, d_names_l, d_value_l, d_term_l, d_row_l, d_term_names_l, d_once_l, d_mentions_l, d_tells_l, d_term_renamed_l, d_renamed_l, d_calls_l, d_refused_l, d_lacking_right_l, d_back_l, d_law]
def fnL : List He.DefD := fnL0 ++ (fnL1 ++ (fnL2))
def faL0 : List He.Fa := [.glo "is_whole", .glo "is_within", .glo "is_name", .glo "is_pointed", .glo "is_value", .glo "ops_told", .glo "need_term", .glo "simple_of", .glo "made_of_told", .glo "term_of", .glo "new_name", .glo "each_once", .glo "are_pointed", .glo "is_valued", .glo "plain_of", .glo "valued_of", .glo "call_of", .glo "made_of", .glo "equation_of", .glo "_law_cell_at", .glo "_law_box", .glo "_law_take", .glo "_law_names", .glo "_law_value", .glo "_law_term", .glo "_law_row", .glo "_law_term_names", .glo "_law_once", .glo "_law_mentions", .glo "_law_tells"]
def faL1 : List He.Fa := [.glo "_law_term_renamed", .glo "_law_renamed", .glo "_law_calls", .glo "_law_refused", .glo "_law_lacking_right", .glo "_law_back", .glo "law", .glo "BeatError", .glo "NoName", .glo "NoEquation", .glo "Term", .glo "Name", .glo "Value", .glo "Two", .glo "Not", .glo "Pick", .glo "Equation", .glo "Plain", .glo "Before", .glo "When", .glo "Hold", .glo "Like", .glo "Same", .glo "Call", .free "all", .free "bool", .free "dict", .free "int", .free "isinstance", .free "len"]
def faL2 : List He.Fa := [.free "list", .free "max", .free "min", .free "range", .free "repr", .free "str", .free "tuple", .str "LETTERS" "abcdefghijklmnopqrstuvwxyz", .int "LONGEST" (8), .int "MOST" (1000000000), .int "MOST_LEVELS" (5), .int "MOST_SIGNS" (80), .glo "OPS", .glo "OWN"]
def faL : List He.Fa := faL0 ++ (faL1 ++ (faL2))
def exs0 (K : PySem.W.Frag) : List Bool := [PySem.W.isFn K (.ref (He.fAd K ("Term", some "parts"))), PySem.W.isFn K (.ref (He.fAd K ("Term", some "names"))), PySem.W.isFn K (.ref (He.fAd K ("Term", some "levels"))), PySem.W.isFn K (.ref (He.fAd K ("Term", some "renamed"))), PySem.W.isFn K (.ref (He.fAd K ("Name", some "__init__"))), PySem.W.isFn K (.ref (He.fAd K ("Name", some "names"))), PySem.W.isFn K (.ref (He.fAd K ("Name", some "renamed"))), PySem.W.isFn K (.ref (He.fAd K ("Name", some "told"))), PySem.W.isFn K (.ref (He.fAd K ("Value", some "__init__"))), PySem.W.isFn K (.ref (He.fAd K ("Value", some "told"))), PySem.W.isFn K (.ref (He.fAd K ("Two", some "__init__"))), PySem.W.isFn K (.ref (He.fAd K ("Two", some "parts"))), PySem.W.isFn K (.ref (He.fAd K ("Two", some "renamed"))), PySem.W.isFn K (.ref (He.fAd K ("Two", some "told"))), PySem.W.isFn K (.ref (He.fAd K ("Not", some "__init__"))), PySem.W.isFn K (.ref (He.fAd K ("Not", some "parts"))), PySem.W.isFn K (.ref (He.fAd K ("Not", some "renamed"))), PySem.W.isFn K (.ref (He.fAd K ("Not", some "told"))), PySem.W.isFn K (.ref (He.fAd K ("Pick", some "__init__"))), PySem.W.isFn K (.ref (He.fAd K ("Pick", some "parts")))]
def exs1 (K : PySem.W.Frag) : List Bool := [PySem.W.isFn K (.ref (He.fAd K ("Pick", some "renamed"))), PySem.W.isFn K (.ref (He.fAd K ("Pick", some "told"))), PySem.W.isFn K (.ref (He.fAd K ("Equation", some "__init__"))), PySem.W.isFn K (.ref (He.fAd K ("Equation", some "told"))), PySem.W.isFn K (.ref (He.fAd K ("Equation", some "tells"))), PySem.W.isFn K (.ref (He.fAd K ("Equation", some "names"))), PySem.W.isFn K (.ref (He.fAd K ("Equation", some "term"))), PySem.W.isFn K (.ref (He.fAd K ("Equation", some "put_otherwise"))), PySem.W.isFn K (.ref (He.fAd K ("Equation", some "renamed"))), PySem.W.isFn K (.ref (He.fAd K ("Plain", some "__init__"))), PySem.W.isFn K (.ref (He.fAd K ("Plain", some "names"))), PySem.W.isFn K (.ref (He.fAd K ("Plain", some "term"))), PySem.W.isFn K (.ref (He.fAd K ("Plain", some "put_otherwise"))), PySem.W.isFn K (.ref (He.fAd K ("When", some "names"))), PySem.W.isFn K (.ref (He.fAd K ("When", some "put_otherwise"))), PySem.W.isFn K (.ref (He.fAd K ("Same", some "tells"))), PySem.W.isFn K (.ref (He.fAd K ("Same", some "names"))), PySem.W.isFn K (.ref (He.fAd K ("Same", some "put_otherwise"))), PySem.W.isFn K (.ref (He.fAd K ("Call", some "tells"))), PySem.W.isFn K (.ref (He.fAd K ("Call", some "names")))]
def exs2 (K : PySem.W.Frag) : List Bool := [PySem.W.isFn K (.ref (He.fAd K ("Call", some "put_otherwise"))), baseB K (He.ga K "BeatError"), PySem.W.excIn K (He.ga K "BeatError") [.type "ValueError", .type "Exception", .type "BaseException", .type "object"] "ValueError.__new__", PySem.W.keepIn K (.ref (He.ga K "BeatError")), icB K (He.ga K "BeatError"), exB K (He.ga K "NoName") ["found"], decide (PySem.W.findIn K (.ref (He.ga K "NoName")) "__init__" = some (some (.ref (He.fAd K ("NoName", some "__init__"))))), decide (PySem.W.typeIn K (.ref (He.fAd K ("NoName", some "__init__"))) = some (.type "function")), exB K (He.ga K "NoEquation") ["found"], decide (PySem.W.findIn K (.ref (He.ga K "NoEquation")) "__init__" = some (some (.ref (He.fAd K ("NoEquation", some "__init__"))))), decide (PySem.W.typeIn K (.ref (He.fAd K ("NoEquation", some "__init__"))) = some (.type "function")), tcB K (He.ga K "Name") ["name"], decide (PySem.W.findIn K (.ref (He.ga K "Name")) "__init__" = some (some (.ref (He.fAd K ("Name", some "__init__"))))), decide (PySem.W.findIn K (.ref (He.ga K "Name")) "parts" = some (some (.ref (He.fAd K ("Term", some "parts"))))), decide (PySem.W.findIn K (.ref (He.ga K "Name")) "names" = some (some (.ref (He.fAd K ("Name", some "names"))))), decide (PySem.W.findIn K (.ref (He.ga K "Name")) "levels" = some (some (.ref (He.fAd K ("Term", some "levels"))))), decide (PySem.W.findIn K (.ref (He.ga K "Name")) "told" = some (some (.ref (He.fAd K ("Name", some "told"))))), decide (PySem.W.findIn K (.ref (He.ga K "Name")) "renamed" = some (some (.ref (He.fAd K ("Name", some "renamed"))))), tcB K (He.ga K "Value") ["amount"], decide (PySem.W.findIn K (.ref (He.ga K "Value")) "__init__" = some (some (.ref (He.fAd K ("Value", some "__init__")))))]
def exs3 (K : PySem.W.Frag) : List Bool := [decide (PySem.W.findIn K (.ref (He.ga K "Value")) "parts" = some (some (.ref (He.fAd K ("Term", some "parts"))))), decide (PySem.W.findIn K (.ref (He.ga K "Value")) "names" = some (some (.ref (He.fAd K ("Term", some "names"))))), decide (PySem.W.findIn K (.ref (He.ga K "Value")) "levels" = some (some (.ref (He.fAd K ("Term", some "levels"))))), decide (PySem.W.findIn K (.ref (He.ga K "Value")) "told" = some (some (.ref (He.fAd K ("Value", some "told"))))), decide (PySem.W.findIn K (.ref (He.ga K "Value")) "renamed" = some (some (.ref (He.fAd K ("Term", some "renamed"))))), tcB K (He.ga K "Two") ["op", "one", "second"], decide (PySem.W.findIn K (.ref (He.ga K "Two")) "__init__" = some (some (.ref (He.fAd K ("Two", some "__init__"))))), decide (PySem.W.findIn K (.ref (He.ga K "Two")) "parts" = some (some (.ref (He.fAd K ("Two", some "parts"))))), decide (PySem.W.findIn K (.ref (He.ga K "Two")) "names" = some (some (.ref (He.fAd K ("Term", some "names"))))), decide (PySem.W.findIn K (.ref (He.ga K "Two")) "levels" = some (some (.ref (He.fAd K ("Term", some "levels"))))), decide (PySem.W.findIn K (.ref (He.ga K "Two")) "told" = some (some (.ref (He.fAd K ("Two", some "told"))))), decide (PySem.W.findIn K (.ref (He.ga K "Two")) "renamed" = some (some (.ref (He.fAd K ("Two", some "renamed"))))), tcB K (He.ga K "Not") ["one"], decide (PySem.W.findIn K (.ref (He.ga K "Not")) "__init__" = some (some (.ref (He.fAd K ("Not", some "__init__"))))), decide (PySem.W.findIn K (.ref (He.ga K "Not")) "parts" = some (some (.ref (He.fAd K ("Not", some "parts"))))), decide (PySem.W.findIn K (.ref (He.ga K "Not")) "names" = some (some (.ref (He.fAd K ("Term", some "names"))))), decide (PySem.W.findIn K (.ref (He.ga K "Not")) "levels" = some (some (.ref (He.fAd K ("Term", some "levels"))))), decide (PySem.W.findIn K (.ref (He.ga K "Not")) "told" = some (some (.ref (He.fAd K ("Not", some "told"))))), decide (PySem.W.findIn K (.ref (He.ga K "Not")) "renamed" = some (some (.ref (He.fAd K ("Not", some "renamed"))))), tcB K (He.ga K "Pick") ["by", "one", "second"]]
def exs4 (K : PySem.W.Frag) : List Bool := [decide (PySem.W.findIn K (.ref (He.ga K "Pick")) "__init__" = some (some (.ref (He.fAd K ("Pick", some "__init__"))))), decide (PySem.W.findIn K (.ref (He.ga K "Pick")) "parts" = some (some (.ref (He.fAd K ("Pick", some "parts"))))), decide (PySem.W.findIn K (.ref (He.ga K "Pick")) "names" = some (some (.ref (He.fAd K ("Term", some "names"))))), decide (PySem.W.findIn K (.ref (He.ga K "Pick")) "levels" = some (some (.ref (He.fAd K ("Term", some "levels"))))), decide (PySem.W.findIn K (.ref (He.ga K "Pick")) "told" = some (some (.ref (He.fAd K ("Pick", some "told"))))), decide (PySem.W.findIn K (.ref (He.ga K "Pick")) "renamed" = some (some (.ref (He.fAd K ("Pick", some "renamed"))))), tcB K (He.ga K "Equation") ["told_row"], decide (PySem.W.findIn K (.ref (He.ga K "Equation")) "__init__" = some (some (.ref (He.fAd K ("Equation", some "__init__"))))), decide (PySem.W.findIn K (.ref (He.ga K "Equation")) "names" = some (some (.ref (He.fAd K ("Equation", some "names"))))), decide (PySem.W.findIn K (.ref (He.ga K "Equation")) "told" = some (some (.ref (He.fAd K ("Equation", some "told"))))), decide (PySem.W.findIn K (.ref (He.ga K "Equation")) "tells" = some (some (.ref (He.fAd K ("Equation", some "tells"))))), decide (PySem.W.findIn K (.ref (He.ga K "Equation")) "term" = some (some (.ref (He.fAd K ("Equation", some "term"))))), decide (PySem.W.findIn K (.ref (He.ga K "Equation")) "renamed" = some (some (.ref (He.fAd K ("Equation", some "renamed"))))), decide (PySem.W.findIn K (.ref (He.ga K "Equation")) "put_otherwise" = some (some (.ref (He.fAd K ("Equation", some "put_otherwise"))))), tcB K (He.ga K "Plain") ["told_row", "kept_term"], decide (PySem.W.findIn K (.ref (He.ga K "Plain")) "__init__" = some (some (.ref (He.fAd K ("Plain", some "__init__"))))), decide (PySem.W.findIn K (.ref (He.ga K "Plain")) "names" = some (some (.ref (He.fAd K ("Plain", some "names"))))), decide (PySem.W.findIn K (.ref (He.ga K "Plain")) "told" = some (some (.ref (He.fAd K ("Equation", some "told"))))), decide (PySem.W.findIn K (.ref (He.ga K "Plain")) "tells" = some (some (.ref (He.fAd K ("Equation", some "tells"))))), decide (PySem.W.findIn K (.ref (He.ga K "Plain")) "term" = some (some (.ref (He.fAd K ("Plain", some "term")))))]
def exs5 (K : PySem.W.Frag) : List Bool := [decide (PySem.W.findIn K (.ref (He.ga K "Plain")) "renamed" = some (some (.ref (He.fAd K ("Equation", some "renamed"))))), decide (PySem.W.findIn K (.ref (He.ga K "Plain")) "put_otherwise" = some (some (.ref (He.fAd K ("Plain", some "put_otherwise"))))), tcB K (He.ga K "Before") ["told_row"], decide (PySem.W.findIn K (.ref (He.ga K "Before")) "__init__" = some (some (.ref (He.fAd K ("Equation", some "__init__"))))), decide (PySem.W.findIn K (.ref (He.ga K "Before")) "names" = some (some (.ref (He.fAd K ("Equation", some "names"))))), decide (PySem.W.findIn K (.ref (He.ga K "Before")) "told" = some (some (.ref (He.fAd K ("Equation", some "told"))))), decide (PySem.W.findIn K (.ref (He.ga K "Before")) "tells" = some (some (.ref (He.fAd K ("Equation", some "tells"))))), decide (PySem.W.findIn K (.ref (He.ga K "Before")) "term" = some (some (.ref (He.fAd K ("Equation", some "term"))))), decide (PySem.W.findIn K (.ref (He.ga K "Before")) "renamed" = some (some (.ref (He.fAd K ("Equation", some "renamed"))))), decide (PySem.W.findIn K (.ref (He.ga K "Before")) "put_otherwise" = some (some (.ref (He.fAd K ("Equation", some "put_otherwise"))))), tcB K (He.ga K "When") ["told_row"], decide (PySem.W.findIn K (.ref (He.ga K "When")) "__init__" = some (some (.ref (He.fAd K ("Equation", some "__init__"))))), decide (PySem.W.findIn K (.ref (He.ga K "When")) "names" = some (some (.ref (He.fAd K ("When", some "names"))))), decide (PySem.W.findIn K (.ref (He.ga K "When")) "told" = some (some (.ref (He.fAd K ("Equation", some "told"))))), decide (PySem.W.findIn K (.ref (He.ga K "When")) "tells" = some (some (.ref (He.fAd K ("Equation", some "tells"))))), decide (PySem.W.findIn K (.ref (He.ga K "When")) "term" = some (some (.ref (He.fAd K ("Equation", some "term"))))), decide (PySem.W.findIn K (.ref (He.ga K "When")) "renamed" = some (some (.ref (He.fAd K ("Equation", some "renamed"))))), decide (PySem.W.findIn K (.ref (He.ga K "When")) "put_otherwise" = some (some (.ref (He.fAd K ("When", some "put_otherwise"))))), tcB K (He.ga K "Hold") ["told_row"], decide (PySem.W.findIn K (.ref (He.ga K "Hold")) "__init__" = some (some (.ref (He.fAd K ("Equation", some "__init__")))))]
def exs6 (K : PySem.W.Frag) : List Bool := [decide (PySem.W.findIn K (.ref (He.ga K "Hold")) "names" = some (some (.ref (He.fAd K ("Equation", some "names"))))), decide (PySem.W.findIn K (.ref (He.ga K "Hold")) "told" = some (some (.ref (He.fAd K ("Equation", some "told"))))), decide (PySem.W.findIn K (.ref (He.ga K "Hold")) "tells" = some (some (.ref (He.fAd K ("Equation", some "tells"))))), decide (PySem.W.findIn K (.ref (He.ga K "Hold")) "term" = some (some (.ref (He.fAd K ("Equation", some "term"))))), decide (PySem.W.findIn K (.ref (He.ga K "Hold")) "renamed" = some (some (.ref (He.fAd K ("Equation", some "renamed"))))), decide (PySem.W.findIn K (.ref (He.ga K "Hold")) "put_otherwise" = some (some (.ref (He.fAd K ("Equation", some "put_otherwise"))))), tcB K (He.ga K "Like") ["told_row"], decide (PySem.W.findIn K (.ref (He.ga K "Like")) "__init__" = some (some (.ref (He.fAd K ("Equation", some "__init__"))))), decide (PySem.W.findIn K (.ref (He.ga K "Like")) "names" = some (some (.ref (He.fAd K ("Equation", some "names"))))), decide (PySem.W.findIn K (.ref (He.ga K "Like")) "told" = some (some (.ref (He.fAd K ("Equation", some "told"))))), decide (PySem.W.findIn K (.ref (He.ga K "Like")) "tells" = some (some (.ref (He.fAd K ("Equation", some "tells"))))), decide (PySem.W.findIn K (.ref (He.ga K "Like")) "term" = some (some (.ref (He.fAd K ("Equation", some "term"))))), decide (PySem.W.findIn K (.ref (He.ga K "Like")) "renamed" = some (some (.ref (He.fAd K ("Equation", some "renamed"))))), decide (PySem.W.findIn K (.ref (He.ga K "Like")) "put_otherwise" = some (some (.ref (He.fAd K ("Equation", some "put_otherwise"))))), tcB K (He.ga K "Same") ["told_row"], decide (PySem.W.findIn K (.ref (He.ga K "Same")) "__init__" = some (some (.ref (He.fAd K ("Equation", some "__init__"))))), decide (PySem.W.findIn K (.ref (He.ga K "Same")) "names" = some (some (.ref (He.fAd K ("Same", some "names"))))), decide (PySem.W.findIn K (.ref (He.ga K "Same")) "told" = some (some (.ref (He.fAd K ("Equation", some "told"))))), decide (PySem.W.findIn K (.ref (He.ga K "Same")) "tells" = some (some (.ref (He.fAd K ("Same", some "tells"))))), decide (PySem.W.findIn K (.ref (He.ga K "Same")) "term" = some (some (.ref (He.fAd K ("Equation", some "term")))))]
def exs7 (K : PySem.W.Frag) : List Bool := [decide (PySem.W.findIn K (.ref (He.ga K "Same")) "renamed" = some (some (.ref (He.fAd K ("Equation", some "renamed"))))), decide (PySem.W.findIn K (.ref (He.ga K "Same")) "put_otherwise" = some (some (.ref (He.fAd K ("Same", some "put_otherwise"))))), tcB K (He.ga K "Call") ["told_row"], decide (PySem.W.findIn K (.ref (He.ga K "Call")) "__init__" = some (some (.ref (He.fAd K ("Equation", some "__init__"))))), decide (PySem.W.findIn K (.ref (He.ga K "Call")) "names" = some (some (.ref (He.fAd K ("Call", some "names"))))), decide (PySem.W.findIn K (.ref (He.ga K "Call")) "told" = some (some (.ref (He.fAd K ("Equation", some "told"))))), decide (PySem.W.findIn K (.ref (He.ga K "Call")) "tells" = some (some (.ref (He.fAd K ("Call", some "tells"))))), decide (PySem.W.findIn K (.ref (He.ga K "Call")) "term" = some (some (.ref (He.fAd K ("Equation", some "term"))))), decide (PySem.W.findIn K (.ref (He.ga K "Call")) "renamed" = some (some (.ref (He.fAd K ("Equation", some "renamed"))))), decide (PySem.W.findIn K (.ref (He.ga K "Call")) "put_otherwise" = some (some (.ref (He.fAd K ("Call", some "put_otherwise"))))), difB [(He.ga K "Name"), (He.ga K "Value"), (He.ga K "Two"), (He.ga K "Not"), (He.ga K "Pick")], subB K (He.ga K "Name") (He.ga K "Term"), subB K (He.ga K "Value") (He.ga K "Term"), subB K (He.ga K "Two") (He.ga K "Term"), subB K (He.ga K "Not") (He.ga K "Term"), subB K (He.ga K "Pick") (He.ga K "Term"), difB [(He.ga K "Plain"), (He.ga K "Name"), (He.ga K "Value"), (He.ga K "Two"), (He.ga K "Not"), (He.ga K "Pick")], difB [(He.ga K "Plain"), (He.ga K "Before"), (He.ga K "Hold"), (He.ga K "Like"), (He.ga K "When"), (He.ga K "Same"), (He.ga K "Call")], kitTab K [(He.ga K "Plain"), (He.ga K "Before"), (He.ga K "Hold"), (He.ga K "Like"), (He.ga K "When"), (He.ga K "Same"), (He.ga K "Call")] (He.ga K "Equation"), cmB K (He.ga K "Equation") (He.fAd K ("Equation", some "__init__")) "__init__"]
def exs8 (K : PySem.W.Frag) : List Bool := [decide (PySem.W.kitOne K (.ref (He.ga K "NoName")) (.ref (He.ga K "NoEquation")) = some false), decide (PySem.W.kitOne K (.ref (He.ga K "NoName")) (.ref (He.ga K "BeatError")) = some true), decide (PySem.W.exmOne K (.ref (He.ga K "NoName")) (.ref (He.ga K "NoName")) = some true), tupB K (He.ga K "OPS") ["+", "-", "*", "/", "mod", "<", "=", "&", "|"], tupB K (He.ga K "OWN") ["node", "in", "out", "before", "when", "hold", "like", "same", "call", "true", "false", "mod", "beat", "desk"]]
def exs (K : PySem.W.Frag) : List Bool := exs0 K ++ (exs1 K ++ (exs2 K ++ (exs3 K ++ (exs4 K ++ (exs5 K ++ (exs6 K ++ (exs7 K ++ (exs8 K))))))))
abbrev RW : PySem.W.OpenRow := PySem.W.OpenLaw.row PySem.Challenge.rw_beatrows_k33_rows_renamed
def csL : List PySem.Str := ["BeatError", "NoValue", "NoName", "NoTerm", "NoEquation", "Term", "Name", "Value", "Two", "Not", "Pick", "Equation", "Plain", "Before", "When", "Hold", "Like", "Same", "Call"]
def tsL : List PySem.Str := ["OPS", "OWN"]
abbrev hk : PySem.W.Hook := hookK csL tsL faL fnL (fun K => (exs K).all id)
def ob (s : PySem.W.SharedT) : He.AlD × Bool := hkObs csL tsL faL fnL (fun K => (exs K).all id) (HandSHeadRun.getT s)
theorem ob_eq (s : PySem.W.SharedT) : ob s = hk.obs s.abs := hkObs_eq (HandSHeadRun.getT_eq s)
def loose0 : List PySem.Str := ["_wall", "BeatError", "NoValue", "NoName", "NoTerm", "NoEquation", "LETTERS", "LONGEST", "MOST_SIGNS", "MOST", "OWN", "is_whole", "is_within", "is_name", "is_pointed", "is_value", "value_text", "OPS", "ops_told", "MOST_LEVELS", "Term", "need_term", "Name", "Value", "Two", "Not", "Pick", "simple_of", "made_of_told", "term_of"]
def loose1 : List PySem.Str := ["new_name", "each_once", "Equation", "Plain", "Before", "When", "Hold", "Like", "Same", "Call", "are_pointed", "is_valued", "plain_of", "valued_of", "call_of", "made_of", "equation_of", "_law_cell_at", "_law_box", "_law_take", "_law_names", "_law_value", "_law_term", "_law_row", "_law_term_names", "_law_once", "_law_mentions", "_law_tells", "_law_term_renamed", "_law_renamed"]
def loose2 : List PySem.Str := ["_law_calls", "_law_refused", "_law_lacking_right", "_law_back"]
def loose : List PySem.Str := loose0 ++ (loose1 ++ (loose2))
theorem run (w : World) : HandSHeadRun.RunEq RW (PySem.W.view RW.prog [70]) hk ob 20000 loose w := by
  intro os
  kernel_rfl
theorem facts2 {P : Program} {w : World} {K : PySem.W.Frag} {h : Heap} {mg : Str → Option Value} {fa : Addr} (X : K.In h) (G : h.Ns mainGlobals mg) (hfa : mg "law" = some (.ref fa)) (c : He.SaysD faL fnL K) (hex : (exs K).all id = true) : ∃ fd : FuncData, (∀ (s : Shared) (v : Value), BindsTo s fd ⟨[v], []⟩ [("_law_script", v)]) ∧ ∀ base : Heap, K.In base → base.Ns mainGlobals mg → FnG P w K mg base CX0 34 fa fd ["_law_script"] (sp_law K) := by
  obtain ⟨fd0, D0⟩ := c.def_ 0 (d := d_NoName_init) rfl
  have F0 : Fun K "__init__" "NoName.__init__" s_NoName_init (He.fAd K ("NoName", some "__init__")) fd0 := fun_ofD D0
  have b0 := F0.binds (ps := ["self", "found"]) fun _ _ _ _ _ _ us hl => match us, hl with | [_, _], _ => rfl
  obtain ⟨fd1, D1⟩ := c.def_ 1 (d := d_NoEquation_init) rfl
  have F1 : Fun K "__init__" "NoEquation.__init__" s_NoEquation_init (He.fAd K ("NoEquation", some "__init__")) fd1 := fun_ofD D1
  have b1 := F1.binds (ps := ["self", "found"]) fun _ _ _ _ _ _ us hl => match us, hl with | [_, _], _ => rfl
  obtain ⟨fd2, D2⟩ := c.def_ 2 (d := d_is_whole) rfl
  have F2 : Fun K "is_whole" "is_whole" s_is_whole (He.fAd K ("is_whole", none)) fd2 := fun_ofD D2
  have b2 := F2.binds (ps := ["thing"]) fun _ _ _ _ _ _ us hl => match us, hl with | [_], _ => rfl
  obtain ⟨fd3, D3⟩ := c.def_ 3 (d := d_is_within) rfl
  have F3 : Fun K "is_within" "is_within" s_is_within (He.fAd K ("is_within", none)) fd3 := fun_ofD D3
  have b3 := F3.binds (ps := ["thing", "low", "high"]) fun _ _ _ _ _ _ us hl => match us, hl with | [_, _, _], _ => rfl
  obtain ⟨fd4, D4⟩ := c.def_ 4 (d := d_is_name) rfl
  have F4 : Fun K "is_name" "is_name" s_is_name (He.fAd K ("is_name", none)) fd4 := fun_ofD D4
  have b4 := F4.binds (ps := ["thing"]) fun _ _ _ _ _ _ us hl => match us, hl with | [_], _ => rfl
  obtain ⟨fd5, D5⟩ := c.def_ 5 (d := d_is_pointed) rfl
  have F5 : Fun K "is_pointed" "is_pointed" s_is_pointed (He.fAd K ("is_pointed", none)) fd5 := fun_ofD D5
  have b5 := F5.binds (ps := ["thing"]) fun _ _ _ _ _ _ us hl => match us, hl with | [_], _ => rfl
  obtain ⟨fd6, D6⟩ := c.def_ 6 (d := d_is_value) rfl
  have F6 : Fun K "is_value" "is_value" s_is_value (He.fAd K ("is_value", none)) fd6 := fun_ofD D6
  have b6 := F6.binds (ps := ["thing"]) fun _ _ _ _ _ _ us hl => match us, hl with | [_], _ => rfl
  obtain ⟨fd7, D7⟩ := c.def_ 7 (d := d_ops_told) rfl
  have F7 : Fun K "ops_told" "ops_told" s_ops_told (He.fAd K ("ops_told", none)) fd7 := fun_ofD D7
  have b7 := F7.binds (ps := []) fun _ _ _ _ _ _ us hl => match us, hl with | [], _ => rfl
  obtain ⟨fd8, D8⟩ := c.def_ 8 (d := d_Term_parts) rfl
  have F8 : Fun K "parts" "Term.parts" s_Term_parts (He.fAd K ("Term", some "parts")) fd8 := fun_ofD D8
  have b8 := F8.binds (ps := ["self"]) fun _ _ _ _ _ _ us hl => match us, hl with | [_], _ => rfl
  obtain ⟨fd9, D9⟩ := c.def_ 9 (d := d_Term_names) rfl
  have F9 : Fun K "names" "Term.names" s_Term_names (He.fAd K ("Term", some "names")) fd9 := fun_ofD D9
  have b9 := F9.binds (ps := ["self"]) fun _ _ _ _ _ _ us hl => match us, hl with | [_], _ => rfl
  obtain ⟨fd10, D10⟩ := c.def_ 10 (d := d_Term_levels) rfl
  have F10 : Fun K "levels" "Term.levels" s_Term_levels (He.fAd K ("Term", some "levels")) fd10 := fun_ofD D10
  have b10 := F10.binds (ps := ["self"]) fun _ _ _ _ _ _ us hl => match us, hl with | [_], _ => rfl
  obtain ⟨fd11, D11⟩ := c.def_ 11 (d := d_Term_renamed) rfl
  have F11 : Fun K "renamed" "Term.renamed" s_Term_renamed (He.fAd K ("Term", some "renamed")) fd11 := fun_ofD D11
  have b11 := F11.binds (ps := ["self", "names"]) fun _ _ _ _ _ _ us hl => match us, hl with | [_, _], _ => rfl
  obtain ⟨fd12, D12⟩ := c.def_ 12 (d := d_need_term) rfl
  have F12 : Fun K "need_term" "need_term" s_need_term (He.fAd K ("need_term", none)) fd12 := fun_ofD D12
  have b12 := F12.binds (ps := ["thing"]) fun _ _ _ _ _ _ us hl => match us, hl with | [_], _ => rfl
  obtain ⟨fd13, D13⟩ := c.def_ 13 (d := d_Name_init) rfl
  have F13 : Fun K "__init__" "Name.__init__" s_Name_init (He.fAd K ("Name", some "__init__")) fd13 := fun_ofD D13
  have b13 := F13.binds (ps := ["self", "name"]) fun _ _ _ _ _ _ us hl => match us, hl with | [_, _], _ => rfl
  obtain ⟨fd14, D14⟩ := c.def_ 14 (d := d_Name_names) rfl
  have F14 : Fun K "names" "Name.names" s_Name_names (He.fAd K ("Name", some "names")) fd14 := fun_ofD D14
  have b14 := F14.binds (ps := ["self"]) fun _ _ _ _ _ _ us hl => match us, hl with | [_], _ => rfl
  obtain ⟨fd15, D15⟩ := c.def_ 15 (d := d_Name_renamed) rfl
  have F15 : Fun K "renamed" "Name.renamed" s_Name_renamed (He.fAd K ("Name", some "renamed")) fd15 := fun_ofD D15
  have b15 := F15.binds (ps := ["self", "names"]) fun _ _ _ _ _ _ us hl => match us, hl with | [_, _], _ => rfl
  obtain ⟨fd16, D16⟩ := c.def_ 16 (d := d_Name_told) rfl
  have F16 : Fun K "told" "Name.told" s_Name_told (He.fAd K ("Name", some "told")) fd16 := fun_ofD D16
  have b16 := F16.binds (ps := ["self"]) fun _ _ _ _ _ _ us hl => match us, hl with | [_], _ => rfl
  obtain ⟨fd17, D17⟩ := c.def_ 17 (d := d_Value_init) rfl
  have F17 : Fun K "__init__" "Value.__init__" s_Value_init (He.fAd K ("Value", some "__init__")) fd17 := fun_ofD D17
  have b17 := F17.binds (ps := ["self", "value"]) fun _ _ _ _ _ _ us hl => match us, hl with | [_, _], _ => rfl
  obtain ⟨fd18, D18⟩ := c.def_ 18 (d := d_Value_told) rfl
  have F18 : Fun K "told" "Value.told" s_Value_told (He.fAd K ("Value", some "told")) fd18 := fun_ofD D18
  have b18 := F18.binds (ps := ["self"]) fun _ _ _ _ _ _ us hl => match us, hl with | [_], _ => rfl
  obtain ⟨fd19, D19⟩ := c.def_ 19 (d := d_Two_init) rfl
  have F19 : Fun K "__init__" "Two.__init__" s_Two_init (He.fAd K ("Two", some "__init__")) fd19 := fun_ofD D19
  have b19 := F19.binds (ps := ["self", "op", "one", "other"]) fun _ _ _ _ _ _ us hl => match us, hl with | [_, _, _, _], _ => rfl
  obtain ⟨fd20, D20⟩ := c.def_ 20 (d := d_Two_parts) rfl
  have F20 : Fun K "parts" "Two.parts" s_Two_parts (He.fAd K ("Two", some "parts")) fd20 := fun_ofD D20
  have b20 := F20.binds (ps := ["self"]) fun _ _ _ _ _ _ us hl => match us, hl with | [_], _ => rfl
  obtain ⟨fd21, D21⟩ := c.def_ 21 (d := d_Two_renamed) rfl
  have F21 : Fun K "renamed" "Two.renamed" s_Two_renamed (He.fAd K ("Two", some "renamed")) fd21 := fun_ofD D21
  have b21 := F21.binds (ps := ["self", "names"]) fun _ _ _ _ _ _ us hl => match us, hl with | [_, _], _ => rfl
  obtain ⟨fd22, D22⟩ := c.def_ 22 (d := d_Two_told) rfl
  have F22 : Fun K "told" "Two.told" s_Two_told (He.fAd K ("Two", some "told")) fd22 := fun_ofD D22
  have b22 := F22.binds (ps := ["self"]) fun _ _ _ _ _ _ us hl => match us, hl with | [_], _ => rfl
  obtain ⟨fd23, D23⟩ := c.def_ 23 (d := d_Not_init) rfl
  have F23 : Fun K "__init__" "Not.__init__" s_Not_init (He.fAd K ("Not", some "__init__")) fd23 := fun_ofD D23
  have b23 := F23.binds (ps := ["self", "one"]) fun _ _ _ _ _ _ us hl => match us, hl with | [_, _], _ => rfl
  obtain ⟨fd24, D24⟩ := c.def_ 24 (d := d_Not_parts) rfl
  have F24 : Fun K "parts" "Not.parts" s_Not_parts (He.fAd K ("Not", some "parts")) fd24 := fun_ofD D24
  have b24 := F24.binds (ps := ["self"]) fun _ _ _ _ _ _ us hl => match us, hl with | [_], _ => rfl
  obtain ⟨fd25, D25⟩ := c.def_ 25 (d := d_Not_renamed) rfl
  have F25 : Fun K "renamed" "Not.renamed" s_Not_renamed (He.fAd K ("Not", some "renamed")) fd25 := fun_ofD D25
  have b25 := F25.binds (ps := ["self", "names"]) fun _ _ _ _ _ _ us hl => match us, hl with | [_, _], _ => rfl
  obtain ⟨fd26, D26⟩ := c.def_ 26 (d := d_Not_told) rfl
  have F26 : Fun K "told" "Not.told" s_Not_told (He.fAd K ("Not", some "told")) fd26 := fun_ofD D26
  have b26 := F26.binds (ps := ["self"]) fun _ _ _ _ _ _ us hl => match us, hl with | [_], _ => rfl
  obtain ⟨fd27, D27⟩ := c.def_ 27 (d := d_Pick_init) rfl
  have F27 : Fun K "__init__" "Pick.__init__" s_Pick_init (He.fAd K ("Pick", some "__init__")) fd27 := fun_ofD D27
  have b27 := F27.binds (ps := ["self", "by", "one", "other"]) fun _ _ _ _ _ _ us hl => match us, hl with | [_, _, _, _], _ => rfl
  obtain ⟨fd28, D28⟩ := c.def_ 28 (d := d_Pick_parts) rfl
  have F28 : Fun K "parts" "Pick.parts" s_Pick_parts (He.fAd K ("Pick", some "parts")) fd28 := fun_ofD D28
  have b28 := F28.binds (ps := ["self"]) fun _ _ _ _ _ _ us hl => match us, hl with | [_], _ => rfl
  obtain ⟨fd29, D29⟩ := c.def_ 29 (d := d_Pick_renamed) rfl
  have F29 : Fun K "renamed" "Pick.renamed" s_Pick_renamed (He.fAd K ("Pick", some "renamed")) fd29 := fun_ofD D29
  have b29 := F29.binds (ps := ["self", "names"]) fun _ _ _ _ _ _ us hl => match us, hl with | [_, _], _ => rfl
  obtain ⟨fd30, D30⟩ := c.def_ 30 (d := d_Pick_told) rfl
  have F30 : Fun K "told" "Pick.told" s_Pick_told (He.fAd K ("Pick", some "told")) fd30 := fun_ofD D30
  have b30 := F30.binds (ps := ["self"]) fun _ _ _ _ _ _ us hl => match us, hl with | [_], _ => rfl
  obtain ⟨fd31, D31⟩ := c.def_ 31 (d := d_simple_of) rfl
  have F31 : Fun K "simple_of" "simple_of" s_simple_of (He.fAd K ("simple_of", none)) fd31 := fun_ofD D31
  have b31 := F31.binds (ps := ["word", "thing"]) fun _ _ _ _ _ _ us hl => match us, hl with | [_, _], _ => rfl
  obtain ⟨fd32, D32⟩ := c.def_ 32 (d := d_made_of_told) rfl
  have F32 : Fun K "made_of_told" "made_of_told" s_made_of_told (He.fAd K ("made_of_told", none)) fd32 := fun_ofD D32
  have b32 := F32.binds (ps := ["told", "left"]) fun _ _ _ _ _ _ us hl => match us, hl with | [_, _], _ => rfl
  obtain ⟨fd33, D33⟩ := c.def_ 33 (d := d_term_of) rfl
  have F33 : Fun K "term_of" "term_of" s_term_of (He.fAd K ("term_of", none)) fd33 := fun_ofD D33
  have b33 := F33.binds (ps := ["told"]) fun _ _ _ _ _ _ us hl => match us, hl with | [_], _ => rfl
  obtain ⟨fd34, D34⟩ := c.def_ 34 (d := d_new_name) rfl
  have F34 : Fun K "new_name" "new_name" s_new_name (He.fAd K ("new_name", none)) fd34 := fun_ofD D34
  have b34 := F34.binds (ps := ["names", "name"]) fun _ _ _ _ _ _ us hl => match us, hl with | [_, _], _ => rfl
  obtain ⟨fd35, D35⟩ := c.def_ 35 (d := d_each_once) rfl
  have F35 : Fun K "each_once" "each_once" s_each_once (He.fAd K ("each_once", none)) fd35 := fun_ofD D35
  have b35 := F35.binds (ps := ["names"]) fun _ _ _ _ _ _ us hl => match us, hl with | [_], _ => rfl
  obtain ⟨fd36, D36⟩ := c.def_ 36 (d := d_Equation_init) rfl
  have F36 : Fun K "__init__" "Equation.__init__" s_Equation_init (He.fAd K ("Equation", some "__init__")) fd36 := fun_ofD D36
  have b36 := F36.binds (ps := ["self", "row"]) fun _ _ _ _ _ _ us hl => match us, hl with | [_, _], _ => rfl
  obtain ⟨fd37, D37⟩ := c.def_ 37 (d := d_Equation_told) rfl
  have F37 : Fun K "told" "Equation.told" s_Equation_told (He.fAd K ("Equation", some "told")) fd37 := fun_ofD D37
  have b37 := F37.binds (ps := ["self"]) fun _ _ _ _ _ _ us hl => match us, hl with | [_], _ => rfl
  obtain ⟨fd38, D38⟩ := c.def_ 38 (d := d_Equation_tells) rfl
  have F38 : Fun K "tells" "Equation.tells" s_Equation_tells (He.fAd K ("Equation", some "tells")) fd38 := fun_ofD D38
  have b38 := F38.binds (ps := ["self"]) fun _ _ _ _ _ _ us hl => match us, hl with | [_], _ => rfl
  obtain ⟨fd39, D39⟩ := c.def_ 39 (d := d_Equation_names) rfl
  have F39 : Fun K "names" "Equation.names" s_Equation_names (He.fAd K ("Equation", some "names")) fd39 := fun_ofD D39
  have b39 := F39.binds (ps := ["self"]) fun _ _ _ _ _ _ us hl => match us, hl with | [_], _ => rfl
  obtain ⟨fd40, D40⟩ := c.def_ 40 (d := d_Equation_term) rfl
  have F40 : Fun K "term" "Equation.term" s_Equation_term (He.fAd K ("Equation", some "term")) fd40 := fun_ofD D40
  have b40 := F40.binds (ps := ["self"]) fun _ _ _ _ _ _ us hl => match us, hl with | [_], _ => rfl
  obtain ⟨fd41, D41⟩ := c.def_ 41 (d := d_Equation_put_otherwise) rfl
  have F41 : Fun K "put_otherwise" "Equation.put_otherwise" s_Equation_put_otherwise (He.fAd K ("Equation", some "put_otherwise")) fd41 := fun_ofD D41
  have b41 := F41.binds (ps := ["self", "names"]) fun _ _ _ _ _ _ us hl => match us, hl with | [_, _], _ => rfl
  obtain ⟨fd42, D42⟩ := c.def_ 42 (d := d_Equation_renamed) rfl
  have F42 : Fun K "renamed" "Equation.renamed" s_Equation_renamed (He.fAd K ("Equation", some "renamed")) fd42 := fun_ofD D42
  have b42 := F42.binds (ps := ["self", "names"]) fun _ _ _ _ _ _ us hl => match us, hl with | [_, _], _ => rfl
  obtain ⟨fd43, D43⟩ := c.def_ 43 (d := d_Plain_init) rfl
  have F43 : Fun K "__init__" "Plain.__init__" s_Plain_init (He.fAd K ("Plain", some "__init__")) fd43 := fun_ofD D43
  have b43 := F43.binds (ps := ["self", "row"]) fun _ _ _ _ _ _ us hl => match us, hl with | [_, _], _ => rfl
  obtain ⟨fd44, D44⟩ := c.def_ 44 (d := d_Plain_names) rfl
  have F44 : Fun K "names" "Plain.names" s_Plain_names (He.fAd K ("Plain", some "names")) fd44 := fun_ofD D44
  have b44 := F44.binds (ps := ["self"]) fun _ _ _ _ _ _ us hl => match us, hl with | [_], _ => rfl
  obtain ⟨fd45, D45⟩ := c.def_ 45 (d := d_Plain_term) rfl
  have F45 : Fun K "term" "Plain.term" s_Plain_term (He.fAd K ("Plain", some "term")) fd45 := fun_ofD D45
  have b45 := F45.binds (ps := ["self"]) fun _ _ _ _ _ _ us hl => match us, hl with | [_], _ => rfl
  obtain ⟨fd46, D46⟩ := c.def_ 46 (d := d_Plain_put_otherwise) rfl
  have F46 : Fun K "put_otherwise" "Plain.put_otherwise" s_Plain_put_otherwise (He.fAd K ("Plain", some "put_otherwise")) fd46 := fun_ofD D46
  have b46 := F46.binds (ps := ["self", "names"]) fun _ _ _ _ _ _ us hl => match us, hl with | [_, _], _ => rfl
  obtain ⟨fd47, D47⟩ := c.def_ 47 (d := d_When_names) rfl
  have F47 : Fun K "names" "When.names" s_When_names (He.fAd K ("When", some "names")) fd47 := fun_ofD D47
  have b47 := F47.binds (ps := ["self"]) fun _ _ _ _ _ _ us hl => match us, hl with | [_], _ => rfl
  obtain ⟨fd48, D48⟩ := c.def_ 48 (d := d_When_put_otherwise) rfl
  have F48 : Fun K "put_otherwise" "When.put_otherwise" s_When_put_otherwise (He.fAd K ("When", some "put_otherwise")) fd48 := fun_ofD D48
  have b48 := F48.binds (ps := ["self", "names"]) fun _ _ _ _ _ _ us hl => match us, hl with | [_, _], _ => rfl
  obtain ⟨fd49, D49⟩ := c.def_ 49 (d := d_Same_tells) rfl
  have F49 : Fun K "tells" "Same.tells" s_Same_tells (He.fAd K ("Same", some "tells")) fd49 := fun_ofD D49
  have b49 := F49.binds (ps := ["self"]) fun _ _ _ _ _ _ us hl => match us, hl with | [_], _ => rfl
  obtain ⟨fd50, D50⟩ := c.def_ 50 (d := d_Same_names) rfl
  have F50 : Fun K "names" "Same.names" s_Same_names (He.fAd K ("Same", some "names")) fd50 := fun_ofD D50
  have b50 := F50.binds (ps := ["self"]) fun _ _ _ _ _ _ us hl => match us, hl with | [_], _ => rfl
  obtain ⟨fd51, D51⟩ := c.def_ 51 (d := d_Same_put_otherwise) rfl
  have F51 : Fun K "put_otherwise" "Same.put_otherwise" s_Same_put_otherwise (He.fAd K ("Same", some "put_otherwise")) fd51 := fun_ofD D51
  have b51 := F51.binds (ps := ["self", "names"]) fun _ _ _ _ _ _ us hl => match us, hl with | [_, _], _ => rfl
  obtain ⟨fd52, D52⟩ := c.def_ 52 (d := d_Call_tells) rfl
  have F52 : Fun K "tells" "Call.tells" s_Call_tells (He.fAd K ("Call", some "tells")) fd52 := fun_ofD D52
  have b52 := F52.binds (ps := ["self"]) fun _ _ _ _ _ _ us hl => match us, hl with | [_], _ => rfl
  obtain ⟨fd53, D53⟩ := c.def_ 53 (d := d_Call_names) rfl
  have F53 : Fun K "names" "Call.names" s_Call_names (He.fAd K ("Call", some "names")) fd53 := fun_ofD D53
  have b53 := F53.binds (ps := ["self"]) fun _ _ _ _ _ _ us hl => match us, hl with | [_], _ => rfl
  obtain ⟨fd54, D54⟩ := c.def_ 54 (d := d_Call_put_otherwise) rfl
  have F54 : Fun K "put_otherwise" "Call.put_otherwise" s_Call_put_otherwise (He.fAd K ("Call", some "put_otherwise")) fd54 := fun_ofD D54
  have b54 := F54.binds (ps := ["self", "names"]) fun _ _ _ _ _ _ us hl => match us, hl with | [_, _], _ => rfl
  obtain ⟨fd55, D55⟩ := c.def_ 55 (d := d_are_pointed) rfl
  have F55 : Fun K "are_pointed" "are_pointed" s_are_pointed (He.fAd K ("are_pointed", none)) fd55 := fun_ofD D55
  have b55 := F55.binds (ps := ["thing", "least"]) fun _ _ _ _ _ _ us hl => match us, hl with | [_, _], _ => rfl
  obtain ⟨fd56, D56⟩ := c.def_ 56 (d := d_is_valued) rfl
  have F56 : Fun K "is_valued" "is_valued" s_is_valued (He.fAd K ("is_valued", none)) fd56 := fun_ofD D56
  have b56 := F56.binds (ps := ["row"]) fun _ _ _ _ _ _ us hl => match us, hl with | [_], _ => rfl
  obtain ⟨fd57, D57⟩ := c.def_ 57 (d := d_plain_of) rfl
  have F57 : Fun K "plain_of" "plain_of" s_plain_of (He.fAd K ("plain_of", none)) fd57 := fun_ofD D57
  have b57 := F57.binds (ps := ["row"]) fun _ _ _ _ _ _ us hl => match us, hl with | [_], _ => rfl
  obtain ⟨fd58, D58⟩ := c.def_ 58 (d := d_valued_of) rfl
  have F58 : Fun K "valued_of" "valued_of" s_valued_of (He.fAd K ("valued_of", none)) fd58 := fun_ofD D58
  have b58 := F58.binds (ps := ["row"]) fun _ _ _ _ _ _ us hl => match us, hl with | [_], _ => rfl
  obtain ⟨fd59, D59⟩ := c.def_ 59 (d := d_call_of) rfl
  have F59 : Fun K "call_of" "call_of" s_call_of (He.fAd K ("call_of", none)) fd59 := fun_ofD D59
  have b59 := F59.binds (ps := ["row"]) fun _ _ _ _ _ _ us hl => match us, hl with | [_], _ => rfl
  obtain ⟨fd60, D60⟩ := c.def_ 60 (d := d_made_of) rfl
  have F60 : Fun K "made_of" "made_of" s_made_of (He.fAd K ("made_of", none)) fd60 := fun_ofD D60
  have b60 := F60.binds (ps := ["row"]) fun _ _ _ _ _ _ us hl => match us, hl with | [_], _ => rfl
  obtain ⟨fd61, D61⟩ := c.def_ 61 (d := d_equation_of) rfl
  have F61 : Fun K "equation_of" "equation_of" s_equation_of (He.fAd K ("equation_of", none)) fd61 := fun_ofD D61
  have b61 := F61.binds (ps := ["told"]) fun _ _ _ _ _ _ us hl => match us, hl with | [_], _ => rfl
  obtain ⟨fd62, D62⟩ := c.def_ 62 (d := d_cell_at_l) rfl
  have F62 : Fun K "_law_cell_at" "_law_cell_at" s_cell_at_l (He.fAd K ("_law_cell_at", none)) fd62 := fun_ofD D62
  have b62 := F62.binds (ps := ["_law_script", "_law_k"]) fun _ _ _ _ _ _ us hl => match us, hl with | [_, _], _ => rfl
  obtain ⟨fd63, D63⟩ := c.def_ 63 (d := d_box_l) rfl
  have F63 : Fun K "_law_box" "_law_box" s_box_l (He.fAd K ("_law_box", none)) fd63 := fun_ofD D63
  have b63 := F63.binds (ps := ["_law_cell"]) fun _ _ _ _ _ _ us hl => match us, hl with | [_], _ => rfl
  obtain ⟨fd64, D64⟩ := c.def_ 64 (d := d_take_l) rfl
  have F64 : Fun K "_law_take" "_law_take" s_take_l (He.fAd K ("_law_take", none)) fd64 := fun_ofD D64
  have b64 := F64.binds (ps := ["_law_box_here", "_law_many"]) fun _ _ _ _ _ _ us hl => match us, hl with | [_, _], _ => rfl
  obtain ⟨fd65, D65⟩ := c.def_ 65 (d := d_names_l) rfl
  have F65 : Fun K "_law_names" "_law_names" s_names_l (He.fAd K ("_law_names", none)) fd65 := fun_ofD D65
  have b65 := F65.binds (ps := ["_law_box_here", "_law_many"]) fun _ _ _ _ _ _ us hl => match us, hl with | [_, _], _ => rfl
  obtain ⟨fd66, D66⟩ := c.def_ 66 (d := d_value_l) rfl
  have F66 : Fun K "_law_value" "_law_value" s_value_l (He.fAd K ("_law_value", none)) fd66 := fun_ofD D66
  have b66 := F66.binds (ps := ["_law_box_here"]) fun _ _ _ _ _ _ us hl => match us, hl with | [_], _ => rfl
  obtain ⟨fd67, D67⟩ := c.def_ 67 (d := d_term_l) rfl
  have F67 : Fun K "_law_term" "_law_term" s_term_l (He.fAd K ("_law_term", none)) fd67 := fun_ofD D67
  have b67 := F67.binds (ps := ["_law_box_here", "_law_names_here", "_law_levels"]) fun _ _ _ _ _ _ us hl => match us, hl with | [_, _, _], _ => rfl
  obtain ⟨fd68, D68⟩ := c.def_ 68 (d := d_row_l) rfl
  have F68 : Fun K "_law_row" "_law_row" s_row_l (He.fAd K ("_law_row", none)) fd68 := fun_ofD D68
  have b68 := F68.binds (ps := ["_law_box_here", "_law_told", "_law_names_here"]) fun _ _ _ _ _ _ us hl => match us, hl with | [_, _, _], _ => rfl
  obtain ⟨fd69, D69⟩ := c.def_ 69 (d := d_term_names_l) rfl
  have F69 : Fun K "_law_term_names" "_law_term_names" s_term_names_l (He.fAd K ("_law_term_names", none)) fd69 := fun_ofD D69
  have b69 := F69.binds (ps := ["_law_term_here"]) fun _ _ _ _ _ _ us hl => match us, hl with | [_], _ => rfl
  obtain ⟨fd70, D70⟩ := c.def_ 70 (d := d_once_l) rfl
  have F70 : Fun K "_law_once" "_law_once" s_once_l (He.fAd K ("_law_once", none)) fd70 := fun_ofD D70
  have b70 := F70.binds (ps := ["_law_names_here"]) fun _ _ _ _ _ _ us hl => match us, hl with | [_], _ => rfl
  obtain ⟨fd71, D71⟩ := c.def_ 71 (d := d_mentions_l) rfl
  have F71 : Fun K "_law_mentions" "_law_mentions" s_mentions_l (He.fAd K ("_law_mentions", none)) fd71 := fun_ofD D71
  have b71 := F71.binds (ps := ["_law_row_here"]) fun _ _ _ _ _ _ us hl => match us, hl with | [_], _ => rfl
  obtain ⟨fd72, D72⟩ := c.def_ 72 (d := d_tells_l) rfl
  have F72 : Fun K "_law_tells" "_law_tells" s_tells_l (He.fAd K ("_law_tells", none)) fd72 := fun_ofD D72
  have b72 := F72.binds (ps := ["_law_row_here"]) fun _ _ _ _ _ _ us hl => match us, hl with | [_], _ => rfl
  obtain ⟨fd73, D73⟩ := c.def_ 73 (d := d_term_renamed_l) rfl
  have F73 : Fun K "_law_term_renamed" "_law_term_renamed" s_term_renamed_l (He.fAd K ("_law_term_renamed", none)) fd73 := fun_ofD D73
  have b73 := F73.binds (ps := ["_law_term_here", "_law_calls_here"]) fun _ _ _ _ _ _ us hl => match us, hl with | [_, _], _ => rfl
  obtain ⟨fd74, D74⟩ := c.def_ 74 (d := d_renamed_l) rfl
  have F74 : Fun K "_law_renamed" "_law_renamed" s_renamed_l (He.fAd K ("_law_renamed", none)) fd74 := fun_ofD D74
  have b74 := F74.binds (ps := ["_law_row_here", "_law_calls_here"]) fun _ _ _ _ _ _ us hl => match us, hl with | [_, _], _ => rfl
  obtain ⟨fd75, D75⟩ := c.def_ 75 (d := d_calls_l) rfl
  have F75 : Fun K "_law_calls" "_law_calls" s_calls_l (He.fAd K ("_law_calls", none)) fd75 := fun_ofD D75
  have b75 := F75.binds (ps := ["_law_box_here", "_law_names_here"]) fun _ _ _ _ _ _ us hl => match us, hl with | [_, _], _ => rfl
  obtain ⟨fd76, D76⟩ := c.def_ 76 (d := d_refused_l) rfl
  have F76 : Fun K "_law_refused" "_law_refused" s_refused_l (He.fAd K ("_law_refused", none)) fd76 := fun_ofD D76
  have b76 := F76.binds (ps := ["_law_equation", "_law_calls_here"]) fun _ _ _ _ _ _ us hl => match us, hl with | [_, _], _ => rfl
  obtain ⟨fd77, D77⟩ := c.def_ 77 (d := d_lacking_right_l) rfl
  have F77 : Fun K "_law_lacking_right" "_law_lacking_right" s_lacking_right_l (He.fAd K ("_law_lacking_right", none)) fd77 := fun_ofD D77
  have b77 := F77.binds (ps := ["_law_box_here", "_law_equation", "_law_row_here", "_law_calls_here"]) fun _ _ _ _ _ _ us hl => match us, hl with | [_, _, _, _], _ => rfl
  obtain ⟨fd78, D78⟩ := c.def_ 78 (d := d_back_l) rfl
  have F78 : Fun K "_law_back" "_law_back" s_back_l (He.fAd K ("_law_back", none)) fd78 := fun_ofD D78
  have b78 := F78.binds (ps := ["_law_calls_here"]) fun _ _ _ _ _ _ us hl => match us, hl with | [_], _ => rfl
  obtain ⟨fd79, D79⟩ := c.def_ 79 (d := d_law) rfl
  have F79 : Fun K "law" "law" s_law (He.fAd K ("law", none)) fd79 := fun_ofD D79
  have b79 := F79.binds (ps := ["_law_script"]) fun _ _ _ _ _ _ us hl => match us, hl with | [_], _ => rfl
  obtain ⟨t_LETTERS, k_LETTERS⟩ := He.str_ok X G (c.fact 67 (f := .str "LETTERS" "abcdefghijklmnopqrstuvwxyz") rfl)
  obtain ⟨t_LONGEST, k_LONGEST⟩ := He.int_ok X G (c.fact 68 (f := .int "LONGEST" (8)) rfl)
  obtain ⟨t_MOST, k_MOST⟩ := He.int_ok X G (c.fact 69 (f := .int "MOST" (1000000000)) rfl)
  obtain ⟨t_MOST_LEVELS, k_MOST_LEVELS⟩ := He.int_ok X G (c.fact 70 (f := .int "MOST_LEVELS" (5)) rfl)
  obtain ⟨t_MOST_SIGNS, k_MOST_SIGNS⟩ := He.int_ok X G (c.fact 71 (f := .int "MOST_SIGNS" (80)) rfl)
  have e := hfa.symm.trans (He.glo_ok X G (c.fact 36 (f := .glo "law") rfl))
  cases e
  have T : Txt K mg ⟨(He.fAd K ("NoName", some "__init__")), fd0, (He.fAd K ("NoEquation", some "__init__")), fd1, (He.fAd K ("is_whole", none)), fd2, (He.fAd K ("is_within", none)), fd3, (He.fAd K ("is_name", none)), fd4, (He.fAd K ("is_pointed", none)), fd5, (He.fAd K ("is_value", none)), fd6, (He.fAd K ("ops_told", none)), fd7, (He.fAd K ("Term", some "parts")), fd8, (He.fAd K ("Term", some "names")), fd9, (He.fAd K ("Term", some "levels")), fd10, (He.fAd K ("Term", some "renamed")), fd11, (He.fAd K ("need_term", none)), fd12, (He.fAd K ("Name", some "__init__")), fd13, (He.fAd K ("Name", some "names")), fd14, (He.fAd K ("Name", some "renamed")), fd15, (He.fAd K ("Name", some "told")), fd16, (He.fAd K ("Value", some "__init__")), fd17, (He.fAd K ("Value", some "told")), fd18, (He.fAd K ("Two", some "__init__")), fd19, (He.fAd K ("Two", some "parts")), fd20, (He.fAd K ("Two", some "renamed")), fd21, (He.fAd K ("Two", some "told")), fd22, (He.fAd K ("Not", some "__init__")), fd23, (He.fAd K ("Not", some "parts")), fd24, (He.fAd K ("Not", some "renamed")), fd25, (He.fAd K ("Not", some "told")), fd26, (He.fAd K ("Pick", some "__init__")), fd27, (He.fAd K ("Pick", some "parts")), fd28, (He.fAd K ("Pick", some "renamed")), fd29, (He.fAd K ("Pick", some "told")), fd30, (He.fAd K ("simple_of", none)), fd31, (He.fAd K ("made_of_told", none)), fd32, (He.fAd K ("term_of", none)), fd33, (He.fAd K ("new_name", none)), fd34, (He.fAd K ("each_once", none)), fd35, (He.fAd K ("Equation", some "__init__")), fd36, (He.fAd K ("Equation", some "told")), fd37, (He.fAd K ("Equation", some "tells")), fd38, (He.fAd K ("Equation", some "names")), fd39, (He.fAd K ("Equation", some "term")), fd40, (He.fAd K ("Equation", some "put_otherwise")), fd41, (He.fAd K ("Equation", some "renamed")), fd42, (He.fAd K ("Plain", some "__init__")), fd43, (He.fAd K ("Plain", some "names")), fd44, (He.fAd K ("Plain", some "term")), fd45, (He.fAd K ("Plain", some "put_otherwise")), fd46, (He.fAd K ("When", some "names")), fd47, (He.fAd K ("When", some "put_otherwise")), fd48, (He.fAd K ("Same", some "tells")), fd49, (He.fAd K ("Same", some "names")), fd50, (He.fAd K ("Same", some "put_otherwise")), fd51, (He.fAd K ("Call", some "tells")), fd52, (He.fAd K ("Call", some "names")), fd53, (He.fAd K ("Call", some "put_otherwise")), fd54, (He.fAd K ("are_pointed", none)), fd55, (He.fAd K ("is_valued", none)), fd56, (He.fAd K ("plain_of", none)), fd57, (He.fAd K ("valued_of", none)), fd58, (He.fAd K ("call_of", none)), fd59, (He.fAd K ("made_of", none)), fd60, (He.fAd K ("equation_of", none)), fd61, (He.fAd K ("_law_cell_at", none)), fd62, (He.fAd K ("_law_box", none)), fd63, (He.fAd K ("_law_take", none)), fd64, (He.fAd K ("_law_names", none)), fd65, (He.fAd K ("_law_value", none)), fd66, (He.fAd K ("_law_term", none)), fd67, (He.fAd K ("_law_row", none)), fd68, (He.fAd K ("_law_term_names", none)), fd69, (He.fAd K ("_law_once", none)), fd70, (He.fAd K ("_law_mentions", none)), fd71, (He.fAd K ("_law_tells", none)), fd72, (He.fAd K ("_law_term_renamed", none)), fd73, (He.fAd K ("_law_renamed", none)), fd74, (He.fAd K ("_law_calls", none)), fd75, (He.fAd K ("_law_refused", none)), fd76, (He.fAd K ("_law_lacking_right", none)), fd77, (He.fAd K ("_law_back", none)), fd78, (He.fAd K ("law", none)), fd79, (He.ga K "OPS"), (He.ga K "OWN"), (He.ga K "BeatError"), (He.ga K "NoName"), (He.ga K "NoEquation"), (He.ga K "Term"), (He.ga K "Name"), (He.ga K "Value"), (He.ga K "Two"), (He.ga K "Not"), (He.ga K "Pick"), (He.ga K "Equation"), (He.ga K "Plain"), (He.ga K "Before"), (He.ga K "When"), (He.ga K "Hold"), (He.ga K "Like"), (He.ga K "Same"), (He.ga K "Call")⟩ := ⟨F0,
    b0,
    F1,
    b1,
    F2,
    b2,
    (He.glo_ok X G (c.fact 0 (f := .glo "is_whole") rfl)),
    F3,
    b3,
    (He.glo_ok X G (c.fact 1 (f := .glo "is_within") rfl)),
    F4,
    b4,
    (He.glo_ok X G (c.fact 2 (f := .glo "is_name") rfl)),
    F5,
    b5,
    (He.glo_ok X G (c.fact 3 (f := .glo "is_pointed") rfl)),
    F6,
    b6,
    (He.glo_ok X G (c.fact 4 (f := .glo "is_value") rfl)),
    F7,
    b7,
    (He.glo_ok X G (c.fact 5 (f := .glo "ops_told") rfl)),
    F8,
    b8,
    (allAt hex 0 (b := PySem.W.isFn K (.ref (He.fAd K ("Term", some "parts")))) rfl),
    F9,
    b9,
    (allAt hex 1 (b := PySem.W.isFn K (.ref (He.fAd K ("Term", some "names")))) rfl),
    F10,
    b10,
    (allAt hex 2 (b := PySem.W.isFn K (.ref (He.fAd K ("Term", some "levels")))) rfl),
    F11,
    b11,
    (allAt hex 3 (b := PySem.W.isFn K (.ref (He.fAd K ("Term", some "renamed")))) rfl),
    F12,
    b12,
    (He.glo_ok X G (c.fact 6 (f := .glo "need_term") rfl)),
    F13,
    b13,
    (allAt hex 4 (b := PySem.W.isFn K (.ref (He.fAd K ("Name", some "__init__")))) rfl),
    F14,
    b14,
    (allAt hex 5 (b := PySem.W.isFn K (.ref (He.fAd K ("Name", some "names")))) rfl),
    F15,
    b15,
    (allAt hex 6 (b := PySem.W.isFn K (.ref (He.fAd K ("Name", some "renamed")))) rfl),
    F16,
    b16,
    (allAt hex 7 (b := PySem.W.isFn K (.ref (He.fAd K ("Name", some "told")))) rfl),
    F17,
    b17,
    (allAt hex 8 (b := PySem.W.isFn K (.ref (He.fAd K ("Value", some "__init__")))) rfl),
    F18,
    b18,
    (allAt hex 9 (b := PySem.W.isFn K (.ref (He.fAd K ("Value", some "told")))) rfl),
    F19,
    b19,
    (allAt hex 10 (b := PySem.W.isFn K (.ref (He.fAd K ("Two", some "__init__")))) rfl),
    F20,
    b20,
    (allAt hex 11 (b := PySem.W.isFn K (.ref (He.fAd K ("Two", some "parts")))) rfl),
    F21,
    b21,
    (allAt hex 12 (b := PySem.W.isFn K (.ref (He.fAd K ("Two", some "renamed")))) rfl),
    F22,
    b22,
    (allAt hex 13 (b := PySem.W.isFn K (.ref (He.fAd K ("Two", some "told")))) rfl),
    F23,
    b23,
    (allAt hex 14 (b := PySem.W.isFn K (.ref (He.fAd K ("Not", some "__init__")))) rfl),
    F24,
    b24,
    (allAt hex 15 (b := PySem.W.isFn K (.ref (He.fAd K ("Not", some "parts")))) rfl),
    F25,
    b25,
    (allAt hex 16 (b := PySem.W.isFn K (.ref (He.fAd K ("Not", some "renamed")))) rfl),
    F26,
    b26,
    (allAt hex 17 (b := PySem.W.isFn K (.ref (He.fAd K ("Not", some "told")))) rfl),
    F27,
    b27,
    (allAt hex 18 (b := PySem.W.isFn K (.ref (He.fAd K ("Pick", some "__init__")))) rfl),
    F28,
    b28,
    (allAt hex 19 (b := PySem.W.isFn K (.ref (He.fAd K ("Pick", some "parts")))) rfl),
    F29,
    b29,
    (allAt hex 20 (b := PySem.W.isFn K (.ref (He.fAd K ("Pick", some "renamed")))) rfl),
    F30,
    b30,
    (allAt hex 21 (b := PySem.W.isFn K (.ref (He.fAd K ("Pick", some "told")))) rfl),
    F31,
    b31,
    (He.glo_ok X G (c.fact 7 (f := .glo "simple_of") rfl)),
    F32,
    b32,
    (He.glo_ok X G (c.fact 8 (f := .glo "made_of_told") rfl)),
    F33,
    b33,
    (He.glo_ok X G (c.fact 9 (f := .glo "term_of") rfl)),
    F34,
    b34,
    (He.glo_ok X G (c.fact 10 (f := .glo "new_name") rfl)),
    F35,
    b35,
    (He.glo_ok X G (c.fact 11 (f := .glo "each_once") rfl)),
    F36,
    b36,
    (allAt hex 22 (b := PySem.W.isFn K (.ref (He.fAd K ("Equation", some "__init__")))) rfl),
    F37,
    b37,
    (allAt hex 23 (b := PySem.W.isFn K (.ref (He.fAd K ("Equation", some "told")))) rfl),
    F38,
    b38,
    (allAt hex 24 (b := PySem.W.isFn K (.ref (He.fAd K ("Equation", some "tells")))) rfl),
    F39,
    b39,
    (allAt hex 25 (b := PySem.W.isFn K (.ref (He.fAd K ("Equation", some "names")))) rfl),
    F40,
    b40,
    (allAt hex 26 (b := PySem.W.isFn K (.ref (He.fAd K ("Equation", some "term")))) rfl),
    F41,
    b41,
    (allAt hex 27 (b := PySem.W.isFn K (.ref (He.fAd K ("Equation", some "put_otherwise")))) rfl),
    F42,
    b42,
    (allAt hex 28 (b := PySem.W.isFn K (.ref (He.fAd K ("Equation", some "renamed")))) rfl),
    F43,
    b43,
    (allAt hex 29 (b := PySem.W.isFn K (.ref (He.fAd K ("Plain", some "__init__")))) rfl),
    F44,
    b44,
    (allAt hex 30 (b := PySem.W.isFn K (.ref (He.fAd K ("Plain", some "names")))) rfl),
    F45,
    b45,
    (allAt hex 31 (b := PySem.W.isFn K (.ref (He.fAd K ("Plain", some "term")))) rfl),
    F46,
    b46,
    (allAt hex 32 (b := PySem.W.isFn K (.ref (He.fAd K ("Plain", some "put_otherwise")))) rfl),
    F47,
    b47,
    (allAt hex 33 (b := PySem.W.isFn K (.ref (He.fAd K ("When", some "names")))) rfl),
    F48,
    b48,
    (allAt hex 34 (b := PySem.W.isFn K (.ref (He.fAd K ("When", some "put_otherwise")))) rfl),
    F49,
    b49,
    (allAt hex 35 (b := PySem.W.isFn K (.ref (He.fAd K ("Same", some "tells")))) rfl),
    F50,
    b50,
    (allAt hex 36 (b := PySem.W.isFn K (.ref (He.fAd K ("Same", some "names")))) rfl),
    F51,
    b51,
    (allAt hex 37 (b := PySem.W.isFn K (.ref (He.fAd K ("Same", some "put_otherwise")))) rfl),
    F52,
    b52,
    (allAt hex 38 (b := PySem.W.isFn K (.ref (He.fAd K ("Call", some "tells")))) rfl),
    F53,
    b53,
    (allAt hex 39 (b := PySem.W.isFn K (.ref (He.fAd K ("Call", some "names")))) rfl),
    F54,
    b54,
    (allAt hex 40 (b := PySem.W.isFn K (.ref (He.fAd K ("Call", some "put_otherwise")))) rfl),
    F55,
    b55,
    (He.glo_ok X G (c.fact 12 (f := .glo "are_pointed") rfl)),
    F56,
    b56,
    (He.glo_ok X G (c.fact 13 (f := .glo "is_valued") rfl)),
    F57,
    b57,
    (He.glo_ok X G (c.fact 14 (f := .glo "plain_of") rfl)),
    F58,
    b58,
    (He.glo_ok X G (c.fact 15 (f := .glo "valued_of") rfl)),
    F59,
    b59,
    (He.glo_ok X G (c.fact 16 (f := .glo "call_of") rfl)),
    F60,
    b60,
    (He.glo_ok X G (c.fact 17 (f := .glo "made_of") rfl)),
    F61,
    b61,
    (He.glo_ok X G (c.fact 18 (f := .glo "equation_of") rfl)),
    F62,
    b62,
    (He.glo_ok X G (c.fact 19 (f := .glo "_law_cell_at") rfl)),
    F63,
    b63,
    (He.glo_ok X G (c.fact 20 (f := .glo "_law_box") rfl)),
    F64,
    b64,
    (He.glo_ok X G (c.fact 21 (f := .glo "_law_take") rfl)),
    F65,
    b65,
    (He.glo_ok X G (c.fact 22 (f := .glo "_law_names") rfl)),
    F66,
    b66,
    (He.glo_ok X G (c.fact 23 (f := .glo "_law_value") rfl)),
    F67,
    b67,
    (He.glo_ok X G (c.fact 24 (f := .glo "_law_term") rfl)),
    F68,
    b68,
    (He.glo_ok X G (c.fact 25 (f := .glo "_law_row") rfl)),
    F69,
    b69,
    (He.glo_ok X G (c.fact 26 (f := .glo "_law_term_names") rfl)),
    F70,
    b70,
    (He.glo_ok X G (c.fact 27 (f := .glo "_law_once") rfl)),
    F71,
    b71,
    (He.glo_ok X G (c.fact 28 (f := .glo "_law_mentions") rfl)),
    F72,
    b72,
    (He.glo_ok X G (c.fact 29 (f := .glo "_law_tells") rfl)),
    F73,
    b73,
    (He.glo_ok X G (c.fact 30 (f := .glo "_law_term_renamed") rfl)),
    F74,
    b74,
    (He.glo_ok X G (c.fact 31 (f := .glo "_law_renamed") rfl)),
    F75,
    b75,
    (He.glo_ok X G (c.fact 32 (f := .glo "_law_calls") rfl)),
    F76,
    b76,
    (He.glo_ok X G (c.fact 33 (f := .glo "_law_refused") rfl)),
    F77,
    b77,
    (He.glo_ok X G (c.fact 34 (f := .glo "_law_lacking_right") rfl)),
    F78,
    b78,
    (He.glo_ok X G (c.fact 35 (f := .glo "_law_back") rfl)),
    F79,
    b79,
    (He.glo_ok X G (c.fact 36 (f := .glo "law") rfl)),
    (He.glo_ok X G (c.fact 37 (f := .glo "BeatError") rfl)),
    (allAt hex 41 (b := baseB K (He.ga K "BeatError")) rfl),
    (allAt hex 42 (b := PySem.W.excIn K (He.ga K "BeatError") [.type "ValueError", .type "Exception", .type "BaseException", .type "object"] "ValueError.__new__") rfl),
    (allAt hex 43 (b := PySem.W.keepIn K (.ref (He.ga K "BeatError"))) rfl),
    (allAt hex 44 (b := icB K (He.ga K "BeatError")) rfl),
    (He.glo_ok X G (c.fact 38 (f := .glo "NoName") rfl)),
    (allAt hex 45 (b := exB K (He.ga K "NoName") ["found"]) rfl),
    (of_decide_eq_true (allAt hex 46 (b := decide (PySem.W.findIn K (.ref (He.ga K "NoName")) "__init__" = some (some (.ref (He.fAd K ("NoName", some "__init__")))))) rfl)),
    (of_decide_eq_true (allAt hex 47 (b := decide (PySem.W.typeIn K (.ref (He.fAd K ("NoName", some "__init__"))) = some (.type "function"))) rfl)),
    (He.glo_ok X G (c.fact 39 (f := .glo "NoEquation") rfl)),
    (allAt hex 48 (b := exB K (He.ga K "NoEquation") ["found"]) rfl),
    (of_decide_eq_true (allAt hex 49 (b := decide (PySem.W.findIn K (.ref (He.ga K "NoEquation")) "__init__" = some (some (.ref (He.fAd K ("NoEquation", some "__init__")))))) rfl)),
    (of_decide_eq_true (allAt hex 50 (b := decide (PySem.W.typeIn K (.ref (He.fAd K ("NoEquation", some "__init__"))) = some (.type "function"))) rfl)),
    (He.glo_ok X G (c.fact 40 (f := .glo "Term") rfl)),
    (He.glo_ok X G (c.fact 41 (f := .glo "Name") rfl)),
    (allAt hex 51 (b := tcB K (He.ga K "Name") ["name"]) rfl),
    (of_decide_eq_true (allAt hex 52 (b := decide (PySem.W.findIn K (.ref (He.ga K "Name")) "__init__" = some (some (.ref (He.fAd K ("Name", some "__init__")))))) rfl)),
    (of_decide_eq_true (allAt hex 53 (b := decide (PySem.W.findIn K (.ref (He.ga K "Name")) "parts" = some (some (.ref (He.fAd K ("Term", some "parts")))))) rfl)),
    (of_decide_eq_true (allAt hex 54 (b := decide (PySem.W.findIn K (.ref (He.ga K "Name")) "names" = some (some (.ref (He.fAd K ("Name", some "names")))))) rfl)),
    (of_decide_eq_true (allAt hex 55 (b := decide (PySem.W.findIn K (.ref (He.ga K "Name")) "levels" = some (some (.ref (He.fAd K ("Term", some "levels")))))) rfl)),
    (of_decide_eq_true (allAt hex 56 (b := decide (PySem.W.findIn K (.ref (He.ga K "Name")) "told" = some (some (.ref (He.fAd K ("Name", some "told")))))) rfl)),
    (of_decide_eq_true (allAt hex 57 (b := decide (PySem.W.findIn K (.ref (He.ga K "Name")) "renamed" = some (some (.ref (He.fAd K ("Name", some "renamed")))))) rfl)),
    (He.glo_ok X G (c.fact 42 (f := .glo "Value") rfl)),
    (allAt hex 58 (b := tcB K (He.ga K "Value") ["amount"]) rfl),
    (of_decide_eq_true (allAt hex 59 (b := decide (PySem.W.findIn K (.ref (He.ga K "Value")) "__init__" = some (some (.ref (He.fAd K ("Value", some "__init__")))))) rfl)),
    (of_decide_eq_true (allAt hex 60 (b := decide (PySem.W.findIn K (.ref (He.ga K "Value")) "parts" = some (some (.ref (He.fAd K ("Term", some "parts")))))) rfl)),
    (of_decide_eq_true (allAt hex 61 (b := decide (PySem.W.findIn K (.ref (He.ga K "Value")) "names" = some (some (.ref (He.fAd K ("Term", some "names")))))) rfl)),
    (of_decide_eq_true (allAt hex 62 (b := decide (PySem.W.findIn K (.ref (He.ga K "Value")) "levels" = some (some (.ref (He.fAd K ("Term", some "levels")))))) rfl)),
    (of_decide_eq_true (allAt hex 63 (b := decide (PySem.W.findIn K (.ref (He.ga K "Value")) "told" = some (some (.ref (He.fAd K ("Value", some "told")))))) rfl)),
    (of_decide_eq_true (allAt hex 64 (b := decide (PySem.W.findIn K (.ref (He.ga K "Value")) "renamed" = some (some (.ref (He.fAd K ("Term", some "renamed")))))) rfl)),
    (He.glo_ok X G (c.fact 43 (f := .glo "Two") rfl)),
    (allAt hex 65 (b := tcB K (He.ga K "Two") ["op", "one", "second"]) rfl),
    (of_decide_eq_true (allAt hex 66 (b := decide (PySem.W.findIn K (.ref (He.ga K "Two")) "__init__" = some (some (.ref (He.fAd K ("Two", some "__init__")))))) rfl)),
    (of_decide_eq_true (allAt hex 67 (b := decide (PySem.W.findIn K (.ref (He.ga K "Two")) "parts" = some (some (.ref (He.fAd K ("Two", some "parts")))))) rfl)),
    (of_decide_eq_true (allAt hex 68 (b := decide (PySem.W.findIn K (.ref (He.ga K "Two")) "names" = some (some (.ref (He.fAd K ("Term", some "names")))))) rfl)),
    (of_decide_eq_true (allAt hex 69 (b := decide (PySem.W.findIn K (.ref (He.ga K "Two")) "levels" = some (some (.ref (He.fAd K ("Term", some "levels")))))) rfl)),
    (of_decide_eq_true (allAt hex 70 (b := decide (PySem.W.findIn K (.ref (He.ga K "Two")) "told" = some (some (.ref (He.fAd K ("Two", some "told")))))) rfl)),
    (of_decide_eq_true (allAt hex 71 (b := decide (PySem.W.findIn K (.ref (He.ga K "Two")) "renamed" = some (some (.ref (He.fAd K ("Two", some "renamed")))))) rfl)),
    (He.glo_ok X G (c.fact 44 (f := .glo "Not") rfl)),
    (allAt hex 72 (b := tcB K (He.ga K "Not") ["one"]) rfl),
    (of_decide_eq_true (allAt hex 73 (b := decide (PySem.W.findIn K (.ref (He.ga K "Not")) "__init__" = some (some (.ref (He.fAd K ("Not", some "__init__")))))) rfl)),
    (of_decide_eq_true (allAt hex 74 (b := decide (PySem.W.findIn K (.ref (He.ga K "Not")) "parts" = some (some (.ref (He.fAd K ("Not", some "parts")))))) rfl)),
    (of_decide_eq_true (allAt hex 75 (b := decide (PySem.W.findIn K (.ref (He.ga K "Not")) "names" = some (some (.ref (He.fAd K ("Term", some "names")))))) rfl)),
    (of_decide_eq_true (allAt hex 76 (b := decide (PySem.W.findIn K (.ref (He.ga K "Not")) "levels" = some (some (.ref (He.fAd K ("Term", some "levels")))))) rfl)),
    (of_decide_eq_true (allAt hex 77 (b := decide (PySem.W.findIn K (.ref (He.ga K "Not")) "told" = some (some (.ref (He.fAd K ("Not", some "told")))))) rfl)),
    (of_decide_eq_true (allAt hex 78 (b := decide (PySem.W.findIn K (.ref (He.ga K "Not")) "renamed" = some (some (.ref (He.fAd K ("Not", some "renamed")))))) rfl)),
    (He.glo_ok X G (c.fact 45 (f := .glo "Pick") rfl)),
    (allAt hex 79 (b := tcB K (He.ga K "Pick") ["by", "one", "second"]) rfl),
    (of_decide_eq_true (allAt hex 80 (b := decide (PySem.W.findIn K (.ref (He.ga K "Pick")) "__init__" = some (some (.ref (He.fAd K ("Pick", some "__init__")))))) rfl)),
    (of_decide_eq_true (allAt hex 81 (b := decide (PySem.W.findIn K (.ref (He.ga K "Pick")) "parts" = some (some (.ref (He.fAd K ("Pick", some "parts")))))) rfl)),
    (of_decide_eq_true (allAt hex 82 (b := decide (PySem.W.findIn K (.ref (He.ga K "Pick")) "names" = some (some (.ref (He.fAd K ("Term", some "names")))))) rfl)),
    (of_decide_eq_true (allAt hex 83 (b := decide (PySem.W.findIn K (.ref (He.ga K "Pick")) "levels" = some (some (.ref (He.fAd K ("Term", some "levels")))))) rfl)),
    (of_decide_eq_true (allAt hex 84 (b := decide (PySem.W.findIn K (.ref (He.ga K "Pick")) "told" = some (some (.ref (He.fAd K ("Pick", some "told")))))) rfl)),
    (of_decide_eq_true (allAt hex 85 (b := decide (PySem.W.findIn K (.ref (He.ga K "Pick")) "renamed" = some (some (.ref (He.fAd K ("Pick", some "renamed")))))) rfl)),
    (He.glo_ok X G (c.fact 46 (f := .glo "Equation") rfl)),
    (allAt hex 86 (b := tcB K (He.ga K "Equation") ["told_row"]) rfl),
    (of_decide_eq_true (allAt hex 87 (b := decide (PySem.W.findIn K (.ref (He.ga K "Equation")) "__init__" = some (some (.ref (He.fAd K ("Equation", some "__init__")))))) rfl)),
    (of_decide_eq_true (allAt hex 88 (b := decide (PySem.W.findIn K (.ref (He.ga K "Equation")) "names" = some (some (.ref (He.fAd K ("Equation", some "names")))))) rfl)),
    (of_decide_eq_true (allAt hex 89 (b := decide (PySem.W.findIn K (.ref (He.ga K "Equation")) "told" = some (some (.ref (He.fAd K ("Equation", some "told")))))) rfl)),
    (of_decide_eq_true (allAt hex 90 (b := decide (PySem.W.findIn K (.ref (He.ga K "Equation")) "tells" = some (some (.ref (He.fAd K ("Equation", some "tells")))))) rfl)),
    (of_decide_eq_true (allAt hex 91 (b := decide (PySem.W.findIn K (.ref (He.ga K "Equation")) "term" = some (some (.ref (He.fAd K ("Equation", some "term")))))) rfl)),
    (of_decide_eq_true (allAt hex 92 (b := decide (PySem.W.findIn K (.ref (He.ga K "Equation")) "renamed" = some (some (.ref (He.fAd K ("Equation", some "renamed")))))) rfl)),
    (of_decide_eq_true (allAt hex 93 (b := decide (PySem.W.findIn K (.ref (He.ga K "Equation")) "put_otherwise" = some (some (.ref (He.fAd K ("Equation", some "put_otherwise")))))) rfl)),
    (He.glo_ok X G (c.fact 47 (f := .glo "Plain") rfl)),
    (allAt hex 94 (b := tcB K (He.ga K "Plain") ["told_row", "kept_term"]) rfl),
    (of_decide_eq_true (allAt hex 95 (b := decide (PySem.W.findIn K (.ref (He.ga K "Plain")) "__init__" = some (some (.ref (He.fAd K ("Plain", some "__init__")))))) rfl)),
    (of_decide_eq_true (allAt hex 96 (b := decide (PySem.W.findIn K (.ref (He.ga K "Plain")) "names" = some (some (.ref (He.fAd K ("Plain", some "names")))))) rfl)),
    (of_decide_eq_true (allAt hex 97 (b := decide (PySem.W.findIn K (.ref (He.ga K "Plain")) "told" = some (some (.ref (He.fAd K ("Equation", some "told")))))) rfl)),
    (of_decide_eq_true (allAt hex 98 (b := decide (PySem.W.findIn K (.ref (He.ga K "Plain")) "tells" = some (some (.ref (He.fAd K ("Equation", some "tells")))))) rfl)),
    (of_decide_eq_true (allAt hex 99 (b := decide (PySem.W.findIn K (.ref (He.ga K "Plain")) "term" = some (some (.ref (He.fAd K ("Plain", some "term")))))) rfl)),
    (of_decide_eq_true (allAt hex 100 (b := decide (PySem.W.findIn K (.ref (He.ga K "Plain")) "renamed" = some (some (.ref (He.fAd K ("Equation", some "renamed")))))) rfl)),
    (of_decide_eq_true (allAt hex 101 (b := decide (PySem.W.findIn K (.ref (He.ga K "Plain")) "put_otherwise" = some (some (.ref (He.fAd K ("Plain", some "put_otherwise")))))) rfl)),
    (He.glo_ok X G (c.fact 48 (f := .glo "Before") rfl)),
    (allAt hex 102 (b := tcB K (He.ga K "Before") ["told_row"]) rfl),
    (of_decide_eq_true (allAt hex 103 (b := decide (PySem.W.findIn K (.ref (He.ga K "Before")) "__init__" = some (some (.ref (He.fAd K ("Equation", some "__init__")))))) rfl)),
    (of_decide_eq_true (allAt hex 104 (b := decide (PySem.W.findIn K (.ref (He.ga K "Before")) "names" = some (some (.ref (He.fAd K ("Equation", some "names")))))) rfl)),
    (of_decide_eq_true (allAt hex 105 (b := decide (PySem.W.findIn K (.ref (He.ga K "Before")) "told" = some (some (.ref (He.fAd K ("Equation", some "told")))))) rfl)),
    (of_decide_eq_true (allAt hex 106 (b := decide (PySem.W.findIn K (.ref (He.ga K "Before")) "tells" = some (some (.ref (He.fAd K ("Equation", some "tells")))))) rfl)),
    (of_decide_eq_true (allAt hex 107 (b := decide (PySem.W.findIn K (.ref (He.ga K "Before")) "term" = some (some (.ref (He.fAd K ("Equation", some "term")))))) rfl)),
    (of_decide_eq_true (allAt hex 108 (b := decide (PySem.W.findIn K (.ref (He.ga K "Before")) "renamed" = some (some (.ref (He.fAd K ("Equation", some "renamed")))))) rfl)),
    (of_decide_eq_true (allAt hex 109 (b := decide (PySem.W.findIn K (.ref (He.ga K "Before")) "put_otherwise" = some (some (.ref (He.fAd K ("Equation", some "put_otherwise")))))) rfl)),
    (He.glo_ok X G (c.fact 49 (f := .glo "When") rfl)),
    (allAt hex 110 (b := tcB K (He.ga K "When") ["told_row"]) rfl),
    (of_decide_eq_true (allAt hex 111 (b := decide (PySem.W.findIn K (.ref (He.ga K "When")) "__init__" = some (some (.ref (He.fAd K ("Equation", some "__init__")))))) rfl)),
    (of_decide_eq_true (allAt hex 112 (b := decide (PySem.W.findIn K (.ref (He.ga K "When")) "names" = some (some (.ref (He.fAd K ("When", some "names")))))) rfl)),
    (of_decide_eq_true (allAt hex 113 (b := decide (PySem.W.findIn K (.ref (He.ga K "When")) "told" = some (some (.ref (He.fAd K ("Equation", some "told")))))) rfl)),
    (of_decide_eq_true (allAt hex 114 (b := decide (PySem.W.findIn K (.ref (He.ga K "When")) "tells" = some (some (.ref (He.fAd K ("Equation", some "tells")))))) rfl)),
    (of_decide_eq_true (allAt hex 115 (b := decide (PySem.W.findIn K (.ref (He.ga K "When")) "term" = some (some (.ref (He.fAd K ("Equation", some "term")))))) rfl)),
    (of_decide_eq_true (allAt hex 116 (b := decide (PySem.W.findIn K (.ref (He.ga K "When")) "renamed" = some (some (.ref (He.fAd K ("Equation", some "renamed")))))) rfl)),
    (of_decide_eq_true (allAt hex 117 (b := decide (PySem.W.findIn K (.ref (He.ga K "When")) "put_otherwise" = some (some (.ref (He.fAd K ("When", some "put_otherwise")))))) rfl)),
    (He.glo_ok X G (c.fact 50 (f := .glo "Hold") rfl)),
    (allAt hex 118 (b := tcB K (He.ga K "Hold") ["told_row"]) rfl),
    (of_decide_eq_true (allAt hex 119 (b := decide (PySem.W.findIn K (.ref (He.ga K "Hold")) "__init__" = some (some (.ref (He.fAd K ("Equation", some "__init__")))))) rfl)),
    (of_decide_eq_true (allAt hex 120 (b := decide (PySem.W.findIn K (.ref (He.ga K "Hold")) "names" = some (some (.ref (He.fAd K ("Equation", some "names")))))) rfl)),
    (of_decide_eq_true (allAt hex 121 (b := decide (PySem.W.findIn K (.ref (He.ga K "Hold")) "told" = some (some (.ref (He.fAd K ("Equation", some "told")))))) rfl)),
    (of_decide_eq_true (allAt hex 122 (b := decide (PySem.W.findIn K (.ref (He.ga K "Hold")) "tells" = some (some (.ref (He.fAd K ("Equation", some "tells")))))) rfl)),
    (of_decide_eq_true (allAt hex 123 (b := decide (PySem.W.findIn K (.ref (He.ga K "Hold")) "term" = some (some (.ref (He.fAd K ("Equation", some "term")))))) rfl)),
    (of_decide_eq_true (allAt hex 124 (b := decide (PySem.W.findIn K (.ref (He.ga K "Hold")) "renamed" = some (some (.ref (He.fAd K ("Equation", some "renamed")))))) rfl)),
    (of_decide_eq_true (allAt hex 125 (b := decide (PySem.W.findIn K (.ref (He.ga K "Hold")) "put_otherwise" = some (some (.ref (He.fAd K ("Equation", some "put_otherwise")))))) rfl)),
    (He.glo_ok X G (c.fact 51 (f := .glo "Like") rfl)),
    (allAt hex 126 (b := tcB K (He.ga K "Like") ["told_row"]) rfl),
    (of_decide_eq_true (allAt hex 127 (b := decide (PySem.W.findIn K (.ref (He.ga K "Like")) "__init__" = some (some (.ref (He.fAd K ("Equation", some "__init__")))))) rfl)),
    (of_decide_eq_true (allAt hex 128 (b := decide (PySem.W.findIn K (.ref (He.ga K "Like")) "names" = some (some (.ref (He.fAd K ("Equation", some "names")))))) rfl)),
    (of_decide_eq_true (allAt hex 129 (b := decide (PySem.W.findIn K (.ref (He.ga K "Like")) "told" = some (some (.ref (He.fAd K ("Equation", some "told")))))) rfl)),
    (of_decide_eq_true (allAt hex 130 (b := decide (PySem.W.findIn K (.ref (He.ga K "Like")) "tells" = some (some (.ref (He.fAd K ("Equation", some "tells")))))) rfl)),
    (of_decide_eq_true (allAt hex 131 (b := decide (PySem.W.findIn K (.ref (He.ga K "Like")) "term" = some (some (.ref (He.fAd K ("Equation", some "term")))))) rfl)),
    (of_decide_eq_true (allAt hex 132 (b := decide (PySem.W.findIn K (.ref (He.ga K "Like")) "renamed" = some (some (.ref (He.fAd K ("Equation", some "renamed")))))) rfl)),
    (of_decide_eq_true (allAt hex 133 (b := decide (PySem.W.findIn K (.ref (He.ga K "Like")) "put_otherwise" = some (some (.ref (He.fAd K ("Equation", some "put_otherwise")))))) rfl)),
    (He.glo_ok X G (c.fact 52 (f := .glo "Same") rfl)),
    (allAt hex 134 (b := tcB K (He.ga K "Same") ["told_row"]) rfl),
    (of_decide_eq_true (allAt hex 135 (b := decide (PySem.W.findIn K (.ref (He.ga K "Same")) "__init__" = some (some (.ref (He.fAd K ("Equation", some "__init__")))))) rfl)),
    (of_decide_eq_true (allAt hex 136 (b := decide (PySem.W.findIn K (.ref (He.ga K "Same")) "names" = some (some (.ref (He.fAd K ("Same", some "names")))))) rfl)),
    (of_decide_eq_true (allAt hex 137 (b := decide (PySem.W.findIn K (.ref (He.ga K "Same")) "told" = some (some (.ref (He.fAd K ("Equation", some "told")))))) rfl)),
    (of_decide_eq_true (allAt hex 138 (b := decide (PySem.W.findIn K (.ref (He.ga K "Same")) "tells" = some (some (.ref (He.fAd K ("Same", some "tells")))))) rfl)),
    (of_decide_eq_true (allAt hex 139 (b := decide (PySem.W.findIn K (.ref (He.ga K "Same")) "term" = some (some (.ref (He.fAd K ("Equation", some "term")))))) rfl)),
    (of_decide_eq_true (allAt hex 140 (b := decide (PySem.W.findIn K (.ref (He.ga K "Same")) "renamed" = some (some (.ref (He.fAd K ("Equation", some "renamed")))))) rfl)),
    (of_decide_eq_true (allAt hex 141 (b := decide (PySem.W.findIn K (.ref (He.ga K "Same")) "put_otherwise" = some (some (.ref (He.fAd K ("Same", some "put_otherwise")))))) rfl)),
    (He.glo_ok X G (c.fact 53 (f := .glo "Call") rfl)),
    (allAt hex 142 (b := tcB K (He.ga K "Call") ["told_row"]) rfl),
    (of_decide_eq_true (allAt hex 143 (b := decide (PySem.W.findIn K (.ref (He.ga K "Call")) "__init__" = some (some (.ref (He.fAd K ("Equation", some "__init__")))))) rfl)),
    (of_decide_eq_true (allAt hex 144 (b := decide (PySem.W.findIn K (.ref (He.ga K "Call")) "names" = some (some (.ref (He.fAd K ("Call", some "names")))))) rfl)),
    (of_decide_eq_true (allAt hex 145 (b := decide (PySem.W.findIn K (.ref (He.ga K "Call")) "told" = some (some (.ref (He.fAd K ("Equation", some "told")))))) rfl)),
    (of_decide_eq_true (allAt hex 146 (b := decide (PySem.W.findIn K (.ref (He.ga K "Call")) "tells" = some (some (.ref (He.fAd K ("Call", some "tells")))))) rfl)),
    (of_decide_eq_true (allAt hex 147 (b := decide (PySem.W.findIn K (.ref (He.ga K "Call")) "term" = some (some (.ref (He.fAd K ("Equation", some "term")))))) rfl)),
    (of_decide_eq_true (allAt hex 148 (b := decide (PySem.W.findIn K (.ref (He.ga K "Call")) "renamed" = some (some (.ref (He.fAd K ("Equation", some "renamed")))))) rfl)),
    (of_decide_eq_true (allAt hex 149 (b := decide (PySem.W.findIn K (.ref (He.ga K "Call")) "put_otherwise" = some (some (.ref (He.fAd K ("Call", some "put_otherwise")))))) rfl)),
    (allAt hex 150 (b := difB [(He.ga K "Name"), (He.ga K "Value"), (He.ga K "Two"), (He.ga K "Not"), (He.ga K "Pick")]) rfl),
    (allAt hex 151 (b := subB K (He.ga K "Name") (He.ga K "Term")) rfl),
    (allAt hex 152 (b := subB K (He.ga K "Value") (He.ga K "Term")) rfl),
    (allAt hex 153 (b := subB K (He.ga K "Two") (He.ga K "Term")) rfl),
    (allAt hex 154 (b := subB K (He.ga K "Not") (He.ga K "Term")) rfl),
    (allAt hex 155 (b := subB K (He.ga K "Pick") (He.ga K "Term")) rfl),
    (allAt hex 156 (b := difB [(He.ga K "Plain"), (He.ga K "Name"), (He.ga K "Value"), (He.ga K "Two"), (He.ga K "Not"), (He.ga K "Pick")]) rfl),
    (allAt hex 157 (b := difB [(He.ga K "Plain"), (He.ga K "Before"), (He.ga K "Hold"), (He.ga K "Like"), (He.ga K "When"), (He.ga K "Same"), (He.ga K "Call")]) rfl),
    (allAt hex 158 (b := kitTab K [(He.ga K "Plain"), (He.ga K "Before"), (He.ga K "Hold"), (He.ga K "Like"), (He.ga K "When"), (He.ga K "Same"), (He.ga K "Call")] (He.ga K "Equation")) rfl),
    (allAt hex 159 (b := cmB K (He.ga K "Equation") (He.fAd K ("Equation", some "__init__")) "__init__") rfl),
    (of_decide_eq_true (allAt hex 160 (b := decide (PySem.W.kitOne K (.ref (He.ga K "NoName")) (.ref (He.ga K "NoEquation")) = some false)) rfl)),
    (of_decide_eq_true (allAt hex 161 (b := decide (PySem.W.kitOne K (.ref (He.ga K "NoName")) (.ref (He.ga K "BeatError")) = some true)) rfl)),
    (of_decide_eq_true (allAt hex 162 (b := decide (PySem.W.exmOne K (.ref (He.ga K "NoName")) (.ref (He.ga K "NoName")) = some true)) rfl)),
    (He.free_ok X G (c.fact 54 (f := .free "all") rfl)),
    (He.free_ok X G (c.fact 55 (f := .free "bool") rfl)),
    (He.free_ok X G (c.fact 56 (f := .free "dict") rfl)),
    (He.free_ok X G (c.fact 57 (f := .free "int") rfl)),
    (He.free_ok X G (c.fact 58 (f := .free "isinstance") rfl)),
    (He.free_ok X G (c.fact 59 (f := .free "len") rfl)),
    (He.free_ok X G (c.fact 60 (f := .free "list") rfl)),
    (He.free_ok X G (c.fact 61 (f := .free "max") rfl)),
    (He.free_ok X G (c.fact 62 (f := .free "min") rfl)),
    (He.free_ok X G (c.fact 63 (f := .free "range") rfl)),
    (He.free_ok X G (c.fact 64 (f := .free "repr") rfl)),
    (He.free_ok X G (c.fact 65 (f := .free "str") rfl)),
    (He.free_ok X G (c.fact 66 (f := .free "tuple") rfl)),
    ⟨_, k_LETTERS, ⟨_, rfl⟩⟩,
    ⟨_, k_LONGEST, ⟨_, rfl⟩⟩,
    ⟨_, k_MOST, ⟨_, rfl⟩⟩,
    ⟨_, k_MOST_LEVELS, ⟨_, rfl⟩⟩,
    ⟨_, k_MOST_SIGNS, ⟨_, rfl⟩⟩,
    ⟨_, He.glo_ok X G (c.fact 72 (f := .glo "OPS") rfl), rfl⟩,
    (tupB_ok (allAt hex 163 (b := tupB K (He.ga K "OPS") ["+", "-", "*", "/", "mod", "<", "=", "&", "|"]) rfl)),
    ⟨_, He.glo_ok X G (c.fact 73 (f := .glo "OWN") rfl), rfl⟩,
    (tupB_ok (allAt hex 164 (b := tupB K (He.ga K "OWN") ["node", "in", "out", "before", "when", "hold", "like", "same", "call", "true", "false", "mod", "beat", "desk"]) rfl))⟩
  have bb := FunD.bindsA (ps := ["_law_script"]) D79 fun _ _ _ _ _ _ us hl => match us, hl with | [_], _ => rfl
  exact ⟨_, fun s v => bb s [v] rfl, fun base _ _ => ok_law T⟩
end Toy
open PySem PySem.W PySem.Calls PyProof.Rows in
set_option maxHeartbeats 0 in
theorem PySem.Challenge.cw_beatrows_k33_rows_renamed_holds : PySem.Challenge.rw_beatrows_k33_rows_renamed.Holds := by
  w_on; o_law
  refine HandSHeadRun.head_any (r := Toy.RW) (q := view Toy.RW.prog [70]) (H := Toy.hk) (ob := Toy.ob) (M := 20000) (loose := Toy.loose) (d := HandSHeadRun.topDef Toy.RW.prog 70) (kwd := []) Toy.ob_eq
    (by kernel_rfl) (fun s => by kernel_rfl) Toy.run (by kernel_rfl) (by kernel_rfl) (by kernel_rfl) (by rfl)
    (by first | assumption | decide +kernel) (by decide +kernel) ⟨rfl, rfl, rfl, rfl, rfl, by decide +kernel⟩ ?hw ?hc
  case hw => w_witness2
  case hc =>
    refine L2.walk_ofEG (l := PySem.Challenge.rw_beatrows_k33_rows_renamed) (n := 63) (k := 34) (x := "_law_script") (CX := L2.CX0) rfl (by decide) (by kernel_rfl) ⟨rfl, by decide, by decide⟩ ?F (fun _ _ _ _ z => z)
    intro w mg fa h Y G hmg0
    obtain ⟨K, KX, c⟩ := Y
    have hmg : mg ("law" : PySem.Str) = some (.ref fa) := by
      have e : (HandSHeadRun.topDef Toy.RW.prog 70).name = ("law" : PySem.Str) := by kernel_rfl
      rw [← e]
      exact hmg0
    obtain ⟨fd, hb, hF⟩ := Toy.facts2 (P := PySem.Challenge.rw_beatrows_k33_rows_renamed.prog) (w := w) KX G hmg c.1 c.2
    exact ⟨K, fd, Toy.sp_law K, KX, hb, fun H a ns hl _ hS => ⟨a, ns, rfl, hS, hl, fun _ => rfl⟩, hF⟩
