import PyProof.Rows.All
import Wide.All
import OpenK.AllK
import Wide.FinOn
import PyProof.EqAt
import PyProof.EqKinds
import PyProof.TupleCall
import HandS.ForMost
import HandS.Walk
import HandS.Conv
import HandS.IsInst
import HandS.ForExc
import HandS.NoneIn
import HandS.Property
import HandS.Flt
import HandS.ExcIs
import HandS.TryMany
import HandS.ExcInit
import HandS.ExcField
import HandS.ExcValue
import HandS.Codes
import HandS.More
import HandS.Star
import HandS.CallSlots
import PySem.Challenge.RW_halfmeshes_k15_error_classes

set_option Elab.async false
set_option linter.all false
set_option maxRecDepth 100000
set_option maxHeartbeats 4000000
namespace RD
open PySem PySem.Spec PyProof.Rows L2
section
variable {σ s : L2.St} {H : Hp} {Q : VK} {nx bk ct : L2.St → Hp → Prop} {rt : VK} {te ta tb tc : TE} {t u : TS} {c c2 : TT} {v x : V} {ox : Option V} {i : Nat} {QB : Bool → Hp → Prop}
theorem seq (h : t ⟨u ⟨nx, rt, bk, ct⟩, rt, bk, ct⟩ σ H) : tSeq t u ⟨nx, rt, bk, ct⟩ σ H := h
theorem asg {g : TG} (h : te σ H fun x H1 => g x σ H1 nx) : tAsg te g ⟨nx, rt, bk, ct⟩ σ H := h
theorem ret (h : te σ H rt) : tRet te ⟨nx, rt, bk, ct⟩ σ H := h
theorem retN (h : rt .non H) : tRetN ⟨nx, rt, bk, ct⟩ σ H := h
theorem drp (h : te σ H fun _ H1 => nx σ H1) : tDrop te ⟨nx, rt, bk, ct⟩ σ H := h
theorem ifs (h : c σ H fun b H1 => if b = true then t ⟨nx, rt, bk, ct⟩ σ H1 else u ⟨nx, rt, bk, ct⟩ σ H1) : tIfS c t u ⟨nx, rt, bk, ct⟩ σ H := h
theorem nxt (h : nx σ H) : tNext ⟨nx, rt, bk, ct⟩ σ H := h
theorem brk (h : bk σ H) : tBreak ⟨nx, rt, bk, ct⟩ σ H := h
theorem cnt (h : ct σ H) : tCont ⟨nx, rt, bk, ct⟩ σ H := h
theorem aug {ti : TIp} (h : tVar i σ H fun x _ => te σ H fun y H1 => ti x y H1 fun z H2 => gName i z σ H2 nx) : tAug i te ti ⟨nx, rt, bk, ct⟩ σ H := h
theorem gn0 {QG : L2.St → Hp → Prop} (h : QG (some v :: s) H) : gName 0 v (ox :: s) H QG := h
theorem gnS {QG : L2.St → Hp → Prop} (h : gName i v s H fun s' H' => QG (ox :: s') H') : gName (i + 1) v (ox :: s) H QG := h
theorem var0 (h : Q v H) : tVar 0 (some v :: s) H Q := ⟨v, rfl, h⟩
theorem varS (h : tVar i s H Q) : tVar (i + 1) (ox :: s) H Q := by
  obtain ⟨v, e, q⟩ := h
  exact ⟨v, by simpa using e, q⟩
theorem cst (h : Q v H) : tC v σ H Q := h
theorem op {r : R2} (h : ta σ H fun x H1 => tb σ H1 fun y H2 => r x y H2 Q) : tOp r ta tb σ H Q := h
theorem un {r : V → Hp → VK → Prop} (h : ta σ H fun x H1 => r x H1 Q) : tUn r ta σ H Q := h
theorem i0 {g : Int → Int → V} {a b : Int} (h : Q (g a b) H) : rI0 g (.int a) (.int b) H Q := ⟨a, b, rfl, rfl, h⟩
theorem iC {C : Int → Int → Prop} {g : Int → Int → V} {a b : Int} (hc : C a b) (h : Q (g a b) H) : rI C g (.int a) (.int b) H Q := ⟨a, b, rfl, rfl, hc, h⟩
theorem u0 {g : Int → V} {a : Int} (h : Q (g a) H) : rU g (.int a) H Q := ⟨a, rfl, h⟩
theorem dI {a b : Int} : decide (V.int a = V.int b) = decide (a = b) := by
  by_cases e : a = b
  · rw [decide_eq_true e, e, decide_eq_true rfl]
  · rw [decide_eq_false e, decide_eq_false fun z => e (V.int.inj z)]
theorem dB {a b : Bool} : decide (V.bl a = V.bl b) = decide (a = b) := by
  by_cases e : a = b
  · rw [decide_eq_true e, e, decide_eq_true rfl]
  · rw [decide_eq_false e, decide_eq_false fun z => e (V.bl.inj z)]
theorem dS {a b : Str} : decide (V.str a = V.str b) = decide (a = b) := by
  by_cases e : a = b
  · rw [decide_eq_true e, e, decide_eq_true rfl]
  · rw [decide_eq_false e, decide_eq_false fun z => e (V.str.inj z)]
theorem eqI {a b : Int} (h : Q (.bl (decide (a = b))) H) : rEq (.int a) (.int b) H Q := ⟨rfl, by rw [dI]; exact h⟩
theorem neI {a b : Int} (h : Q (.bl (!decide (a = b))) H) : rNe (.int a) (.int b) H Q := ⟨rfl, by rw [dI]; exact h⟩
theorem eqB {a b : Bool} (h : Q (.bl (decide (a = b))) H) : rEq (.bl a) (.bl b) H Q := ⟨rfl, by rw [dB]; exact h⟩
theorem neB {a b : Bool} (h : Q (.bl (!decide (a = b))) H) : rNe (.bl a) (.bl b) H Q := ⟨rfl, by rw [dB]; exact h⟩
theorem eqS {a b : Str} (h : Q (.bl (decide (a = b))) H) : rEq (.str a) (.str b) H Q := ⟨rfl, by rw [dS]; exact h⟩
theorem neS {a b : Str} (h : Q (.bl (!decide (a = b))) H) : rNe (.str a) (.str b) H Q := ⟨rfl, by rw [dS]; exact h⟩
theorem tst (h : te σ H fun x H' => ∃ k, x = .bl k ∧ QB k H') : tTest te σ H QB := h
theorem tb' (h : te σ H fun x H' => ∃ k, x = .bl k ∧ QB k H') : tB te σ H QB := h
theorem exb {b : Bool} {P : Bool → Prop} (h : P b) : ∃ k, V.bl b = .bl k ∧ P k := ⟨b, rfl, h⟩
theorem and (h : c σ H fun b H1 => if b = true then c2 σ H1 QB else QB false H1) : tAnd c c2 σ H QB := h
theorem or (h : c σ H fun b H1 => if b = true then QB true H1 else c2 σ H1 QB) : tOr c c2 σ H QB := h
theorem not (h : c σ H fun b H1 => QB (!b) H1) : tNot c σ H QB := h
theorem andV (h : ta σ H fun x H1 => ∃ k, x = .bl k ∧ if k = true then tb σ H1 Q else Q (.bl false) H1) : tAndV ta tb σ H Q := h
theorem orV (h : ta σ H fun x H1 => ∃ k, x = .bl k ∧ if k = true then Q (.bl true) H1 else tb σ H1 Q) : tOrV ta tb σ H Q := h
theorem notV (h : ta σ H fun x H1 => ∃ k, x = .bl k ∧ Q (.bl (!k)) H1) : tNotV ta σ H Q := h
theorem tif (h : c σ H fun b H1 => if b = true then ta σ H1 Q else tb σ H1 Q) : tIf c ta tb σ H Q := h
theorem yes (h : QB true H) : tYes σ H QB := h
theorem chain {r r' : R2} (h : ta σ H fun x H1 => tb σ H1 fun y H2 => r x y H2 fun z H3 => ∃ k, z = .bl k ∧ (if k = true then tc σ H3 fun w' H4 => r' y w' H4 Q else Q (.bl false) H3)) : tChain r r' ta tb tc σ H Q := h
theorem nil {QA : List V → Hp → Prop} (h : QA [] H) : tNil σ H QA := h
theorem cons {QA : List V → Hp → Prop} {tr : TA} (h : ta σ H fun x H1 => tr σ H1 fun xs H2 => QA (x :: xs) H2) : tCons ta tr σ H QA := h
theorem cb {r : List V → Hp → VK → Prop} {tr : TA} (h : tr σ H fun vs H1 => r vs H1 Q) : tCB r tr σ H Q := h
theorem call {sp : Sp} {dvs : List V} {E : XK} {tr : TA} (h : tr σ H fun vs H1 => sp (vs ++ dvs) H1 Q E) : tCall sp dvs E tr σ H Q := h
theorem tup {tr : TA} (h : tr σ H fun xs H1 => xs.length ≤ sizeLine ∧ ∀ p, H1 p = none → Q (.ref p) (upd H1 p (.tup xs))) : tTup tr σ H Q := h
theorem lst {tr : TA} (h : tr σ H fun xs H1 => xs.length ≤ sizeLine ∧ ∀ p, H1 p = none → Q (.ref p) (upd H1 p (.lst xs))) : tLst tr σ H Q := h
theorem sl {r : V → Option Int → Option Int → Hp → VK → Prop} {tl th : TO} (h : te σ H fun x H1 => tl σ H1 fun l H2 => th σ H2 fun u H3 => r x l u H3 Q) : L2.tSl r te tl th σ H Q := h
theorem nop {QO : Option Int → Hp → Prop} (h : QO none H) : tNoPart σ H QO := h
theorem prt {QO : Option Int → Hp → Prop} (h : te σ H fun x H1 => ∃ i, x = .int i ∧ QO (some i) H1) : tPart te σ H QO := h
theorem exi {a : Int} {P : Int → Prop} (h : P a) : ∃ k, V.int a = .int k ∧ P k := ⟨a, rfl, h⟩
theorem bm {K : PySem.W.Frag} {Ty : String} {r : V → List V → Hp → VK → Prop} {tr : TA} (h : te σ H fun x H1 => tyV K Ty x H1 ∧ tr σ H1 fun xs H2 => r x xs H2 Q) : tBM K Ty r te tr σ H Q := h
theorem bm0 {K : PySem.W.Frag} {Ty : String} {r : V → List V → Hp → VK → Prop} (h : te σ H fun x H1 => tyV K Ty x H1 ∧ r x [] H1 Q) : tBM0 K Ty r te σ H Q := h
theorem fld {K : PySem.W.Frag} {f : Str} (h : ta σ H fun x H1 => ∃ a C dx fs v, x = .ref a ∧ H1 a = some (.ins C dx fs) ∧ Cls K C ∧ NoAttr K C f ∧ fs.lookup f = some v ∧ Q v H1) : tFld K ta f σ H Q := h
theorem meth {C : Addr} {m : Str} {sp : Sp} {dvs : List V} {E : XK} {tr : TA} (h : ta σ H fun x H1 => ∃ a dx fs, x = .ref a ∧ H1 a = some (.ins C dx fs) ∧ fs.lookup m = none ∧ tr σ H1 fun vs H2 => sp (x :: (vs ++ dvs)) H2 Q E) : tMeth C m sp dvs E ta tr σ H Q := h
def MKE (C : Addr) (sp : Sp) (dvs : List V) (E : XK) (vs : List V) (H1 : Hp) (Q : VK) : Prop := ∀ x dx, H1 x = none → H1 dx = none → dx ≠ x → sp (.ref x :: (vs ++ dvs)) (upd (upd H1 dx (.own x)) x (.ins C dx [])) (fun v H2 => v = .non ∧ Q (.ref x) H2) E
theorem make {C : Addr} {sp : Sp} {dvs : List V} {E : XK} {tr : TA} (h : tr σ H fun vs H1 => MKE C sp dvs E vs H1 Q) : tMake C sp dvs E tr σ H Q := h
theorem dput {td ty tv : TE} (h : tv σ H fun v H1 => td σ H1 fun x H2 => ty σ H2 fun y H3 => ∃ a H4, x = .ref a ∧ DPut H3 a y v H4 ∧ nx σ H4) : sDPut td ty tv ⟨nx, rt, bk, ct⟩ σ H := h
theorem dget {td ty : TE} (h : td σ H fun x H1 => ty σ H1 fun y H2 => ∃ a v, x = .ref a ∧ DGet H2 a y (some v) ∧ Q v H2) : tDGet td ty σ H Q := h
theorem din {td ty : TE} (h : ty σ H fun y H1 => td σ H1 fun x H2 => ∃ a o, x = .ref a ∧ DGet H2 a y o ∧ Q (.bl o.isSome) H2) : tDIn ty td σ H Q := h
theorem dnin {td ty : TE} (h : ty σ H fun y H1 => td σ H1 fun x H2 => ∃ a o, x = .ref a ∧ DGet H2 a y o ∧ Q (.bl (!o.isSome)) H2) : tDNotIn ty td σ H Q := h
theorem dnew (h : ∀ p, H p = none → Q (.ref p) (upd H p (.dK []))) : tDNewK σ H Q := h
theorem sfld {K : PySem.W.Frag} {tv : TE} {f : Str} (h : tv σ H fun y H1 => ta σ H1 fun x H2 => ∃ a C dx fs, x = .ref a ∧ H2 a = some (.ins C dx fs) ∧ Cls K C ∧ NoAttr K C f ∧ fs.length < 1000 ∧ nx σ (upd H2 a (.ins C dx (putF f y fs)))) : sFld K ta tv f ⟨nx, rt, bk, ct⟩ σ H := h
theorem lrg {tr : L2.St → Hp → (Int → Int → Hp → Prop) → Prop} (h : tr σ H fun a b H1 => RgOk a b ∧ ∀ q, H1 q = none → Q (.ref q) (upd H1 q (.lst (rgV a b)))) : tLstRg tr σ H Q := h
theorem rg1 {QR : Int → Int → Hp → Prop} (h : ta σ H fun x H1 => ∃ n, x = .int n ∧ QR 0 n H1) : tRg1 ta σ H QR := h
theorem dgetK {a : Addr} {kvs : List (Key × V)} {n : Int} {v : V} (h : H a = some (.dK kvs)) (hv : valV kvs (Sum.inl n : Key) = some v) (q : Q v H) : ∃ a' v', V.ref a = .ref a' ∧ DGet H a' (.int n) (some v') ∧ Q v' H := ⟨a, v, rfl, by rw [← hv]; exact DGet.k (k := Sum.inl n) h, q⟩
theorem rep {a : Addr} {xs : List V} {k : Int} (h : H a = some (.lst xs)) (h1 : -1000000 ≤ k) (h2 : k ≤ 1000000) (hl : xs.length * k.toNat ≤ sizeLine) (q : ∀ p, H p = none → Q (.ref p) (upd H p (.lst (List.replicate k.toNat xs).flatten))) : rRep (.ref a) (.int k) H Q := ⟨a, k, xs, rfl, rfl, h, by omega, by omega, hl, q⟩
/-! tests -/
theorem bT {A B : Prop} (h : A) : if true = true then A else B := iteT h
theorem nbF {A B : Prop} (h : A) : if (!false) = true then A else B := iteT h
theorem nbT {A B : Prop} (h : B) : if (!true) = true then A else B := iteF h
theorem bF {A B : Prop} (h : B) : if false = true then A else B := iteF h
theorem dec {p A B : Prop} [Decidable p] (h1 : p → A) (h2 : ¬ p → B) : if decide p = true then A else B := ite2 (fun e => h1 (of_decide_eq_true e)) fun e => h2 fun z => e (decide_eq_true z)
theorem ndec {p A B : Prop} [Decidable p] (h1 : ¬ p → A) (h2 : p → B) : if (!decide p) = true then A else B := by
  by_cases e : p
  · rw [decide_eq_true e]; exact iteF (h2 e)
  · rw [decide_eq_false e]; exact iteT (h1 e)
theorem decT {p A B : Prop} [Decidable p] (e : p) (h : A) : if decide p = true then A else B := by rw [decide_eq_true e]; exact iteT h
theorem decF {p A B : Prop} [Decidable p] (e : ¬ p) (h : B) : if decide p = true then A else B := by rw [decide_eq_false e]; exact iteF h
theorem ndT {p A B : Prop} [Decidable p] (e : ¬ p) (h : A) : if (!decide p) = true then A else B := by rw [decide_eq_false e]; exact iteT h
theorem ndF {p A B : Prop} [Decidable p] (e : p) (h : B) : if (!decide p) = true then A else B := by rw [decide_eq_true e]; exact iteF h
/-! what is read by values -/
theorem ixL {K : PySem.W.Frag} {a : Addr} {xs : List V} {k : Int} (h : SqL K H a xs) (ha : atI xs k = some v) (q : Q v H) : rIxL K (.ref a) (.int k) H Q := ⟨a, xs, k, v, rfl, rfl, h, ha, q⟩
theorem ixT {K : PySem.W.Frag} {a : Addr} {xs : List V} {k : Int} (h : SqT K H a xs) (ha : atI xs k = some v) (q : Q v H) : rIxT K (.ref a) (.int k) H Q := ⟨a, xs, k, v, rfl, rfl, h, ha, q⟩
theorem setL {a : Addr} {xs : List V} {k : Int} {j : Nat} {QH : Hp → Prop} (h : H a = some (.lst xs)) (hk : ixN xs.length k = some j) (q : QH (upd H a (.lst (xs.set j v)))) : rSetL (.ref a) (.int k) v H QH := ⟨a, xs, k, j, rfl, rfl, h, hk, q⟩
theorem gsub {to ti : TE} {ts : TSet} {QG : L2.St → Hp → Prop} (h : to σ H fun o H1 => ti σ H1 fun i H2 => ts o i v H2 fun H3 => QG σ H3) : gSub to ti ts v σ H QG := h
theorem app {a : Addr} {xs : List V} {y : V} (h : H a = some (.lst xs)) (hl : xs.length < sizeLine) (q : Q .non (upd H a (.lst (xs ++ [y])))) : rAppend (.ref a) [y] H Q := ⟨a, xs, y, rfl, rfl, h, hl, q⟩
theorem cat {a b : Addr} {xs ys : List V} (h : H a = some (.lst xs)) (h' : H b = some (.lst ys)) (hl : xs.length + ys.length ≤ sizeLine) (q : ∀ p, H p = none → Q (.ref p) (upd H p (.lst (xs ++ ys)))) : rCat (.ref a) (.ref b) H Q := ⟨a, b, xs, ys, rfl, rfl, h, h', hl, q⟩
theorem slL {K : PySem.W.Frag} {a : Addr} {xs : List V} {lo hi : Option Int} (h : SqL K H a xs) (q : ∀ p, H p = none → Q (.ref p) (upd H p (.lst (cutV xs lo hi)))) : rSlL K (.ref a) lo hi H Q := ⟨a, xs, rfl, h, q⟩
theorem min1 {K : PySem.W.Frag} {a : Addr} {ns : List Int} (h : SqL K H a (ns.map V.int)) (h0 : 0 < ns.length) (q : ∀ m, m ∈ ns → (∀ y, y ∈ ns → m ≤ y) → Q (.int m) H) : rMin K [.ref a] H Q := ⟨a, ns, rfl, h, h0, q⟩
theorem eqD {K : PySem.W.Frag} {x y : V} {d e : PyData} (h1 : Dp K H x d) (h2 : Dp K H y e) (s1 : SeqAt.shaped d = true) (s2 : SeqAt.shaped e = true) (q : Q (.bl (PyData.eqv d e)) H) : rEqD K x y H Q := ⟨d, e, h1, h2, s1, s2, q⟩
theorem neD {K : PySem.W.Frag} {x y : V} {d e : PyData} (h1 : Dp K H x d) (h2 : Dp K H y e) (s1 : SeqAt.shaped d = true) (s2 : SeqAt.shaped e = true) (q : Q (.bl (!PyData.eqv d e)) H) : rNeD K x y H Q := ⟨d, e, h1, h2, s1, s2, q⟩
theorem tyL {K : PySem.W.Frag} {a : Addr} {xs : List V} (h : SqL K H a xs) : tyV K "list" (.ref a) H := Or.inl ⟨rfl, _, h⟩
theorem gtup2 {K : PySem.W.Frag} {i j : Nat} {T : Addr} {x y : V} {QG : L2.St → Hp → Prop} (h : SqT K H T [x, y]) (q : gName i x σ H fun σ1 H1 => gName j y σ1 H1 QG) : gTup K 2 (gCons (gName i) (gCons (gName j) gNil)) (.ref T) σ H QG := ⟨T, [x, y], rfl, h, rfl, x, [y], rfl, y, [], rfl, rfl, q⟩
/-! loops -/
theorem whl (W : Nat → L2.St → Hp → Prop) (m : Nat) (h0 : W m σ H) (hs : ∀ m σ H, W m σ H → c σ H fun b H1 => if b = true then ∃ N : L2.St → Hp → Prop, (∀ σ' H', N σ' H' → ∃ m', m' < m ∧ W m' σ' H') ∧ t ⟨N, rt, nx, N⟩ σ H1 else nx σ H1) : tWhile c t ⟨nx, rt, bk, ct⟩ σ H := ⟨W, ⟨m, h0⟩, hs⟩
theorem wN {m : Nat} {W : Nat → L2.St → Hp → Prop} (h : t ⟨fun σ' H' => ∃ m', m' < m ∧ W m' σ' H', rt, nx, fun σ' H' => ∃ m', m' < m ∧ W m' σ' H'⟩ σ H) : ∃ N : L2.St → Hp → Prop, (∀ σ' H', N σ' H' → ∃ m', m' < m ∧ W m' σ' H') ∧ t ⟨N, rt, nx, N⟩ σ H := ⟨_, fun _ _ h => h, h⟩
def FR (J : It) (g : TG) (t : TS) (nx : L2.St → Hp → Prop) (rt : VK) (σ : L2.St) (H : Hp) : Prop := ∃ W : Nat → Nat → L2.St → Hp → Prop, (∃ m, W 0 m σ H) ∧ ∀ i m σ H, W i m σ H →
  (J.stop i H ∧ nx σ H) ∨ (J.go i H ∧ ∃ N : L2.St → Hp → Prop, (∀ σ' H', N σ' H' → ∃ m', m' < m ∧ W (i + 1) m' σ' H') ∧ ∀ x H', J.yld i H x H' → g x σ H' fun σ2 H2 => t ⟨N, rt, nx, N⟩ σ2 H2)
def LR (J : It) (g : TG) (tt : TT) (te : TE) (vs : List Nat) (σ : L2.St) (H : Hp) (Q : VK) : Prop := ∀ D, H D = none → ∃ W : Nat → Nat → Hp → Prop, (∃ m, W 0 m (upd H D (.lst []))) ∧ ∀ i m H, W i m H →
  (J.stop i H ∧ Q (.ref D) H) ∨ (J.go i H ∧ ∃ Nx : Hp → Prop, (∀ H', Nx H' → ∃ m', m' < m ∧ W (i + 1) m' H') ∧ ∀ x H', J.yld i H x H' → g x (wipe σ vs) H' fun σ2 H2 => wipe σ2 vs = wipe σ vs ∧ tt σ2 H2 fun b H3 =>
    if b = true then te σ2 H3 fun y H4 => ∃ acc, H4 D = some (.lst acc) ∧ acc.length < sizeLine ∧ Nx (upd H4 D (.lst (acc ++ [y]))) else Nx H3)
theorem for_ {wi : TI} {g : TG} (h : wi σ H fun J H1 => FR J g t nx rt σ H1) : tFor wi g t ⟨nx, rt, bk, ct⟩ σ H := h
theorem lc_ {wi : TI} {g : TG} {tt : TT} {vs : List Nat} (h : wi σ H fun J H1 => LR J g tt te vs σ H1 Q) : tLc wi g tt te vs σ H Q := h
theorem iL {K : PySem.W.Frag} {R : It → Hp → Prop} (h : te σ H fun x H1 => ∃ a, x = .ref a ∧ (∃ xs, SqL K H1 a xs) ∧ R (Itl K a) H1) : iList K te σ H R := h
theorem iT {K : PySem.W.Frag} {R : It → Hp → Prop} (h : te σ H fun x H1 => ∃ a, x = .ref a ∧ (∃ xs, SqT K H1 a xs) ∧ R (Itt K a) H1) : iTup K te σ H R := h
theorem iR1 {tr : TA} {R : It → Hp → Prop} (h : tr σ H fun vs H1 => ∃ j : Int, vs = [.int j] ∧ -(2 ^ 62) ≤ j ∧ j < 2 ^ 62 ∧ R (Itr 0 j.toNat) H1) : iRng1 tr σ H R := h
theorem iR2 {tr : TA} {R : It → Hp → Prop} (h : tr σ H fun vs H1 => ∃ i j : Int, vs = [.int i, .int j] ∧ (-(2 ^ 62) ≤ i ∧ i < 2 ^ 62 ∧ -(2 ^ 62) ≤ j ∧ j < 2 ^ 62) ∧ R (Itr i (j - i).toNat) H1) : iRng2 tr σ H R := h
theorem iE {K : PySem.W.Frag} {tr : TA} {R : It → Hp → Prop} (h : tr σ H fun vs H1 => ∃ a xs, vs = [.ref a] ∧ SqL K H1 a xs ∧ R (Ite K a) H1) : iEnum K tr σ H R := h
theorem iZ {K : PySem.W.Frag} {tr : TA} {R : It → Hp → Prop} (h : tr σ H fun vs H1 => ∃ a b xs ys, vs = [.ref a, .ref b] ∧ SqL K H1 a xs ∧ SqL K H1 b ys ∧ R (Itz K a b) H1) : iZip K tr σ H R := h
theorem iS {R : It → Hp → Prop} (h : te σ H fun v H1 => ∃ x, v = .str x ∧ R (Its x) H1) : iStr te σ H R := h
theorem goL {K : PySem.W.Frag} {g : TG} {a : Addr} {xs : List V} (hq : SqL K H a xs) (Pv : Nat → L2.St → Hp → Prop) (h0 : Pv 0 σ H) (hG : ∀ i σ H, i ≤ xs.length → Pv i σ H → SqL K H a xs)
    (turn : ∀ i x σ H, xs[i]? = some x → Pv i σ H → g x σ H fun σ2 H2 => t ⟨Pv (i + 1), rt, nx, Pv (i + 1)⟩ σ2 H2) (hd : ∀ σ H, Pv xs.length σ H → nx σ H) :
    ∃ a', V.ref a = .ref a' ∧ (∃ ys, SqL K H a' ys) ∧ FR (Itl K a') g t nx rt σ H := ⟨a, rfl, ⟨_, hq⟩, for_list (D := ⟨nx, rt, nx, nx⟩) Pv h0 hG turn hd⟩
theorem goT {K : PySem.W.Frag} {g : TG} {a : Addr} {xs : List V} (hq : SqT K H a xs) (Pv : Nat → L2.St → Hp → Prop) (h0 : Pv 0 σ H) (hG : ∀ i σ H, i ≤ xs.length → Pv i σ H → SqT K H a xs)
    (turn : ∀ i x σ H, xs[i]? = some x → Pv i σ H → g x σ H fun σ2 H2 => t ⟨Pv (i + 1), rt, nx, Pv (i + 1)⟩ σ2 H2) (hd : ∀ σ H, Pv xs.length σ H → nx σ H) :
    ∃ a', V.ref a = .ref a' ∧ (∃ ys, SqT K H a' ys) ∧ FR (Itt K a') g t nx rt σ H := ⟨a, rfl, ⟨_, hq⟩, for_tup (D := ⟨nx, rt, nx, nx⟩) Pv h0 hG turn hd⟩
theorem goR {g : TG} {z : Int} {n : Nat} (hz : z.toNat = n) (hz2 : z < 1000000000) (hz1 : -1000000000 < z) (Pv : Nat → L2.St → Hp → Prop) (h0 : Pv 0 σ H)
    (turn : ∀ i σ H, i < n → Pv i σ H → g (.int (i : Nat)) σ H fun σ2 H2 => t ⟨Pv (i + 1), rt, nx, Pv (i + 1)⟩ σ2 H2) (hd : ∀ σ H, Pv n σ H → nx σ H) :
    ∃ j : Int, [V.int z] = [.int j] ∧ -(2 ^ 62) ≤ j ∧ j < 2 ^ 62 ∧ FR (Itr 0 j.toNat) g t nx rt σ H := by
  subst hz
  refine ⟨z, rfl, by omega, by omega, for_range (D := ⟨nx, rt, nx, nx⟩) Pv h0 (fun i σ H hi hp => ?_) hd⟩
  have e : (0 + (i : Int)) = ((i : Nat) : Int) := by omega
  rw [e]
  exact turn i σ H hi hp
theorem goR2 {g : TG} {y z : Int} {n : Nat} (hz : (z - y).toNat = n) (hb : -1000000000 < y ∧ y < 1000000000 ∧ -1000000000 < z ∧ z < 1000000000) (Pv : Nat → L2.St → Hp → Prop) (h0 : Pv 0 σ H)
    (turn : ∀ i σ H, i < n → Pv i σ H → g (.int (y + i)) σ H fun σ2 H2 => t ⟨Pv (i + 1), rt, nx, Pv (i + 1)⟩ σ2 H2) (hd : ∀ σ H, Pv n σ H → nx σ H) :
    ∃ i j : Int, [V.int y, V.int z] = [.int i, .int j] ∧ (-(2 ^ 62) ≤ i ∧ i < 2 ^ 62 ∧ -(2 ^ 62) ≤ j ∧ j < 2 ^ 62) ∧ FR (Itr i (j - i).toNat) g t nx rt σ H := by
  subst hz
  exact ⟨y, z, rfl, ⟨by omega, by omega, by omega, by omega⟩, for_range (D := ⟨nx, rt, nx, nx⟩) Pv h0 turn hd⟩
theorem goE {K : PySem.W.Frag} {g : TG} {a : Addr} {xs : List V} (hq : SqL K H a xs) (Pv : Nat → L2.St → Hp → Prop) (h0 : Pv 0 σ H) (hG : ∀ i σ H, i ≤ xs.length → Pv i σ H → SqL K H a xs)
    (turn : ∀ i x σ H T, xs[i]? = some x → Pv i σ H → H T = none → g (.ref T) σ (upd H T (.tup [.int (i : Nat), x])) fun σ2 H2 => t ⟨Pv (i + 1), rt, nx, Pv (i + 1)⟩ σ2 H2) (hd : ∀ σ H, Pv xs.length σ H → nx σ H) :
    ∃ a' ys, [V.ref a] = [.ref a'] ∧ SqL K H a' ys ∧ FR (Ite K a') g t nx rt σ H := by
  refine ⟨a, xs, rfl, hq, for_it (D := ⟨nx, rt, nx, nx⟩) walk_enum Pv h0 hG (fun i x σ H H' hi hp y => ?_) hd⟩
  obtain ⟨T, x1, x2, rfl, hT, rfl, e1, e2⟩ := y
  cases e1
  exact turn i x2 σ H T e2 hp hT
/-! a new list by a comprehension -/
theorem same_new {H : Hp} {p : Addr} {o : HO} (h : H p = none) : Same H (upd H p o) := fun b x e => by
  rw [upd_ne (ne_of_none e h)]
  exact e
theorem same_mut {H H' : Hp} {p : Addr} {o : HO} (e : Same H H') (h : H p = none) : Same H (upd H' p o) := fun a u ha => by
  rw [upd_ne (ne_of_none ha h)]
  exact e a u ha
/-- what a comprehension collects: f of the items that pass p -/
def pick {α β : Type} (p : α → Bool) (f : α → β) : List α → List β
  | [] => []
  | a :: r => if p a = true then f a :: pick p f r else pick p f r
theorem pick_app {α β : Type} {p : α → Bool} {f : α → β} : ∀ (l r : List α), pick p f (l ++ r) = pick p f l ++ pick p f r
  | [], r => rfl
  | a :: l, r => by
    show (if p a = true then f a :: pick p f (l ++ r) else pick p f (l ++ r)) = (if p a = true then f a :: pick p f l else pick p f l) ++ pick p f r
    rw [pick_app l r]
    by_cases h : p a = true
    · rw [if_pos h, if_pos h]; rfl
    · rw [if_neg h, if_neg h]
theorem pick_len {α β : Type} {p : α → Bool} {f : α → β} : ∀ (l : List α), (pick p f l).length ≤ l.length
  | [] => Nat.le_refl _
  | a :: l => by
    show (if p a = true then f a :: pick p f l else pick p f l).length ≤ l.length + 1
    have := pick_len (p := p) (f := f) l
    by_cases h : p a = true
    · rw [if_pos h, List.length_cons]; omega
    · rw [if_neg h]; omega
theorem pick_all {α β : Type} {p : α → Bool} {f : α → β} (h : ∀ a, p a = true) : ∀ (l : List α), pick p f l = l.map f
  | [] => rfl
  | a :: l => by
    show (if p a = true then f a :: pick p f l else pick p f l) = f a :: l.map f
    rw [if_pos (h a), pick_all h l]
theorem pick_filter {α β : Type} {p : α → Bool} {f : α → β} : ∀ (l : List α), pick p f l = (l.filter p).map f
  | [] => rfl
  | a :: l => by
    show (if p a = true then f a :: pick p f l else pick p f l) = _
    by_cases h : p a = true
    · rw [if_pos h, List.filter_cons_of_pos h, List.map_cons, pick_filter l]
    · rw [if_neg h, List.filter_cons_of_neg h, pick_filter l]
theorem take_one {α : Type} {l : List α} {i : Nat} {x : α} (h : l[i]? = some x) : l.take (i + 1) = l.take i ++ [x] := by
  rw [List.take_add_one, h]; rfl
theorem lcAny {J : It} {g : TG} {tt : TT} {vs : List Nat} {n : Nat} {G : Hp → Prop} {Y : Nat → Hp → V → Hp → Prop} (w : Walk J n G Y) {α : Type} (al : List α) (hal : al.length = n) (hsz : n ≤ sizeLine) (p : α → Bool) (f : α → V) (h0G : G H) (hGs : ∀ H', Same H H' → G H')
    (hY : ∀ i H1 x H2, Same H H1 → Y i H1 x H2 → Same H1 H2)
    (turn : ∀ i a x H1 H2 (Q' : VK) (R' : Hp → Prop), al[i]? = some a → Same H H1 → Y i H1 x H2 → (p a = true → ∀ H4, Same H2 H4 → Q' (f a) H4) → (p a = false → ∀ H4, Same H2 H4 → R' H4) →
      g x (wipe σ vs) H2 fun σ2 H3 => wipe σ2 vs = wipe σ vs ∧ tt σ2 H3 fun b H5 => if b = true then te σ2 H5 Q' else R' H5)
    (hd : ∀ H' q, H q = none → Same H H' → H' q = some (.lst (pick p f al)) → Q (.ref q) H') : LR J g tt te vs σ H Q := by
  intro D hD
  refine lc_it w (fun i H1 => Same H H1 ∧ H1 D = some (.lst (pick p f (al.take i)))) ⟨same_new hD, by rw [upd_same]; rfl⟩ (fun i H1 _ hp => hGs _ hp.1) (fun i x H1 H2 hi hp y => ?_) (fun H1 hp => ?_)
  · have hi' : i < al.length := by omega
    have ga : al[i]? = some al[i] := List.getElem?_eq_getElem hi'
    have sm := hY i H1 x H2 hp.1 y
    refine turn i al[i] x H1 H2 _ _ ga hp.1 y (fun ht H4 s4 => ?_) (fun hf H4 s4 => ?_)
    · have e4 : H4 D = some (.lst (pick p f (al.take i))) := s4 _ _ (sm _ _ hp.2)
      refine ⟨_, e4, ?_, same_mut ((hp.1.trans sm).trans s4) hD, ?_⟩
      · have := pick_len (p := p) (f := f) (al.take i)
        rw [List.length_take] at this
        exact Nat.lt_of_lt_of_le (Nat.lt_of_le_of_lt this (by omega : min i al.length < n)) hsz
      · rw [upd_same, take_one ga, pick_app]
        show _ = some (HO.lst (_ ++ (if p al[i] = true then [f al[i]] else [])))
        rw [if_pos ht]
    · have e4 : H4 D = some (.lst (pick p f (al.take i))) := s4 _ _ (sm _ _ hp.2)
      refine ⟨(hp.1.trans sm).trans s4, ?_⟩
      rw [e4, take_one ga, pick_app]
      show _ = some (HO.lst (_ ++ (if p al[i] = true then [f al[i]] else [])))
      rw [if_neg (by rw [hf]; exact Bool.false_ne_true), List.append_nil]
  · have e := hp.2
    rw [← hal, List.take_length] at e
    exact hd H1 D hD hp.1 e
theorem lcL {K : PySem.W.Frag} {g : TG} {tt : TT} {vs : List Nat} {a : Addr} {xs : List V} (hq : SqL K H a xs) (hsz : xs.length ≤ sizeLine) (p : V → Bool) (f : V → V)
    (turn : ∀ (i : Nat) x H1 (Q' : VK) (R' : Hp → Prop), xs[i]? = some x → Same H H1 → (p x = true → ∀ H4, Same H1 H4 → Q' (f x) H4) → (p x = false → ∀ H4, Same H1 H4 → R' H4) →
      g x (wipe σ vs) H1 fun σ2 H3 => wipe σ2 vs = wipe σ vs ∧ tt σ2 H3 fun b H5 => if b = true then te σ2 H5 Q' else R' H5)
    (hd : ∀ H' q, H q = none → Same H H' → H' q = some (.lst (pick p f xs)) → Q (.ref q) H') :
    ∃ a', V.ref a = .ref a' ∧ (∃ ys, SqL K H a' ys) ∧ LR (Itl K a') g tt te vs σ H Q := by
  refine ⟨a, rfl, ⟨_, hq⟩, lcAny (walk_list (K := K) (a := a) (xs := xs)) xs rfl hsz p f hq (fun H' s => s.seq hq) (fun i H1 x H2 s y => ?_) (fun i b x H1 H2 Q' R' hb s y kT kF => ?_) hd⟩
  · obtain ⟨rfl, _⟩ := y
    exact Same.refl _
  · obtain ⟨rfl, y⟩ := y
    rw [y] at hb
    cases hb
    exact turn i b _ Q' R' y s kT kF
theorem lcR {g : TG} {tt : TT} {vs : List Nat} {z : Int} {n : Nat} (hz : z.toNat = n) (hz2 : z < 1000000) (hz1 : -1000000 < z) (p : Nat → Bool) (f : Nat → V)
    (turn : ∀ i H1 (Q' : VK) (R' : Hp → Prop), i < n → Same H H1 → (p i = true → ∀ H4, Same H1 H4 → Q' (f i) H4) → (p i = false → ∀ H4, Same H1 H4 → R' H4) →
      g (.int (i : Nat)) (wipe σ vs) H1 fun σ2 H3 => wipe σ2 vs = wipe σ vs ∧ tt σ2 H3 fun b H5 => if b = true then te σ2 H5 Q' else R' H5)
    (hd : ∀ H' q, H q = none → Same H H' → H' q = some (.lst (pick p f (List.range n))) → Q (.ref q) H') :
    ∃ j : Int, [V.int z] = [.int j] ∧ -(2 ^ 62) ≤ j ∧ j < 2 ^ 62 ∧ LR (Itr 0 j.toNat) g tt te vs σ H Q := by
  subst hz
  have hs : z.toNat ≤ sizeLine := Nat.le_trans (by omega : z.toNat ≤ 1000000) (by decide)
  refine ⟨z, rfl, by omega, by omega, lcAny (walk_range (lo := 0) (n := z.toNat)) (List.range z.toNat) (List.length_range) hs p f trivial (fun _ _ => trivial) (fun i H1 x H2 s y => ?_) (fun i b x H1 H2 Q' R' hb s y kT kF => ?_) hd⟩
  · obtain ⟨rfl, _⟩ := y
    exact Same.refl _
  · obtain ⟨rfl, rfl⟩ := y
    obtain ⟨hi, e⟩ := List.getElem?_eq_some_iff.mp hb
    rw [List.getElem_range] at e
    subst e
    rw [List.length_range] at hi
    have e : (0 + (i : Int)) = ((i : Nat) : Int) := by omega
    show g (V.int (0 + (i : Int))) _ _ _
    rw [e]
    exact turn i _ Q' R' hi s kT kF
theorem lcE {K : PySem.W.Frag} {g : TG} {tt : TT} {vs : List Nat} {a : Addr} {xs : List V} (hq : SqL K H a xs) (hsz : xs.length ≤ sizeLine) (p : Nat → Bool) (f : Nat → V)
    (turn : ∀ (i : Nat) x T H1 (Q' : VK) (R' : Hp → Prop), xs[i]? = some x → Same H H1 → H1 T = none → (p i = true → ∀ H4, Same (upd H1 T (.tup [.int (i : Nat), x])) H4 → Q' (f i) H4) → (p i = false → ∀ H4, Same (upd H1 T (.tup [.int (i : Nat), x])) H4 → R' H4) →
      g (.ref T) (wipe σ vs) (upd H1 T (.tup [.int (i : Nat), x])) fun σ2 H3 => wipe σ2 vs = wipe σ vs ∧ tt σ2 H3 fun b H5 => if b = true then te σ2 H5 Q' else R' H5)
    (hd : ∀ H' q, H q = none → Same H H' → H' q = some (.lst (pick p f (List.range xs.length))) → Q (.ref q) H') :
    ∃ a' ys, [V.ref a] = [.ref a'] ∧ SqL K H a' ys ∧ LR (Ite K a') g tt te vs σ H Q := by
  refine ⟨a, xs, rfl, hq, lcAny (walk_enum (K := K) (a := a) (xs := xs)) (List.range xs.length) List.length_range hsz p f hq (fun H' s => s.seq hq) (fun i H1 x H2 s y => ?_) (fun i b x H1 H2 Q' R' hb s y kT kF => ?_) hd⟩
  · obtain ⟨T, x1, x2, rfl, hT, rfl, _, _⟩ := y
    exact same_new hT
  · obtain ⟨T, x1, x2, rfl, hT, rfl, e1, e2⟩ := y
    cases e1
    obtain ⟨hi, e⟩ := List.getElem?_eq_some_iff.mp hb
    rw [List.getElem_range] at e
    subst e
    exact turn i x2 T H1 Q' R' e2 s hT kT kF
end
end RD

namespace RD
open PySem PySem.Spec PyProof.Rows L2
/-! the layer's rules with the written part named K, their readings under a name -/
def rLen (K : PySem.W.Frag) : List V → Hp → VK → Prop := fun xs H Q => ∃ p ys, xs = [.ref p] ∧ (SqL K H p ys ∨ SqT K H p ys) ∧ Q (.int ys.length) H
def rLenD : List V → Hp → VK → Prop := fun xs H Q => ∃ a kvs, xs = [V.ref a] ∧ H a = some (.dK kvs) ∧ Q (.int kvs.length) H
def rLenS : List V → Hp → VK → Prop := fun xs H Q => ∃ z, xs = [.str z] ∧ z.length ≤ sizeLine ∧ Q (.int z.length) H
def rListOf (K : PySem.W.Frag) : List V → Hp → VK → Prop := fun xs H Q => ∃ p ys, xs = [.ref p] ∧ (SqL K H p ys ∨ SqT K H p ys) ∧ ∀ l, H l = none → Q (.ref l) (upd H l (.lst ys))
def rInt : List V → Hp → VK → Prop := fun xs H Q => (∃ i, xs = [.int i] ∧ Q (.int i) H) ∨ ∃ k, xs = [.bl k] ∧ Q (.int (if k then 1 else 0)) H
def rAbs : List V → Hp → VK → Prop := fun xs H Q => ∃ i, xs = [.int i] ∧ Q (.int (if i < 0 then -i else i)) H
def rMax2 : List V → Hp → VK → Prop := fun xs H Q => ∃ i j, xs = [.int i, .int j] ∧ Q (.int (if j > i then j else i)) H
def rMin2 : List V → Hp → VK → Prop := fun xs H Q => ∃ i j, xs = [.int i, .int j] ∧ Q (.int (if j < i then j else i)) H
def rStrI : List V → Hp → VK → Prop := fun xs H Q => ∃ i, xs = [.int i] ∧ i.natAbs.log2 < 1920 ∧ Q (.str (toString i)) H
def rIntS : List V → Hp → VK → Prop := fun xs H Q => ∃ a n, xs = [.str a] ∧ PySem.intText? a = some n ∧ a.length ≤ 640 ∧ Q (.int n) H
def tTru (K : PySem.W.Frag) (ta : TE) : TT := fun σ H Q => ta σ H fun x H' => ∃ k, TruV K x H' k ∧ Q k H'
section
variable {X : Cx} {K : PySem.W.Frag} {e o : Expr} {es : List Expr} {ta to tv te : TE} {tr : TA} {f name : Str} {pos apos cpos pos' p tpos : Pos} {Ty id : String} {r : V → List V → Hp → VK → Prop} {tg : Expr} {kk : Nat}
theorem k_len (h : X.K = K) : CallR X (.builtin "len") (rLen K) := by subst h; exact call_len_seq
theorem k_lenD : CallR X (.builtin "len") rLenD := call_lenD
theorem k_lenS : CallR X (.builtin "len") rLenS := call_len_str
theorem k_list (h : X.K = K) : CallR X (.type "list") (rListOf K) := by subst h; exact call_list_of
theorem k_int : CallR X (.type "int") rInt := call_int1
theorem k_abs : CallR X (.builtin "abs") rAbs := call_abs
theorem k_max2 (hc : X.calm = true) : CallR X (.builtin "max") rMax2 := call_max2 hc
theorem k_min2 (hc : X.calm = true) : CallR X (.builtin "min") rMin2 := call_min2 hc
theorem k_strI : CallR X (.type "str") rStrI := call_str_int
theorem k_intS : CallR X (.type "int") rIntS := call_int_str
theorem k_min (h : X.K = K) (hc : X.calm = true) : CallR X (.builtin "min") (rMin K) := by subst h; exact cr_min hc
theorem k_max (h : X.K = K) (hc : X.calm = true) : CallR X (.builtin "max") (rMax K) := by subst h; exact cr_max hc
theorem k_sum (h : X.K = K) (hc : X.calm = true) : CallR X (.builtin "sum") (rSum K) := by subst h; exact cr_sum hc
theorem k_any (h : X.K = K) (hc : X.calm = true) : CallR X (.builtin "any") (rAny K) := by subst h; exact cr_any hc
theorem k_all (h : X.K = K) (hc : X.calm = true) : CallR X (.builtin "all") (rAll K) := by subst h; exact cr_all hc
theorem k_sorted (h : X.K = K) : CallR X (.builtin "sorted") (rSorted K) := by subst h; exact cr_sorted
theorem k_isi (h : X.K = K) : CallR X (.builtin "isinstance") (rIsi K) := by subst h; exact call_isi
theorem k_ixL (h : X.K = K) : IxR X (rIxL K) := by subst h; exact ix_list
theorem k_ixT (h : X.K = K) : IxR X (rIxT K) := by subst h; exact ix_tup
theorem k_slL (h : X.K = K) : SlR X (rSlL K) := by subst h; exact sl_list
theorem k_slT (h : X.K = K) : SlR X (rSlT K) := by subst h; exact sl_tup
theorem k_in (h : X.K = K) : OpR X (compareOp .In) (rIn K false) := by subst h; exact op_in_seq
theorem k_notin (h : X.K = K) : OpR X (compareOp .NotIn) (rIn K true) := by subst h; exact op_notIn_seq
theorem k_eqD (h : X.K = K) (hu : X.A.units + 64 < cLine) : OpR X (compareOp .Eq) (rEqD K) := by subst h; exact op_eqD hu
theorem k_neD (h : X.K = K) (hu : X.A.units + 64 < cLine) : OpR X (compareOp .NotEq) (rNeD K) := by subst h; exact op_neD hu
theorem k_bm (h : X.K = K) (pa : PlainAttrs Ty) (slot : Slot Ty name id) (hty : typeOf (.builtin id) = pure (.type "method_descriptor")) (hm : MtR X id r) (ho : PE X o to) (ha : PA X (e :: es) tr)
    (hbase : attributeBase o name X.env (eval o X.env) = eval o X.env := by rfl)
    (hfew : ((backTo cpos (starEach (e :: es) X.env)).all (fun x => !x.1) && (backToKw cpos (keywordEach [] X.env)).all (fun x => x.1.isSome)
      && decide ((e :: es).length + ([] : List Keyword).length + (if ([] : List Keyword).isEmpty then 0 else 1) < 30)) = true := by rfl)
    (hline : (apos.endLine == cpos.line) = true := by rfl) (hs : starEach (e :: es) X.env = (false, eval e X.env) :: starEach es X.env := by rfl) (hplain : (backTo cpos (starEach es X.env)).any (·.1) = false := by rfl) :
    PE X (.Call (.Attribute o name apos) (e :: es) [] cpos) (tBM K Ty r to tr) := by subst h; exact pe_bm pa slot hty hm ho ha hbase hfew hline hs hplain
theorem k_bm0 (h : X.K = K) (pa : PlainAttrs Ty) (slot : Slot Ty name id) (hty : typeOf (.builtin id) = pure (.type "method_descriptor")) (hm : MtR X id r) (ho : PE X o to)
    (hbase : attributeBase o name X.env (eval o X.env) = eval o X.env := by rfl) (hline : (apos.endLine == cpos.line) = true := by rfl) : PE X (.Call (.Attribute o name apos) [] [] cpos) (tBM0 K Ty r to) := by subst h; exact pe_bm0 pa slot hty hm ho hbase hline
theorem k_fld (h : X.K = K) (he : PE X e ta) (hb : attributeBase e f X.env (eval e X.env) = eval e X.env) : PE X (.Attribute e f pos) (tFld K ta f) := by subst h; exact pe_fld he hb
theorem k_sfld {value : Expr} (h : X.K = K) (ha : PE X o ta) (hv : PE X value tv) (hs : swapsWith value (some (.Attribute o f pos')) pos.line X.env = pure false) : PS X (.Assign [.Attribute o f pos'] value pos) (sFld K ta tv f) := by subst h; exact ps_fld ha hv hs
theorem k_pil (h : X.K = K) (hl : PE X e ta) : PI X tg e (iList K ta) := by subst h; exact pi_list hl
theorem k_pit (h : X.K = K) (hl : PE X e ta) : PI X tg e (iTup K ta) := by subst h; exact pi_tup hl
theorem k_pie {elts : List Expr} (h : X.K = K) (hg : Gl X "enumerate") (hm : X.mg "enumerate" = none) (ha : PA X [e] tr) (hs : starEach [e] X.env = [(false, eval e X.env)] := by rfl) :
    PI X (.Tuple elts kk tpos) (.Call (.Name "enumerate" p) [e] [] pos) (iEnum K tr) := by subst h; exact pi_enum hg hm ha hs
theorem k_piz {e2 : Expr} {elts : List Expr} (h : X.K = K) (hg : Gl X "zip") (hm : X.mg "zip" = none) (ha : PA X [e, e2] tr)
    (hs : starEach [e, e2] X.env = (false, eval e X.env) :: starEach [e2] X.env := by rfl) (hpl : (backTo pos (starEach [e2] X.env)).any (·.1) = false := by rfl) :
    PI X (.Tuple elts kk tpos) (.Call (.Name "zip" p) [e, e2] [] pos) (iZip K tr) := by subst h; exact pi_zip hg hm ha hs hpl
theorem k_gtup {t : TGs} {n : Nat} (h : X.K = K) (hc : X.calm = true) (hp : PGs X es t)
    (hn : (assignEach es X.env).length = n := by rfl) (hst : (assignEach es X.env).findIdx? (·.1) = none := by rfl) : PG X (.Tuple es kk pos) (gTup K n t) := by subst h; exact pg_tup hc hp hn hst
theorem k_tru (h : X.K = K) (ha : PE X e ta) (he : ∀ whole, isTrue e X.env whole = (do let v ← whole; standAt e.pos; holding [v] (truthy v))) : PT X e (tTru K ta) := by subst h; exact pt_truth ha he
end
/-! their steps -/
section
variable {σ s : L2.St} {H : Hp} {Q : VK} {K : PySem.W.Frag} {a : Addr} {xs : List V} {n m : Int} {ta : TE} {QB : Bool → Hp → Prop}
theorem len (h : SqL K H a xs) (q : Q (.int xs.length) H) : rLen K [.ref a] H Q := ⟨a, xs, rfl, .inl h, q⟩
theorem lenT (h : SqT K H a xs) (q : Q (.int xs.length) H) : rLen K [.ref a] H Q := ⟨a, xs, rfl, .inr h, q⟩
theorem lenD {kvs : List (Key × V)} (h : H a = some (.dK kvs)) (q : Q (.int kvs.length) H) : rLenD [.ref a] H Q := ⟨a, kvs, rfl, h, q⟩
theorem lenS {z : Str} (h : z.length ≤ sizeLine) (q : Q (.int z.length) H) : rLenS [.str z] H Q := ⟨z, rfl, h, q⟩
theorem list (h : SqL K H a xs) (q : ∀ l, H l = none → Q (.ref l) (upd H l (.lst xs))) : rListOf K [.ref a] H Q := ⟨a, xs, rfl, .inl h, q⟩
theorem int1 (q : Q (.int n) H) : rInt [.int n] H Q := .inl ⟨n, rfl, q⟩
theorem abs1 (q : Q (.int (if n < 0 then -n else n)) H) : rAbs [.int n] H Q := ⟨n, rfl, q⟩
theorem max2 (q : Q (.int (if m > n then m else n)) H) : rMax2 [.int n, .int m] H Q := ⟨n, m, rfl, q⟩
theorem min2 (q : Q (.int (if m < n then m else n)) H) : rMin2 [.int n, .int m] H Q := ⟨n, m, rfl, q⟩
theorem strI (h : n.natAbs.log2 < 1920) (q : Q (.str (toString n)) H) : rStrI [.int n] H Q := ⟨n, rfl, h, q⟩
theorem tru (h : ta σ H fun x H' => ∃ k, TruV K x H' k ∧ QB k H') : tTru K ta σ H QB := h
theorem truL (h : SqL K H a xs) {P : Bool → Prop} (q : P (!xs.isEmpty)) : ∃ k, TruV K (.ref a) H k ∧ P k := ⟨_, .inl ⟨xs, h, rfl⟩, q⟩
theorem all1 {bs : List Bool} (h : SqL K H a (bs.map V.bl)) (q : Q (.bl (bs.all id)) H) : rAll K [.ref a] H Q := ⟨a, bs, rfl, h, q⟩
theorem any1 {bs : List Bool} (h : SqL K H a (bs.map V.bl)) (q : Q (.bl (bs.any id)) H) : rAny K [.ref a] H Q := ⟨a, bs, rfl, h, q⟩
theorem sort1 {ns : List Int} (h : SqL K H a (ns.map V.int)) (hl : ns.length < 64) (q : ∀ (ns' : List Int) (p : Addr), ns'.Perm ns → ns'.Pairwise (· ≤ ·) → H p = none → Q (.ref p) (upd H p (.lst (ns'.map V.int)))) : rSorted K [.ref a] H Q := ⟨a, ns, rfl, h, hl, q⟩
theorem isi {x c : V} {t u : Value} {b : Bool} (hc : ClsV c u) (ht : TyX K H x t) (hk : PySem.W.kitOne K t u = some b) (q : Q (.bl b) H) : rIsi K [x, c] H Q := ⟨x, c, t, u, b, rfl, hc, ht, hk, q⟩
theorem inL {x : V} (h : SqL K H a xs) (hx : flatV x = true) (ha : xs.all flatV = true) (q : Q (.bl (inV x xs)) H) : rIn K false x (.ref a) H Q := ⟨a, xs, rfl, .inl h, hx, ha, q⟩
theorem ninL {x : V} (h : SqL K H a xs) (hx : flatV x = true) (ha : xs.all flatV = true) (q : Q (.bl (!inV x xs)) H) : rIn K true x (.ref a) H Q := ⟨a, xs, rfl, .inl h, hx, ha, q⟩
end
/-- a word between a statement and the rest: what follows is shown once -/
def tCut (t u : TS) : TS := fun D σ H => ∃ W : L2.St → Hp → Prop, t ⟨W, D.rt, D.bk, D.ct⟩ σ H ∧ ∀ σ1 H1, W σ1 H1 → u D σ1 H1
theorem pss_cut {X : Cx} {s0 : Stmt} {more : List Stmt} {t u : TS} (a : PS X s0 t) (b : PSs X more u) : PSs X (s0 :: more) (tCut t u) := by
  refine ⟨fun pins s σ H D J hw => ?_⟩
  obtain ⟨W, h1, h2⟩ := hw
  refine wpAny_execs_cons (thn (a.run pins s σ H ⟨W, D.rt, D.bk, D.ct⟩ J h1) fun fl s1 q => ?_)
  cases fl with
  | next =>
    obtain ⟨σ1, H1, J1, q1⟩ := q
    exact b.run pins s1 σ1 H1 D J1 (h2 σ1 H1 q1)
  | _ => exact q
theorem cut {t u : TS} {σ : L2.St} {H : Hp} {nx bk ct : L2.St → Hp → Prop} {rt : VK} (W : L2.St → Hp → Prop) (h1 : t ⟨W, rt, bk, ct⟩ σ H) (h2 : ∀ σ1 H1, W σ1 H1 → u ⟨nx, rt, bk, ct⟩ σ1 H1) : tCut t u ⟨nx, rt, bk, ct⟩ σ H := ⟨W, h1, h2⟩
end RD
namespace RD
open PySem PySem.Spec PyProof.Rows L2
theorem pe_gl {X : Cx} {x z : Str} {pos : Pos} (hg : Gl X x) (hm : ∃ t, X.mg x = some (.str z t)) (hd : (x == ("__debug__" : Str)) = false := by decide) : PE X (.Name x pos) (tC (.str z)) := by
  obtain ⟨t, h⟩ := hm
  exact pe_glob hg h ⟨t, rfl⟩ hd
theorem pe_glI {X : Cx} {x : Str} {z : Int} {pos : Pos} (hg : Gl X x) (hm : ∃ t, X.mg x = some (.int z t)) (hd : (x == ("__debug__" : Str)) = false := by decide) : PE X (.Name x pos) (tC (.int z)) := by
  obtain ⟨t, h⟩ := hm
  exact pe_glob hg h ⟨t, rfl⟩ hd
end RD

namespace RD
open PySem PySem.Spec PyProof.Rows L2
/-! len, in and == by methods of one's own -/
section
variable {X : Cx} {CX : CXT} {n : Nat} {f C : Addr} {fd : FuncData} {ps : List Str} {sp : Sp} {E : XK} {K : PySem.W.Frag}
theorem call_own {Ar : Around} {pins : List (Addr × Obj)} {σ : L2.St} {H : Hp} {s : Shared} {Q : VK} {vs : List V} {us : List Value} (hfr : Ar.frames = X.A.frames) (room : Room n Ar) (F : FnOk X.prog X.w X.K X.mg X.base CX n f fd ps sp) (hb : Binds X.K fd ps []) (hx : Passes CX X E)
    (J : Inv X pins σ H s) (rv : Vals vs us) (hs : sp vs H Q E) : wpAny (model X.prog X.w) Ar (PySem.call (.ref f) us) (EP X pins σ Q) X.xe s := by
  have e := J.env0
  have e0 : Env0 X.prog X.w X.K X.mg X.base Ar X.stack s H := ⟨by rw [hfr]; exact e.frames, e.mod, e.bs, e.bsz, e.funs, e.frf, e.hok, e.bare⟩
  have hl : us.length = ps.length := rv.length.symm.trans (F.len _ _ _ _ hs)
  have bb := hb s us J.kIn (by rw [List.append_nil]; exact hl)
  rw [List.append_nil] at bb
  refine wpAny_call (codeAny_mono (F.run Ar X.stack s H ⟨us, []⟩ us vs Q E room e0 bb rv hs) ?_)
  intro rr s' hq
  cases rr with
  | error er => exact hx pins σ H s er s' J hq
  | ok fl =>
    cases fl with
    | ret u => exact J.after hq
    | next => exact hq.elim
    | brk => exact hq.elim
    | cont => exact hq.elim
def rLenOwn (C : Addr) (sp : Sp) (E : XK) : List V → Hp → VK → Prop := fun xs H Q => ∃ a dx fs, xs = [.ref a] ∧ H a = some (.ins C dx fs) ∧ sp [.ref a] H (fun v H' => ∃ z : Int, v = .int z ∧ 0 ≤ z ∧ z < 2 ^ 63 ∧ Q (.int z) H') E
theorem k_lenOwn (hr : Room (n + 1) X.A) (F : FnOk X.prog X.w X.K X.mg X.base CX n f fd ps sp) (hs : PySem.W.findIn X.K (.ref C) "__len__" = some (some (.ref f))) (hf : PySem.W.isFn X.K (.ref f) = true) (hb : Binds X.K fd ps []) (hx : Passes CX X E) :
    CallR X (.builtin "len") (rLenOwn C sp E) := by
  intro pins s σ H xs us Q I r hw
  obtain ⟨a, dx, fs, rfl, ha, hsp⟩ := hw
  obtain ⟨u, rfl, rx⟩ := vals1 r
  cases rx
  obtain ⟨_, O, _⟩ := ins_get I.hok ha
  obtain ⟨_, O, _⟩ := O.look
  obtain ⟨_, hF⟩ := I.fr
  refine PySem.W.len_K hF I.ok.mod.kin O hs hf (wpAny_mono (call_own rfl hr.in1 F hb hx I r hsp) ?_ fun _ _ z => z)
  rintro v s' ⟨y, H', I', ry, z, rfl, h0, h1, q⟩
  obtain ⟨t, rfl⟩ := ry
  exact ⟨⟨h0, h1⟩, .int z, H', I'.tok _, ⟨_, rfl⟩, q⟩
def rInOwn (C : Addr) (sp : Sp) (E : XK) (neg : Bool) : R2 := fun x y H Q => ∃ a dx fs, y = .ref a ∧ H a = some (.ins C dx fs) ∧ sp [.ref a, x] H (fun v H' => ∃ b, v = .bl b ∧ Q (.bl (if neg then !b else b)) H') E
theorem k_inOwn (hr : Room n X.A) (F : FnOk X.prog X.w X.K X.mg X.base CX n f fd ps sp) (hs : PySem.W.findIn X.K (.ref C) "__contains__" = some (some (.ref f))) (hf : PySem.W.isFn X.K (.ref f) = true) (hb : Binds X.K fd ps []) (hx : Passes CX X E) :
    OpR X (compareOp .In) (rInOwn C sp E false) := by
  intro pins s σ H x y v u Q I rx ry hw
  obtain ⟨a, dx, fs, rfl, ha, hsp⟩ := hw
  cases ry
  obtain ⟨_, O, _⟩ := ins_get I.hok ha
  obtain ⟨_, O, _⟩ := O.look
  obtain ⟨_, hF⟩ := I.fr
  refine PySem.W.in_K hF I.ok.mod.kin O hs hf (wpAny_mono (call_own (vs := [.ref a, x]) rfl hr F hb hx I (.cons rfl (.cons rx .nil)) hsp) ?_ fun _ _ z => z)
  rintro r s' ⟨y, H', I', ry, b, rfl, q⟩
  refine wpAny_mono (tru_ok pins s' σ H' (.bl b) r (fun k H'' => k = b ∧ Q (.bl b) H'') I' ry ⟨b, rfl, rfl, q⟩) ?_ fun _ _ z => z
  rintro k s'' ⟨H'', I'', rfl, q'⟩
  exact ⟨.bl k, H'', I'', rfl, q'⟩
theorem k_ninOwn (hr : Room n X.A) (F : FnOk X.prog X.w X.K X.mg X.base CX n f fd ps sp) (hs : PySem.W.findIn X.K (.ref C) "__contains__" = some (some (.ref f))) (hf : PySem.W.isFn X.K (.ref f) = true) (hb : Binds X.K fd ps []) (hx : Passes CX X E) :
    OpR X (compareOp .NotIn) (rInOwn C sp E true) := by
  intro pins s σ H x y v u Q I rx ry hw
  obtain ⟨a, dx, fs, rfl, ha, hsp⟩ := hw
  cases ry
  obtain ⟨_, O, _⟩ := ins_get I.hok ha
  obtain ⟨_, O, _⟩ := O.look
  obtain ⟨_, hF⟩ := I.fr
  refine PySem.W.notIn_K hF I.ok.mod.kin O hs hf (wpAny_mono (call_own (vs := [.ref a, x]) rfl hr F hb hx I (.cons rfl (.cons rx .nil)) hsp) ?_ fun _ _ z => z)
  rintro r s' ⟨y, H', I', ry, b, rfl, q⟩
  refine wpAny_mono (tru_ok pins s' σ H' (.bl b) r (fun k H'' => k = b ∧ Q (.bl (!b)) H'') I' ry ⟨b, rfl, rfl, q⟩) ?_ fun _ _ z => z
  rintro k s'' ⟨H'', I'', rfl, q'⟩
  exact ⟨.bl (!k), H'', I'', rfl, q'⟩
def rEqOwn (K : PySem.W.Frag) (C : Addr) (sp : Sp) (E : XK) : R2 := fun x y H Q => ∃ a dx fs tb, x = .ref a ∧ H a = some (.ins C dx fs) ∧ TyX K H y tb ∧ PySem.W.notFirst K C tb = true ∧ sp [.ref a, y] H (fun v H' => ∃ b, v = .bl b ∧ Q (.bl b) H') E
theorem k_eqOwn (h : X.K = K) (hr : Room n X.A) (F : FnOk X.prog X.w X.K X.mg X.base CX n f fd ps sp) (hs : PySem.W.findIn X.K (.ref C) "__eq__" = some (some (.ref f))) (hf : PySem.W.isFn X.K (.ref f) = true) (hb : Binds X.K fd ps []) (hx : Passes CX X E) :
    OpR X (compareOp .Eq) (rEqOwn K C sp E) := by
  subst h
  intro pins s σ H x y v u Q I rx ry hw
  obtain ⟨a, dx, fs, tb, rfl, ha, ty, nf, hsp⟩ := hw
  cases rx
  obtain ⟨_, O, _⟩ := ins_get I.hok ha
  obtain ⟨_, O, _⟩ := O.look
  obtain ⟨_, hF⟩ := I.fr
  obtain ⟨_, kx, kp, _⟩ := kit_of I ry ty
  show wpAny (model X.prog X.w) X.A (richCompare .Eq _ u) (EP X pins σ Q) X.xe s
  refine PySem.W.cmp_K (op := .Eq) (tb := tb) hr.units0 hF I.ok.mod.kin O (kx.ty _ _ I.kIn kp) nf hs hf (wpAny_mono (call_own (vs := [.ref a, y]) rfl hr F hb hx I (.cons rfl (.cons ry .nil)) hsp) ?_ fun _ _ z => z)
  rintro r s' ⟨y, H', I', ry, b, rfl, q⟩
  cases ry
  exact ⟨.bl b, H', I', rfl, q⟩
end
end RD

namespace RD
open PySem PySem.Spec PyProof.Rows L2
/-! further rules: an own error made without arguments; an object made where what is raised is wished for at the slots -/
section
variable {X : Cx} {C : Addr} {bmB : List Value} {B newId initId : String}
theorem pmk_own0 {x : Str} {p pos : Pos} (F : ExcBaseFacts B newId initId bmB) (q : PySem.W.excIn X.K C bmB newId = true) (gC : X.mg x = some (.ref C)) (kC : PySem.W.keepIn X.K (.ref C) = true) (r : Raises X (.ref C)) (hg : Gl X x)
    (hdb : (x == ("__debug__" : Str)) = false := by decide) : PMk X (.Call (.Name x p) [] [] pos) (fun _ H Q => Q (.ref C) none H) := by
  intro pins s0 σ H Q J hw
  refine wpAny_Call_Name_kw (ld_glob J hg gC ?_ hdb)
  refine PySem.W.callWith_K0 J.kIn kC ?_
  show wpAny _ _ (PySem.call (Value.ref C) []) _ _ _
  obtain ⟨_, _, _, _, _, _, _, _, _, _, _, _, _, _, _, _, _, hC, hN, hni, tl⟩ := exc_obj J.kIn q
  exact wpAny_call_exc_subT F tl hC hN hni (fun _ _ hm => mk_of J hm r hw (J.hok.gone hm.new)) (Nat.zero_le _)
end
section
variable {X : Cx} {CX : CXT} {k : Nat} {f C : Addr} {fd : FuncData} {ps : List Str} {sp : Sp} {E : L2.St → XK} {x : Str} {p pos : Pos} {e : Expr} {es : List Expr} {t : TA}
def tMakeS (C : Addr) (sp : Sp) (E : L2.St → XK) (t : TA) : TE := fun σ H Q => t σ H fun vs H1 => MKE C sp [] (E σ) vs H1 Q
/-- a way out with the slots as they are, seen as one that asks nothing of them -/
theorem pe_makeS (M : Mk X.K C f) (F : FnOk X.prog X.w X.K X.mg X.base CX k f fd ps sp) (hr : Room (k + 1) X.A) (hg : Gl X x) (hm : X.mg x = some (.ref C)) (hb : Binds X.K fd ps []) (hx : ∀ σ, PassesAt CX X σ (E σ))
    (ha : PA X (e :: es) t) (hdb : (x == ("__debug__" : Str)) = false := by decide) (he : starEach (e :: es) X.env = (false, eval e X.env) :: starEach es X.env := by rfl) (hpl : (backTo pos (starEach es X.env)).any (·.1) = false := by rfl) :
    PE X (.Call (.Name x p) (e :: es) [] pos) (tMakeS C sp E t) := by
  refine ⟨fun pins s0 σ H Q I hw => ?_⟩
  refine wpAny_Call_Name_kw (ld_glob I hg hm ?_ hdb)
  refine PySem.W.callWith_K (h₀ := X.base) I.ok.mod.kin M.kp (thn (ha.run pos pins s0 σ H _ I hw) fun us s ⟨vs, H1, I1, r, q⟩ => ⟨I1.kIn, ?_⟩) he hpl
  have hq := q (s.heap.objs.size + 1) s.heap.objs.size (I1.hok.fresh (Nat.le_succ _)) (I1.hok.fresh (Nat.le_refl _)) (Nat.ne_of_lt (Nat.lt_succ_self _))
  rw [List.append_nil] at hq
  have I2 := Inv.made (C := C) I1
  have r2 : Vals (V.ref (s.heap.objs.size + 1) :: vs) (Value.ref (s.heap.objs.size + 1) :: us) := .cons rfl r
  have hl : (Value.ref (s.heap.objs.size + 1) :: us).length = ps.length := (r2.length.symm.trans (F.len _ _ _ _ hq))
  have bb := hb _ (Value.ref (s.heap.objs.size + 1) :: us) I2.kIn (by rw [List.append_nil]; exact hl)
  rw [List.append_nil] at bb
  refine wpAny_call (make_map (f := f) I1.kIn M.makes M.init (beq_iff_eq.mp M.fn) ?_)
  refine codeAny_mono (F.run _ X.stack _ _ ⟨Value.ref (s.heap.objs.size + 1) :: us, []⟩ (Value.ref (s.heap.objs.size + 1) :: us) _ _ (E σ) (hr.make C us []) (I2.env0.make C us []) bb r2 hq) ?_
  intro rr s' hq'
  cases rr with
  | error er => exact hx σ pins _ _ er s' I2 hq'
  | ok fl =>
    cases fl with
    | ret u =>
      obtain ⟨_, H', I3, rv, ev, q3⟩ := I2.after hq'
      subst ev
      exact ⟨rv, V.ref (s.heap.objs.size + 1), H', I3, rfl, q3⟩
    | next => exact hq'.elim
    | brk => exact hq'.elim
    | cont => exact hq'.elim
end
/-- a reading under a fact -/
def tWhen (p : Prop) (t : TS) : TS := fun D σ H => p ∧ t D σ H
theorem pss_when {X : Cx} {sts : List Stmt} {t : TS} {p : Prop} (h : p → PSs X sts t) : PSs X sts (tWhen p t) := ⟨fun pins s σ H D I hw => (h hw.1).run pins s σ H D I hw.2⟩
theorem k_isE {X : Cx} {K : PySem.W.Frag} {a D : Addr} {oe : Obj} {pn : List (Addr × Obj)} (h : X.K = K) (C : ExcC K D) (hz : Zc (.ref D) none oe) (hf : ∃ vs, oe.data = .fields vs) : CallR (X.suite a ((a, oe) :: pn)) (.builtin "isinstance") (rIsE K D a) := by subst h; exact call_isE C hz hf
/-- an error of a class is what a clause names that names the class -/
theorem exm_self {K : PySem.W.Frag} {S : Addr} (h1 : PySem.W.subIn K (.ref S) (.type "BaseException") = some true) (h2 : PySem.W.isClsIn K S = true) (h3 : PySem.W.typeIn K (.ref S) = some (.type "type")) (h4 : PySem.W.subIn K (.ref S) (.ref S) = some true) :
    PySem.W.exmOne K (.ref S) (.ref S) = some true := by
  have e1 : (PySem.W.subIn K (.ref S) (.type "BaseException") == some true) = true := by rw [h1] <;> rfl
  have e2 : ((PySem.W.clsIn K S).isSome && PySem.W.typeIn K (.ref S) == some (.type "type")) = true := by
    have h2' : (PySem.W.clsIn K S).isSome = true := h2
    rw [h2', h3] <;> rfl
  show (if (PySem.W.subIn K (.ref S) (.type "BaseException") == some true) = true then (if ((PySem.W.clsIn K S).isSome && PySem.W.typeIn K (.ref S) == some (.type "type")) = true then PySem.W.subIn K (.ref S) (.ref S) else none) else none) = some true
  rw [if_pos e1, if_pos e2]
  exact h4
end RD

namespace MM
/-! rounds of a permutation -/
def it (f : Nat → Nat) : Nat → Nat → Nat
  | 0, h => h
  | i + 1, h => f (it f i h)
theorem it_one (f : Nat → Nat) : ∀ i h, it f (i + 1) h = it f i (f h)
  | 0, h => rfl
  | i + 1, h => by
    show f (it f (i + 1) h) = f (it f i (f h))
    rw [it_one f i h]
theorem it_add (f : Nat → Nat) : ∀ i j h, it f (i + j) h = it f i (it f j h)
  | 0, j, h => by rw [Nat.zero_add]; rfl
  | i + 1, j, h => by
    rw [Nat.succ_add]
    show f (it f (i + j) h) = f (it f i (it f j h))
    rw [it_add f i j h]
structure PermOn (f : Nat → Nat) (n : Nat) : Prop where
  lt : ∀ x, x < n → f x < n
  inj : ∀ x y, x < n → y < n → f x = f y → x = y
section
variable {f : Nat → Nat} {n : Nat}
theorem PermOn.it_lt (p : PermOn f n) : ∀ i h, h < n → it f i h < n
  | 0, _, hh => hh
  | i + 1, h, hh => p.lt _ (p.it_lt i h hh)
theorem PermOn.it_inj (p : PermOn f n) : ∀ i x y, x < n → y < n → it f i x = it f i y → x = y
  | 0, _, _, _, _, e => e
  | i + 1, x, y, hx, hy, e => p.it_inj i x y hx hy (p.inj _ _ (p.it_lt i x hx) (p.it_lt i y hy) e)
theorem pigeon : ∀ (n : Nat) (g : Nat → Nat), (∀ i, i ≤ n → g i < n) → ∃ i j, i < j ∧ j ≤ n ∧ g i = g j
  | 0, g, h => absurd (h 0 (Nat.le_refl _)) (Nat.not_lt_zero _)
  | n + 1, g, h => by
    by_cases c : ∃ i, i ≤ n ∧ g i = g (n + 1)
    · obtain ⟨i, hi, e⟩ := c
      exact ⟨i, n + 1, by omega, Nat.le_refl _, e⟩
    · have c' : ∀ i, i ≤ n → g i ≠ g (n + 1) := fun i hi e => c ⟨i, hi, e⟩
      have hn := h (n + 1) (Nat.le_refl _)
      obtain ⟨i, j, hij, hj, e⟩ := pigeon n (fun i => if g i = n then g (n + 1) else g i) (fun i hi => by
        show (if g i = n then g (n + 1) else g i) < n
        by_cases q : g i = n
        · rw [if_pos q]
          have := c' i hi
          omega
        · rw [if_neg q]
          have := h i (by omega)
          omega)
      refine ⟨i, j, hij, by omega, ?_⟩
      have e' : (if g i = n then g (n + 1) else g i) = (if g j = n then g (n + 1) else g j) := e
      have ci := c' i (by omega)
      have cj := c' j hj
      by_cases qi : g i = n
      · by_cases qj : g j = n
        · rw [qi, qj]
        · rw [if_pos qi, if_neg qj] at e'
          exact absurd e'.symm cj
      · by_cases qj : g j = n
        · rw [if_neg qi, if_pos qj] at e'
          exact absurd e' ci
        · rw [if_neg qi, if_neg qj] at e'
          exact e'
theorem least {P : Nat → Prop} : ∀ k, P k → ∃ m, P m ∧ m ≤ k ∧ ∀ j, j < m → ¬ P j := by
  intro k
  induction k using Nat.strongRecOn with
  | ind k ih =>
    intro hk
    by_cases c : ∃ j, j < k ∧ P j
    · obtain ⟨j, hj, pj⟩ := c
      obtain ⟨m, pm, hm, hl⟩ := ih j hj pj
      exact ⟨m, pm, by omega, hl⟩
    · exact ⟨k, hk, Nat.le_refl _, fun j hj pj => c ⟨j, hj, pj⟩⟩
/-- the round of h has k members -/
structure Per (f : Nat → Nat) (h k : Nat) : Prop where
  pos : 0 < k
  back : it f k h = h
  least : ∀ j, 0 < j → j < k → it f j h ≠ h
theorem PermOn.per (p : PermOn f n) {h : Nat} (hh : h < n) : ∃ k, k ≤ n ∧ Per f h k := by
  obtain ⟨i, j, hij, hj, e⟩ := pigeon n (fun i => it f i h) fun i _ => p.it_lt i h hh
  have e2 : it f i h = it f i (it f (j - i) h) := by
    rw [← it_add]
    have : i + (j - i) = j := by omega
    rw [this]
    exact e
  have e3 : it f (j - i) h = h := (p.it_inj i _ _ hh (p.it_lt _ h hh) e2).symm
  obtain ⟨m, ⟨pm, bm⟩, hm, hl⟩ := MM.least (P := fun k => 0 < k ∧ it f k h = h) (j - i) ⟨by omega, e3⟩
  exact ⟨m, by omega, pm, bm, fun j hj hjm e => hl j hjm ⟨hj, e⟩⟩
def cycGo (f : Nat → Nat) (h0 : Nat) : Nat → Nat → List Nat
  | 0, _ => []
  | k + 1, x => if x = h0 then [] else x :: cycGo f h0 k (f x)
def cyc (f : Nat → Nat) (n h : Nat) : List Nat := h :: cycGo f h n (f h)
theorem cycGo_per {h k : Nat} (p : Per f h k) : ∀ (m i fuel : Nat), i + m = k → 0 < i → m ≤ fuel → cycGo f h fuel (it f i h) = (List.range' i m).map (fun j => it f j h)
  | 0, i, fuel, e, _, _ => by
    have e' : it f i h = h := by
      have : i = k := by omega
      rw [this]
      exact p.back
    rw [e']
    cases fuel with
    | zero => rfl
    | succ q =>
      show (if h = h then [] else _) = _
      rw [if_pos rfl]
      rfl
  | m + 1, i, 0, _, _, hf => by omega
  | m + 1, i, fuel + 1, e, hi, hf => by
    show (if it f i h = h then [] else it f i h :: cycGo f h fuel (f (it f i h))) = _
    rw [if_neg (p.least i hi (by omega)), List.range'_succ, List.map_cons]
    have := cycGo_per p m (i + 1) fuel (by omega) (by omega) (by omega)
    rw [← this]
    rfl
theorem cyc_per {h k : Nat} (p : Per f h k) (hk : k ≤ n + 1) : cyc f n h = (List.range k).map (fun j => it f j h) := by
  have pp := p.pos
  obtain ⟨m, rfl⟩ : ∃ m, k = m + 1 := ⟨k - 1, by omega⟩
  rw [List.range_eq_range', List.range'_succ, List.map_cons]
  show h :: cycGo f h n (it f 1 h) = h :: _
  rw [cycGo_per p m 1 n (by omega) (by omega) (by omega)]
theorem Per.mul {h k : Nat} (p : Per f h k) : ∀ q, it f (k * q) h = h
  | 0 => rfl
  | q + 1 => by
    rw [Nat.mul_succ, it_add, p.back]
    exact p.mul q
theorem mem_cyc (p : PermOn f n) {h x : Nat} (hh : h < n) : x ∈ cyc f n h ↔ ∃ i, x = it f i h := by
  obtain ⟨k, hk, pk⟩ := p.per hh
  rw [cyc_per pk (by omega), List.mem_map]
  constructor
  · rintro ⟨j, _, rfl⟩
    exact ⟨j, rfl⟩
  · rintro ⟨i, rfl⟩
    refine ⟨i % k, List.mem_range.mpr (Nat.mod_lt _ pk.pos), ?_⟩
    have e : i = i % k + k * (i / k) := by
      have := Nat.mod_add_div i k
      omega
    show it f (i % k) h = it f i h
    have e2 : it f i h = it f (i % k + k * (i / k)) h := by rw [← e]
    rw [e2, it_add, pk.mul]
theorem it_back (p : PermOn f n) {h : Nat} (hh : h < n) (i : Nat) : ∃ j, h = it f j (it f i h) := by
  obtain ⟨k, hk, pk⟩ := p.per hh
  refine ⟨(k - 1) * i, ?_⟩
  rw [← it_add]
  have : (k - 1) * i + i = k * i := by
    have hp := pk.pos
    obtain ⟨m, rfl⟩ : ∃ m, k = m + 1 := ⟨k - 1, by omega⟩
    show m * i + i = (m + 1) * i
    rw [Nat.succ_mul]
  rw [this, pk.mul]
theorem cyc_lt (p : PermOn f n) {h x : Nat} (hh : h < n) (hx : x ∈ cyc f n h) : x < n := by
  obtain ⟨i, rfl⟩ := (mem_cyc p hh).mp hx
  exact p.it_lt i h hh
theorem cyc_symm (p : PermOn f n) {h x : Nat} (hh : h < n) (hx : x ∈ cyc f n h) : h ∈ cyc f n x := by
  have hl := cyc_lt p hh hx
  obtain ⟨i, rfl⟩ := (mem_cyc p hh).mp hx
  exact (mem_cyc p hl).mpr (it_back p hh i)
theorem cyc_trans (p : PermOn f n) {h x y : Nat} (hh : h < n) (hx : x ∈ cyc f n h) (hy : y ∈ cyc f n x) : y ∈ cyc f n h := by
  have hl := cyc_lt p hh hx
  obtain ⟨j, rfl⟩ := (mem_cyc p hl).mp hy
  obtain ⟨i, rfl⟩ := (mem_cyc p hh).mp hx
  exact (mem_cyc p hh).mpr ⟨j + i, (it_add f j i h).symm⟩
theorem cyc_self (h : Nat) : h ∈ cyc f n h := List.mem_cons_self
theorem cyc_len (p : PermOn f n) {h : Nat} (hh : h < n) : (cyc f n h).length ≤ n := by
  obtain ⟨k, hk, pk⟩ := p.per hh
  rw [cyc_per pk (by omega), List.length_map, List.length_range]
  exact hk
theorem cyc_nodup (p : PermOn f n) {h : Nat} (hh : h < n) : (cyc f n h).Nodup := by
  obtain ⟨k, hk, pk⟩ := p.per hh
  rw [cyc_per pk (by omega)]
  refine List.pairwise_map.mpr (List.Pairwise.imp_of_mem ?_ (List.pairwise_lt_range (n := k)))
  intro i j hi hj hij e
  have hj' := List.mem_range.mp hj
  have e2 : it f i h = it f i (it f (j - i) h) := by
    rw [← it_add]
    have : i + (j - i) = j := by omega
    rw [this]
    exact e
  exact pk.least (j - i) (by omega) (by omega) (p.it_inj i _ _ hh (p.it_lt _ h hh) e2).symm
theorem cyc_at (p : PermOn f n) {h i : Nat} (hh : h < n) (hi : i < (cyc f n h).length) : (cyc f n h)[i]? = some (it f i h) := by
  obtain ⟨k, hk, pk⟩ := p.per hh
  rw [cyc_per pk (by omega), List.length_map, List.length_range] at hi
  rw [cyc_per pk (by omega), List.getElem?_map, List.getElem?_range hi]
  rfl
theorem cyc_end (p : PermOn f n) {h : Nat} (hh : h < n) : it f (cyc f n h).length h = h := by
  obtain ⟨k, hk, pk⟩ := p.per hh
  rw [cyc_per pk (by omega), List.length_map, List.length_range]
  exact pk.back
/-! the rounds, each from its least member on -/
def isMin (f : Nat → Nat) (n h : Nat) : Bool := (cyc f n h).all fun x => decide (h ≤ x)
def rnds (f : Nat → Nat) (n : Nat) : Nat → List (List Nat)
  | 0 => []
  | m + 1 => rnds f n m ++ (if isMin f n m = true then [cyc f n m] else [])
theorem isMin_iff {h : Nat} : isMin f n h = true ↔ ∀ x ∈ cyc f n h, h ≤ x := by
  unfold isMin
  rw [List.all_eq_true]
  exact ⟨fun q x hx => of_decide_eq_true (q x hx), fun q x hx => decide_eq_true (q x hx)⟩
theorem mem_rnds {c : List Nat} : ∀ m, c ∈ rnds f n m ↔ ∃ g, g < m ∧ isMin f n g = true ∧ c = cyc f n g
  | 0 => by
    constructor
    · intro h; cases h
    · rintro ⟨g, hg, _⟩; omega
  | m + 1 => by
    show c ∈ rnds f n m ++ (if isMin f n m = true then [cyc f n m] else []) ↔ _
    rw [List.mem_append, mem_rnds m]
    constructor
    · rintro (⟨g, hg, r⟩ | h)
      · exact ⟨g, by omega, r⟩
      · by_cases q : isMin f n m = true
        · rw [if_pos q] at h
          exact ⟨m, by omega, q, List.mem_singleton.mp h⟩
        · rw [if_neg q] at h
          cases h
    · rintro ⟨g, hg, q, e⟩
      by_cases hm : g = m
      · subst hm
        right
        rw [if_pos q]
        exact List.mem_singleton.mpr e
      · exact .inl ⟨g, by omega, q, e⟩
theorem mem_flat {x m : Nat} : x ∈ (rnds f n m).flatten ↔ ∃ g, g < m ∧ isMin f n g = true ∧ x ∈ cyc f n g := by
  rw [List.mem_flatten]
  constructor
  · rintro ⟨c, hc, hx⟩
    obtain ⟨g, hg, q, rfl⟩ := (mem_rnds m).mp hc
    exact ⟨g, hg, q, hx⟩
  · rintro ⟨g, hg, q, hx⟩
    exact ⟨_, (mem_rnds m).mpr ⟨g, hg, q, rfl⟩, hx⟩
theorem has_min (p : PermOn f n) {h : Nat} (hh : h < n) : ∃ g, g ≤ h ∧ g ∈ cyc f n h ∧ isMin f n g = true := by
  obtain ⟨g, hg, hl, hm⟩ := MM.least (P := fun x => x ∈ cyc f n h) h (cyc_self h)
  refine ⟨g, hl, hg, isMin_iff.mpr fun x hx => ?_⟩
  have hx' := cyc_trans p hh hg hx
  exact Nat.le_of_not_lt fun z => hm x z hx'
theorem not_min_in (p : PermOn f n) {h : Nat} (hh : h < n) (q : isMin f n h = false) : h ∈ (rnds f n h).flatten := by
  obtain ⟨g, hg, hm, hq⟩ := has_min p hh
  have hne : g ≠ h := fun e => by rw [e, q] at hq; cases hq
  exact mem_flat.mpr ⟨g, by omega, hq, cyc_symm p hh hm⟩
theorem min_out (p : PermOn f n) {h x : Nat} (hh : h < n) (q : isMin f n h = true) (hx : x ∈ cyc f n h) : x ∉ (rnds f n h).flatten := fun hf => by
  obtain ⟨g, hg, hgm, hxg⟩ := mem_flat.mp hf
  have h1 : g ∈ cyc f n x := cyc_symm p (by omega) hxg
  have := isMin_iff.mp q g (cyc_trans p hh hx h1)
  omega
theorem rnds_len : ∀ m, (rnds f n m).length ≤ m
  | 0 => Nat.le_refl _
  | m + 1 => by
    show (rnds f n m ++ (if isMin f n m = true then [cyc f n m] else [])).length ≤ m + 1
    rw [List.length_append]
    have := rnds_len m
    by_cases q : isMin f n m = true
    · rw [if_pos q]; show _ + 1 ≤ _; omega
    · rw [if_neg q]; show _ + 0 ≤ _; omega
theorem rnds_each (p : PermOn f n) {m : Nat} (hm : m ≤ n) {c : List Nat} (hc : c ∈ rnds f n m) : c.length ≤ n ∧ 0 < c.length := by
  obtain ⟨g, hg, _, rfl⟩ := (mem_rnds m).mp hc
  exact ⟨cyc_len p (by omega), Nat.succ_pos _⟩
theorem rnds_nodup (p : PermOn f n) : ∀ m, m ≤ n → (rnds f n m).flatten.Nodup
  | 0, _ => List.nodup_nil
  | m + 1, hm => by
    show (rnds f n m ++ (if isMin f n m = true then [cyc f n m] else [])).flatten.Nodup
    by_cases q : isMin f n m = true
    · rw [if_pos q, List.flatten_append]
      refine List.nodup_append.mpr ⟨rnds_nodup p m (by omega), ?_, ?_⟩
      · simpa using cyc_nodup p (show m < n by omega)
      · intro x hx y hy e
        subst e
        have hy' : x ∈ cyc f n m := by simpa using hy
        exact min_out p (by omega) q hy' hx
    · rw [if_neg q, List.append_nil]
      exact rnds_nodup p m (by omega)
end
theorem perm_erase {α : Type} : ∀ (l : List α) (i : Nat) (h : i < l.length), (l[i] :: l.eraseIdx i).Perm l
  | a :: l, 0, _ => List.Perm.refl _
  | a :: l, i + 1, h => by
    have hi : i < l.length := Nat.lt_of_succ_lt_succ h
    show (l[i]'hi :: a :: l.eraseIdx i).Perm (a :: l)
    exact (List.Perm.swap a _ _).trans (List.Perm.cons a (perm_erase l i hi))
/-! meshes as lists of next halves -/
def fn (st : List Nat) (x : Nat) : Nat := st.getD x 0
def tw (h : Nat) : Nat := if h % 2 = 0 then h + 1 else h - 1
def inv (ns : List Nat) : List Nat := (List.range ns.length).map fun h => ns.idxOf h
def stp (ns : List Nat) (b : Bool) : List Nat := if b = true then ns else (inv ns).map tw
structure IsMesh (ns : List Nat) : Prop where
  perm : ns.Perm (List.range ns.length)
  even : ns.length % 2 = 0
theorem tw_tw (h : Nat) : tw (tw h) = h := by
  unfold tw
  by_cases q : h % 2 = 0
  · rw [if_pos q, if_neg (by omega)]; omega
  · rw [if_neg q, if_pos (by omega)]; omega
theorem tw_inj {a b : Nat} (e : tw a = tw b) : a = b := by rw [← tw_tw a, e, tw_tw]
theorem tw_lt {h n : Nat} (hn : n % 2 = 0) (hh : h < n) : tw h < n := by
  unfold tw
  by_cases q : h % 2 = 0
  · rw [if_pos q]; omega
  · rw [if_neg q]; omega
theorem fn_at {st : List Nat} {x : Nat} (h : x < st.length) : st[x]? = some (fn st x) := by
  unfold fn
  rw [List.getD_eq_getElem?_getD, List.getElem?_eq_getElem h]
  rfl
section
variable {ns : List Nat}
theorem IsMesh.lt (m : IsMesh ns) {x : Nat} (h : x ∈ ns) : x < ns.length := List.mem_range.mp (m.perm.mem_iff.mp h)
theorem IsMesh.mem (m : IsMesh ns) {x : Nat} (h : x < ns.length) : x ∈ ns := m.perm.mem_iff.mpr (List.mem_range.mpr h)
theorem IsMesh.nodup (m : IsMesh ns) : ns.Nodup := m.perm.nodup_iff.mpr List.nodup_range
theorem fn_mem {st : List Nat} {x : Nat} (h : x < st.length) : fn st x ∈ st := List.mem_of_getElem? (fn_at h)
theorem IsMesh.fnp (m : IsMesh ns) : PermOn (fn ns) ns.length where
  lt := fun x hx => m.lt (fn_mem hx)
  inj := fun x y hx hy e => by
    have h1 := fn_at hx
    have h2 := fn_at hy
    rw [e, ← h2] at h1
    exact (List.getElem?_inj hx m.nodup).mp h1
theorem inv_len : (inv ns).length = ns.length := by unfold inv; rw [List.length_map, List.length_range]
theorem idx_lt {x : Nat} (h : x ∈ ns) : ns.idxOf x < ns.length := List.idxOf_lt_length_iff.mpr h
theorem idx_at {x : Nat} (h : x ∈ ns) : ns[ns.idxOf x]? = some x := by
  rw [List.getElem?_eq_getElem (idx_lt h), List.getElem_idxOf (idx_lt h)]
theorem inv_at {x : Nat} (h : x < ns.length) : (inv ns)[x]? = some (ns.idxOf x) := by
  unfold inv
  rw [List.getElem?_map, List.getElem?_range h]
  rfl
theorem fn_inv {x : Nat} (h : x < ns.length) : fn (inv ns) x = ns.idxOf x := by
  have := fn_at (st := inv ns) (x := x) (by rw [inv_len]; exact h)
  rw [inv_at h] at this
  exact (Option.some.inj this).symm
theorem IsMesh.idx_inj (m : IsMesh ns) {x y : Nat} (hx : x ∈ ns) (hy : y ∈ ns) (e : ns.idxOf x = ns.idxOf y) : x = y := by
  have h1 := idx_at hx
  have h2 := idx_at hy
  rw [e, h2] at h1
  exact (Option.some.inj h1).symm
theorem stp_len (b : Bool) : (stp ns b).length = ns.length := by
  cases b
  · show ((inv ns).map tw).length = _
    rw [List.length_map, inv_len]
  · rfl
theorem stp_at {x : Nat} (h : x < ns.length) : (stp ns false)[x]? = some (tw (ns.idxOf x)) := by
  show ((inv ns).map tw)[x]? = _
  rw [List.getElem?_map, inv_at h]
  rfl
theorem fn_stp {x : Nat} (h : x < ns.length) : fn (stp ns false) x = tw (ns.idxOf x) := by
  have := fn_at (st := stp ns false) (x := x) (by rw [stp_len]; exact h)
  rw [stp_at h] at this
  exact (Option.some.inj this).symm
theorem IsMesh.stp (m : IsMesh ns) (b : Bool) : PermOn (fn (stp ns b)) ns.length := by
  cases b
  · refine ⟨fun x hx => ?_, fun x y hx hy e => ?_⟩
    · rw [fn_stp hx]
      exact tw_lt m.even (idx_lt (m.mem hx))
    · rw [fn_stp hx, fn_stp hy] at e
      exact m.idx_inj (m.mem hx) (m.mem hy) (tw_inj e)
  · exact m.fnp
end
end MM

namespace Pf
open PySem PySem.Spec PyProof.Rows L2
theorem sq {K : PySem.W.Frag} {H : Hp} {a : Addr} {xs : List V} (h : H a = some (.lst xs)) : SqL K H a xs := .inl (.inl h)
theorem st {K : PySem.W.Frag} {H : Hp} {a : Addr} {xs : List V} (h : H a = some (.tup xs)) : SqT K H a xs := .inl (.inl h)
theorem szl {n : Nat} (h : n ≤ 100000) : n ≤ sizeLine := Nat.le_trans h (by decide)
theorem szt {n : Nat} (h : n < 100000) : n < sizeLine := Nat.lt_of_lt_of_le h (by decide)
abbrev vn (n : Nat) : V := .int (n : Int)
def vns (l : List Nat) : List V := l.map vn
theorem vns_len (l : List Nat) : (vns l).length = l.length := List.length_map _
theorem vns_int (l : List Nat) : vns l = (l.map (fun n : Nat => (n : Int))).map V.int := by
  unfold vns
  rw [List.map_map]
  rfl
theorem vns_at {l : List Nat} {i x : Nat} (h : l[i]? = some x) : (vns l)[i]? = some (vn x) := by
  unfold vns
  rw [List.getElem?_map, h]
  rfl
theorem vns_app (l m : List Nat) : vns (l ++ m) = vns l ++ vns m := List.map_append
theorem of_vns {l : List Nat} {i : Nat} {x : V} (h : (vns l)[i]? = some x) : ∃ n, l[i]? = some n ∧ x = vn n := by
  unfold vns at h
  rw [List.getElem?_map] at h
  cases e : l[i]? with
  | none => rw [e] at h; cases h
  | some n => rw [e] at h; exact ⟨n, rfl, (Option.some.inj h).symm⟩
theorem at_n {xs : List V} {j : Nat} {v : V} (h : xs[j]? = some v) : atI xs ((j : Nat) : Int) = some v := atI_nat h
theorem ix_n {n j : Nat} (h : j < n) : ixN n ((j : Nat) : Int) = some j := by
  unfold ixN
  rw [if_pos (by omega), if_pos (by omega), Int.toNat_natCast]
/-! cuts -/
theorem cut_to (xs : List V) (k : Nat) : cutV xs none (some (k : Int)) = xs.take k := by
  unfold cutV
  rw [HT.sIx_none, HT.sIx_nat]
  show List.take (min k xs.length - 0) xs = _
  rw [Nat.sub_zero]
  by_cases h : k ≤ xs.length
  · rw [Nat.min_eq_left h]
  · rw [Nat.min_eq_right (by omega), List.take_length, List.take_of_length_le (by omega)]
theorem cut_from (xs : List V) (k : Nat) : cutV xs (some (k : Int)) none = xs.drop k := by
  unfold cutV
  rw [HT.sIx_none, HT.sIx_nat]
  by_cases h : k ≤ xs.length
  · rw [Nat.min_eq_left h]
    exact List.take_of_length_le (by rw [List.length_drop]; exact Nat.le_refl _)
  · rw [Nat.min_eq_right (by omega), List.drop_of_length_le (Nat.le_refl _), List.drop_of_length_le (by omega), List.take_nil]
/-! data -/
def dI (l : List Int) : PyData := .list (l.map PyData.int)
def dN (l : List Nat) : PyData := dI (l.map fun n : Nat => (n : Int))
def dLL (l : List (List Nat)) : PyData := .list (l.map dN)
theorem eqv_ints : ∀ l m : List Int, PyData.eqvAll (l.map PyData.int) (m.map PyData.int) = decide (l = m)
  | [], [] => by simp [PyData.eqvAll]
  | [], _ :: _ => by simp [PyData.eqvAll]
  | _ :: _, [] => by simp [PyData.eqvAll]
  | a :: l, b :: m => by
    simp only [List.map_cons, PyData.eqvAll, PyData.eqv, eqv_ints l m]
    by_cases e : a = b
    · subst e; simp
    · simp [e]
theorem eqv_dI (l m : List Int) : PyData.eqv (dI l) (dI m) = decide (l = m) := by
  unfold dI
  rw [PyData.eqv]
  exact eqv_ints l m
theorem map_nat_inj : ∀ {l m : List Nat}, l.map (fun n : Nat => (n : Int)) = m.map (fun n : Nat => (n : Int)) → l = m
  | [], [], _ => rfl
  | [], _ :: _, h => by cases h
  | _ :: _, [], h => by cases h
  | a :: l, b :: m, h => by
    rw [List.map_cons, List.map_cons, List.cons.injEq] at h
    rw [map_nat_inj h.2, Int.ofNat.inj h.1]
theorem eqv_dN (l m : List Nat) : PyData.eqv (dN l) (dN m) = decide (l = m) := by
  unfold dN
  rw [eqv_dI]
  by_cases e : l = m
  · rw [decide_eq_true e, e, decide_eq_true rfl]
  · rw [decide_eq_false e, decide_eq_false fun z => e (map_nat_inj z)]
theorem eqv_lls : ∀ l m : List (List Nat), PyData.eqvAll (l.map dN) (m.map dN) = decide (l = m)
  | [], [] => by simp [PyData.eqvAll]
  | [], _ :: _ => by simp [PyData.eqvAll]
  | _ :: _, [] => by simp [PyData.eqvAll]
  | a :: l, b :: m => by
    simp only [List.map_cons, PyData.eqvAll, eqv_dN, eqv_lls l m]
    by_cases e : a = b
    · subst e; simp
    · simp [e]
theorem eqv_dLL (l m : List (List Nat)) : PyData.eqv (dLL l) (dLL m) = decide (l = m) := by
  unfold dLL
  rw [PyData.eqv]
  exact eqv_lls l m
theorem lay_ints : ∀ l : List Int, PyData.canLayAll0 (l.map PyData.int) = true
  | [] => by simp [PyData.canLayAll0]
  | a :: l => by simp [PyData.canLayAll0, PyData.canLay0, lay_ints l]
theorem dep_ints : ∀ l : List Int, PyData.depthAll (l.map PyData.int) = 0
  | [] => by simp [PyData.depthAll]
  | a :: l => by simp [PyData.depthAll, PyData.depth, dep_ints l]
theorem sh_dI (l : List Int) : SeqAt.shaped (dI l) = true := by
  unfold SeqAt.shaped dI
  rw [PyData.canLay0, PyData.depth, lay_ints, dep_ints]
  rfl
theorem sh_dN (l : List Nat) : SeqAt.shaped (dN l) = true := sh_dI _
theorem lay_dN (l : List Nat) : PyData.canLay0 (dN l) = true := by
  unfold dN dI
  rw [PyData.canLay0]
  exact lay_ints _
theorem dep_dN (l : List Nat) : PyData.depth (dN l) = 1 := by
  unfold dN dI
  rw [PyData.depth, dep_ints]
theorem lay_lls : ∀ l : List (List Nat), PyData.canLayAll0 (l.map dN) = true
  | [] => by simp [PyData.canLayAll0]
  | a :: l => by simp [PyData.canLayAll0, lay_dN, lay_lls l]
theorem dep_lls : ∀ l : List (List Nat), PyData.depthAll (l.map dN) ≤ 1
  | [] => by simp [PyData.depthAll]
  | a :: l => by
    have := dep_lls l
    simp only [List.map_cons, PyData.depthAll, dep_dN]
    omega
theorem sh_dLL (l : List (List Nat)) : SeqAt.shaped (dLL l) = true := by
  unfold SeqAt.shaped dLL
  rw [PyData.canLay0, PyData.depth, lay_lls]
  have := dep_lls l
  simp
  omega
theorem dp_ints {K : PySem.W.Frag} {H : Hp} : ∀ l : List Int, DpAll K H (l.map V.int) (l.map PyData.int)
  | [] => .nil
  | a :: l => .cons (.int a) (dp_ints l)
theorem dp_I {K : PySem.W.Frag} {H : Hp} {a : Addr} {l : List Int} (h : SqL K H a (l.map V.int)) : Dp K H (.ref a) (dI l) := .lst h (dp_ints l)
theorem dp_N {K : PySem.W.Frag} {H : Hp} {a : Addr} {l : List Nat} (h : SqL K H a (vns l)) : Dp K H (.ref a) (dN l) := by
  rw [vns_int] at h
  exact dp_I h
/-- a list of lists of numbers, at p, its lists at ps -/
structure LL (H : Hp) (p : Addr) (ps : List Addr) (xss : List (List Nat)) : Prop where
  top : H p = some (.lst (ps.map V.ref))
  each : Paired (fun q xs => H q = some (.lst (vns xs))) ps xss
theorem paired_imp {α β : Type} {F G : α → β → Prop} (k : ∀ a b, F a b → G a b) : ∀ {l : List α} {m : List β}, Paired F l m → Paired G l m
  | _, _, .nil => .nil
  | _, _, .cons r t => .cons (k _ _ r) (paired_imp k t)
theorem LL.same {H H' : Hp} {p : Addr} {ps : List Addr} {xss : List (List Nat)} (h : LL H p ps xss) (s : Same H H') : LL H' p ps xss := ⟨s _ _ h.top, paired_imp (fun _ _ e => s _ _ e) h.each⟩
theorem dp_all {K : PySem.W.Frag} {H : Hp} : ∀ {ps : List Addr} {xss : List (List Nat)}, Paired (fun q xs => H q = some (.lst (vns xs))) ps xss → DpAll K H (ps.map V.ref) (xss.map dN)
  | _, _, .nil => .nil
  | _, _, .cons r t => .cons (dp_N (sq r)) (dp_all t)
theorem dp_LL {K : PySem.W.Frag} {H : Hp} {p : Addr} {ps : List Addr} {xss : List (List Nat)} (h : LL H p ps xss) : Dp K H (.ref p) (dLL xss) := .lst (sq h.top) (dp_all h.each)
theorem paired_app {α β : Type} {F : α → β → Prop} : ∀ {l l' : List α} {m m' : List β}, Paired F l m → Paired F l' m' → Paired F (l ++ l') (m ++ m')
  | _, _, _, _, .nil, s => s
  | _, _, _, _, .cons r t, s => .cons r (paired_app t s)
theorem paired_len {α β : Type} {F : α → β → Prop} : ∀ {l : List α} {m : List β}, Paired F l m → l.length = m.length
  | _, _, .nil => rfl
  | _, _, .cons _ t => by rw [List.length_cons, List.length_cons, paired_len t]
theorem paired_mem {α β : Type} {F : α → β → Prop} : ∀ {l : List α} {m : List β}, Paired F l m → ∀ a ∈ l, ∃ b ∈ m, F a b
  | _, _, .nil, _, h => by cases h
  | _, _, .cons (a := x) (b := y) r t, a, h => by
    rcases List.mem_cons.mp h with rfl | h
    · exact ⟨y, List.mem_cons_self, r⟩
    · obtain ⟨b, hb, f⟩ := paired_mem t a h
      exact ⟨b, List.mem_cons_of_mem _ hb, f⟩
theorem paired_upd {H : Hp} {p : Addr} {o : HO} : ∀ {l : List Addr} {m : List (List Nat)}, Paired (fun q xs => H q = some (.lst (vns xs))) l m → (∀ x ∈ l, x ≠ p) → Paired (fun q xs => (upd H p o) q = some (.lst (vns xs))) l m
  | _, _, .nil, _ => .nil
  | _, _, .cons r t, h => .cons (by rw [upd_ne (h _ List.mem_cons_self)]; exact r) (paired_upd t fun x hx => h x (List.mem_cons_of_mem _ hx))
theorem same_but {H H' : Hp} {p : Addr} {o : HO} (h : Same H H') (hp : H p = none) : Same H (upd H' p o) := RD.same_mut h hp
/-- all but what stands at a is as it was -/
def SameX (a : Addr) (H H' : Hp) : Prop := ∀ b o, H b = some o → b ≠ a → H' b = some o
theorem SameX.refl (a : Addr) (H : Hp) : SameX a H H := fun _ _ h _ => h
theorem SameX.trans {a : Addr} {H H1 H2 : Hp} (x : SameX a H H1) (y : SameX a H1 H2) : SameX a H H2 := fun b o h hb => y b o (x b o h hb) hb
theorem Same.x {a : Addr} {H H1 : Hp} (x : Same H H1) : SameX a H H1 := fun b o h _ => x b o h
theorem SameX.put {a : Addr} {H H1 : Hp} {o : HO} (x : SameX a H H1) : SameX a H (upd H1 a o) := fun b u h hb => by rw [upd_ne hb]; exact x b u h hb
theorem SameX.same {a : Addr} {H H1 : Hp} (x : SameX a H H1) (h : H a = none) : Same H H1 := fun b o e => x b o e (ne_of_none e h)
theorem SameX.mut {a : Addr} {H H' : Hp} {p : Addr} {o : HO} (e : SameX a H H') (h : H p = none) : SameX a H (upd H' p o) := fun b u hb hn => by
  rw [upd_ne (ne_of_none hb h)]
  exact e b u hb hn
theorem SameX.free {a : Addr} {H H' : Hp} (e : SameX a H H') {l : Addr} (h : H' l = Option.none) (hl : l ≠ a) : H l = Option.none := by
  cases q : H l with
  | none => rfl
  | some o =>
    rw [e l o q hl] at h
    cases h
theorem SameX.under {t : Addr} {H H1 H2 : Hp} (x : SameX t H1 H2) (s : Same H H1) (n : H t = none) : Same H H2 := fun b o e => x b o (s b o e) (ne_of_none e n)
theorem same_not {H H' : Hp} {p q : Addr} {o : HO} (_ : Same H H') (e : H p = some o) (n : H q = none) : p ≠ q := ne_of_none e n
end Pf

namespace RD
open PySem PySem.Spec PyProof.Rows L2
section
variable {σ : L2.St} {H : Hp} {Q : VK} {a b : Addr} {xs zs : List V}
theorem pop {y : V} (h : H a = some (.lst (xs ++ [y]))) (q : Q y (upd H a (.lst xs))) : rPop (.ref a) [] H Q := ⟨a, xs ++ [y], y, rfl, rfl, h, by simp, by rw [List.dropLast_concat]; exact q⟩
theorem ext (h : H a = some (.lst xs)) (h' : H b = some (.lst zs)) (hl : xs.length + zs.length ≤ sizeLine) (q : Q .non (upd H a (.lst (xs ++ zs)))) : rExtend (.ref a) [.ref b] H Q := ⟨a, b, xs, zs, rfl, rfl, h, h', hl, q⟩
theorem prop {C : Addr} {sp : Sp} {dvs : List V} {E : XK} {ta : TE} (h : ta σ H fun x H1 => ∃ a dx fs, x = .ref a ∧ H1 a = some (.ins C dx fs) ∧ sp (.ref a :: dvs) H1 Q E) : tProp C sp dvs E ta σ H Q := h
theorem min3 {i j k : Nat} (q : Q (.int ((min (min i j) k : Nat) : Int)) H) : rNuC3 nuMin3 [.int (i : Int), .int (j : Int), .int (k : Int)] H Q := by
  refine ⟨_, _, _, _, rfl, ?_, q⟩
  show (Option.map _ (some (decide ((j : Int) < (i : Int))))).bind _ = _
  show nuMin2 (if decide ((j : Int) < (i : Int)) = true then V.int j else V.int i) (.int k) = _
  by_cases h : (j : Int) < (i : Int)
  · rw [if_pos (decide_eq_true h)]
    show some (if decide ((k : Int) < (j : Int)) = true then V.int k else V.int j) = _
    by_cases h2 : (k : Int) < (j : Int)
    · rw [if_pos (decide_eq_true h2)]
      congr 2
      omega
    · rw [if_neg (by rw [decide_eq_false h2]; exact Bool.false_ne_true)]
      congr 2
      omega
  · rw [if_neg (by rw [decide_eq_false h]; exact Bool.false_ne_true)]
    show some (if decide ((k : Int) < (i : Int)) = true then V.int k else V.int i) = _
    by_cases h2 : (k : Int) < (i : Int)
    · rw [if_pos (decide_eq_true h2)]
      congr 2
      omega
    · rw [if_neg (by rw [decide_eq_false h2]; exact Bool.false_ne_true)]
      congr 2
      omega
/-- a comprehension over a list of objects, each with its datum -/
theorem lcP {K : PySem.W.Frag} {te : TE} {g : TG} {tt : TT} {vs : List Nat} {qs : List Addr} {β : Type} (ds : List β) (hq : SqL K H a (qs.map V.ref)) (hl : qs.length = ds.length) (hsz : qs.length ≤ sizeLine) (p : β → Bool) (f : β → V)
    (turn : ∀ (i : Nat) c d H1 (Q' : VK) (R' : Hp → Prop), qs[i]? = some c → ds[i]? = some d → Same H H1 → (p d = true → ∀ H4, Same H1 H4 → Q' (f d) H4) → (p d = false → ∀ H4, Same H1 H4 → R' H4) →
      g (.ref c) (wipe σ vs) H1 fun σ2 H3 => wipe σ2 vs = wipe σ vs ∧ tt σ2 H3 fun b H5 => if b = true then te σ2 H5 Q' else R' H5)
    (hd : ∀ H' q, H q = none → Same H H' → H' q = some (.lst (pick p f ds)) → Q (.ref q) H') :
    ∃ a', V.ref a = .ref a' ∧ (∃ ys, SqL K H a' ys) ∧ LR (Itl K a') g tt te vs σ H Q := by
  refine ⟨a, rfl, ⟨_, hq⟩, lcAny (walk_list (K := K) (a := a) (xs := qs.map V.ref)) ds (by rw [List.length_map]; exact hl.symm) (by rw [List.length_map]; exact hsz) p f hq (fun H' s => s.seq hq) (fun i H1 x H2 s y => ?_) (fun i b x H1 H2 Q' R' hb s y kT kF => ?_) hd⟩
  · obtain ⟨rfl, _⟩ := y
    exact Same.refl _
  · obtain ⟨rfl, y⟩ := y
    rw [List.getElem?_map] at y
    cases e : qs[i]? with
    | none => rw [e] at y; cases y
    | some c =>
      rw [e] at y
      cases y
      exact turn i c b _ Q' R' e hb s kT kF
/-- [a new list of numbers for each item] -/
theorem lcN {K : PySem.W.Frag} {te : TE} {g : TG} {tt : TT} {vs : List Nat} {β : Type} (ds : List β) (v : β → V) (F : β → List Nat) (hq : SqL K H a (ds.map v)) (hsz : ds.length ≤ 100000)
    (turn : ∀ (i : Nat) d H1 (Q' : VK) (R' : Hp → Prop), ds[i]? = some d → Same H H1 → (∀ H4 c, Same H1 H4 → H1 c = none → H4 c = some (.lst (Pf.vns (F d))) → Q' (.ref c) H4) →
      g (v d) (wipe σ vs) H1 fun σ2 H3 => wipe σ2 vs = wipe σ vs ∧ tt σ2 H3 fun b H5 => if b = true then te σ2 H5 Q' else R' H5)
    (hd : ∀ H' q qs, H q = none → Same H H' → (∀ x ∈ qs, H x = none ∧ x ≠ q) → Pf.LL H' q qs (ds.map F) → Q (.ref q) H') :
    ∃ a', V.ref a = .ref a' ∧ (∃ ys, SqL K H a' ys) ∧ LR (Itl K a') g tt te vs σ H Q := by
  refine ⟨a, rfl, ⟨_, hq⟩, ?_⟩
  intro D hD
  refine lc_it (walk_list (K := K) (a := a) (xs := ds.map v)) (fun i H1 => Same H H1 ∧ ∃ qs, (∀ x ∈ qs, H x = none ∧ x ≠ D) ∧ Pf.LL H1 D qs ((ds.take i).map F)) ⟨same_new hD, [], (fun x hx => nomatch hx), upd_same, .nil⟩ (fun i H1 _ hp => hp.1.seq hq) (fun i x H1 H2 hi hp y => ?_) (fun H1 hp => ?_)
  · obtain ⟨rfl, y⟩ := y
    obtain ⟨s1, qs, hqs, ll⟩ := hp
    rw [List.length_map] at hi
    have ga : ds[i]? = some ds[i] := List.getElem?_eq_getElem hi
    rw [List.getElem?_map, ga] at y
    cases y
    refine turn i ds[i] _ _ _ ga s1 fun H4 c s4 nc ec => ?_
    have ll4 := ll.same s4
    have hlen := Pf.paired_len ll4.each
    rw [List.length_map, List.length_take] at hlen
    have Dc : D ≠ c := ne_of_none ll.top nc
    refine ⟨_, ll4.top, by rw [List.length_map]; exact Pf.szt (by omega), same_mut (s1.trans s4) hD, qs ++ [c], fun x hx => ?_, by rw [upd_same, List.map_append]; rfl, ?_⟩
    · rcases List.mem_append.mp hx with hx | hx
      · exact hqs x hx
      · rw [List.mem_singleton.mp hx]
        exact ⟨s1.free nc, Dc.symm⟩
    · rw [take_one ga, List.map_append]
      refine Pf.paired_app (Pf.paired_upd ll4.each fun x hx => (hqs x hx).2) (.cons ?_ .nil)
      rw [upd_ne Dc.symm]
      exact ec
  · obtain ⟨s1, qs, hqs, ll⟩ := hp
    rw [List.length_map, List.take_length] at ll
    exact hd H1 D qs hD s1 hqs ll
theorem ipi {f : Int → Int → Int} {i j : Int} (q : Q (.int (f i j)) H) : ipI f (.int i) (.int j) H Q := ⟨i, j, rfl, rfl, q⟩
theorem slT {K : PySem.W.Frag} {lo hi : Option Int} (h : SqT K H a xs) (hn : ¬ (HT.sIx xs.length 0 lo = 0 ∧ HT.sIx xs.length xs.length hi = xs.length)) (q : ∀ p, H p = none → Q (.ref p) (upd H p (.tup (cutV xs lo hi)))) : rSlT K (.ref a) lo hi H Q := ⟨a, xs, rfl, h, hn, q⟩
theorem lenO {C : Addr} {sp : Sp} {E : XK} {dx : Addr} {fs : List (Str × V)} (h : H a = some (.ins C dx fs)) (q : sp [.ref a] H (fun v H' => ∃ z : Int, v = .int z ∧ 0 ≤ z ∧ z < 2 ^ 63 ∧ Q (.int z) H') E) : rLenOwn C sp E [.ref a] H Q := ⟨a, dx, fs, rfl, h, q⟩
end
end RD
namespace Pf
open PySem PySem.Spec PyProof.Rows L2
theorem paired_at {α β : Type} {F : α → β → Prop} : ∀ {l : List α} {m : List β}, Paired F l m → ∀ {i : Nat} {a : α} {b : β}, l[i]? = some a → m[i]? = some b → F a b
  | _, _, .nil, i, a, b, h, _ => by cases h
  | _, _, .cons r t, 0, a, b, h, h' => by
    cases h
    cases h'
    exact r
  | _, _, .cons r t, i + 1, a, b, h, h' => paired_at t (by simpa using h) (by simpa using h')
theorem inV_vns (x : Nat) (l : List Nat) : inV (vn x) (vns l) = decide (x ∈ l) := by
  unfold vns
  induction l with
  | nil => simp [inV]
  | cons y r ih =>
    show (((y : Int) == (x : Int)) || inV (vn x) (r.map vn)) = _
    rw [ih]
    by_cases e : x = y
    · subst e; simp
    · have : ((y : Int) == (x : Int)) = false := by
        rw [beq_eq_false_iff_ne]
        intro z
        exact e (Int.ofNat.inj z).symm
      rw [this, Bool.false_or]
      simp [e]
theorem flat_vns (l : List Nat) : (vns l).all flatV = true := by
  unfold vns
  rw [List.all_map]
  exact List.all_eq_true.mpr fun _ _ => rfl
end Pf

namespace RD
open PySem PySem.Spec PyProof.Rows L2 PySem.W
/-! several clauses, each with a name for the error -/
def wManyA (K : PySem.W.Frag) (i : Nat) (Wo : WX) (D : Ends) : List (Value × (Addr → Value → Option Addr → TS)) → WX
  | [] => Wo
  | (c, ts) :: r => fun cls d σ H => ∃ b, PySem.W.exmOne K cls c = some b ∧ (b = true → ∀ a, H a = none → ts a cls d ⟨fun σ' H' => D.nx (σ'.set i none) H', D.rt, fun σ' H' => D.bk (σ'.set i none) H', fun σ' H' => D.ct (σ'.set i none) H'⟩ (σ.set i (some (.ref a))) H) ∧ (b = false → wManyA K i Wo D r cls d σ H)
inductive HdsA (X : Cx) (n : Str) : List ExceptHandler → List (Value × (Addr → Value → Option Addr → TS)) → Prop
  | nil : HdsA X n [] []
  | cons {x : Str} {c : Value} {ts : Addr → Value → Option Addr → TS} {b0 : Stmt} {suite : List Stmt} {np pos' : Pos} {hs : List ExceptHandler} {l : List (Value × (Addr → Value → Option Addr → TS))} (hc : Names X x c)
      (su : ∀ (a : Addr) (oe : Obj) (cls : Value) (d : Option Addr) (pn : List (Addr × Obj)), Zc cls d oe → (∃ vs, oe.data = .fields vs) → PSs (X.suite a ((a, oe) :: pn)) (b0 :: suite) (ts a cls d)) (r : HdsA X n hs l) :
      HdsA X n (.ExceptHandler (some (.Name x np)) (some n) (b0 :: suite) pos' :: hs) ((c, ts) :: l)
section
variable {X : Cx} {body : List Stmt} {h0 : ExceptHandler} {hds : List ExceptHandler} {l : List (Value × (Addr → Value → Option Addr → TS))} {pos : Pos} {tb : WX → TS} {Wo : WX} {n : Str} {i : Nat}
theorem ps_try_manyA (hs : X.stack = X.env :: X.outer) (hf : X.env.frame = some X.env.locals) (hN : X.N.Nodup) (hi : X.N[i]? = some n) (hln : X.env.kindOf n = some .local) (tk : Takes X Wo)
    (hb : ∀ (W : WX) (pn : List (Addr × Obj)) (xe : Value → Shared → Prop), Takes (X.tr pn xe) W → PassesOwn (model X.prog X.w) X.A X.env xe → PSs (X.tr pn xe) body (tb W))
    (hh : HdsA X n (h0 :: hds) l) : PS X (.Try body (h0 :: hds) [] [] pos) (fun D σ H => tb (wManyA X.K i Wo D l) D σ H) := by
  refine ⟨fun pins s σ H D I hw => ?_⟩
  have ok := I.ok
  have hfr : X.A.frames = some (X.env :: X.outer) := by rw [ok.frames, hs]
  have hloc : Loc X.env.scope n := .inl hln
  refine wpAny_Try_except (wpAny_mono ((hb (wManyA X.K i Wo D l) (X.pn ++ pins) (fun e s1 => wpAny (model X.prog X.w) X.A (noteFrame e X.env) (fun _ s2 => wpAny (model X.prog X.w) X.A (setFlight e none) (fun _ s3 => wpAny (model X.prog X.w) X.A (handleBy e X.env (h0 :: hds)) (SP X pins D) X.xe s3) X.xe s2) X.xe s1) (fun u s' xx => ?_) PassesOwn.looking).run [] s σ H D (I.toTry _) hw) (fun fl s1 hsp => ?_) (fun e s1 he => he))
  · obtain ⟨a, B, sI, pins', σ', H', cls, d, rfl, J', nb, up, sky, na, os, ag, ww⟩ := xx
    have J : Inv X pins σ' H' sI := J'.ofTry ok
    have sk : Sky B (X.env :: X.outer) a (Zc cls d) X.env.locals s'.heap := by rw [← hs]; exact sky
    show wpAny (model X.prog X.w) X.A (noteFrame (.ref a) X.env) _ _ _
    refine Sky.land Zc.steady hfr hf sk fun k3 f3 u3 => ?_
    have J3 : Inv X pins σ' H' { s' with heap := k3 } := J.landed nb f3.1 (up.trans u3) os ag
    obtain ⟨o3, v3, e3, z3, d3⟩ := f3.there
    have nfr : a ∉ frs (X.env :: X.outer) := fun hm => by
      obtain ⟨_, o', e', hnf⟩ := f3.2.2.1.mem hm
      rw [e3] at e'; cases e'; exact hnf _ d3
    have nL : a ≠ X.env.locals := fun z => nfr (List.mem_filterMap.mpr ⟨X.env, List.mem_cons_self, by rw [hf, z]⟩)
    have nF : a ∉ X.fs := fun hm => by
      obtain ⟨e, he, q⟩ := List.mem_filterMap.mp hm; exact nfr (List.mem_filterMap.mpr ⟨e, List.mem_cons_of_mem _ he, q⟩)
    have S3 := J3.suite e3 d3 na nL nF
    have go : ∀ {hd' : List ExceptHandler} {l' : List (Value × (Addr → Value → Option Addr → TS))}, HdsA X n hd' l' → wManyA X.K i Wo D l' cls d σ' H' → wpAny (model X.prog X.w) X.A (handleBy (.ref a) X.env hd') (SP X pins D) X.xe { s' with heap := k3 } := by
      intro hd' l' hk
      induction hk with
      | nil =>
        intro w0
        refine wpAny_handleBy_nil ?_
        obtain ⟨k1, k2, k4, oe, vs, Tb, oT, ts', he, hz, hd, h1, hr⟩ := id f3
        unfold PySem.passOn
        refine wpAny_bind (wpAny_field he hd h1 ?_)
        rw [if_neg (show ¬ ((Value.ref Tb == Value.none) = true) from by simp)]
        have fin : wpAny (model X.prog X.w) X.A (setFlight (.ref a) X.env.frame) (fun _ s4 => wpAny (model X.prog X.w) X.A (throw (.ref a) : Sem Flow) (SP X pins D) X.xe s4) X.xe { s' with heap := k3 } := by
          rw [hf]
          refine HandSPX.setFlight_upZ f3 fun h4 hh4 up4 => wpAny_throw (tk _ _ ⟨a, B, sI, pins, σ', H', cls, d, rfl, J, nb, (up.trans u3).trans up4, .inr (.inr (by rw [hs]; exact hh4)), na, os, ag, w0⟩)
        first | exact wpAny_bind (wpAny_pure (wpAny_bind fin)) | exact wpAny_bind fin
      | @cons x c ts b0 suite np pos' hds2 l2 hc hsu r ih =>
        intro w0
        obtain ⟨b, hb1, hyes, hno⟩ := w0
        refine wpAny_handleBy_cons (codeAny_handlers_test ?_) (by intro q; cases q)
        have LT : PySem.W.Looks (model X.prog X.w) k3 (typeOf (.ref a)) cls := fun A Q E s k q => wpAny_typeOf_ref (k _ _ e3) (by rw [z3.1]; exact q)
        have LM := PySem.W.exm_one (M := model X.prog X.w) (J3.kIn) LT hb1
        have test : ∀ {Q : Value → Shared → Prop} {E : Value → Shared → Prop}, Q c { s' with heap := k3 } → wpAny (model X.prog X.w) (X.A.mark (some (.ref a))) (eval (.Name x np) X.env) Q E { s' with heap := k3 } := fun {Q E} q => by
          obtain ⟨hg, hdbg, hm | ⟨hm, hv, hnn⟩⟩ := hc
          · exact ld_glob (X := X.suite a ((a, o3) :: (X.pn ++ pins))) S3 hg hm q hdbg
          · exact ld_blt (X := X.suite a ((a, o3) :: (X.pn ++ pins))) S3 hg hm hv q hnn hdbg
        refine test (LM.here ?_)
        cases b with
        | true =>
          refine codeAny_handlers_suite_as (HandSPX.lands_againZ f3 fun h4 f4 up4 => ?_)
          have J4 : Inv X pins σ' H' { s' with heap := h4 } := J.landed nb f4.1 ((up.trans u3).trans up4) os ag
          obtain ⟨o4, v4, e4, z4, d4⟩ := f4.there
          have S4 := J4.suite e4 d4 na nL nF
          refine store_ok (X := X.suite a ((a, o4) :: (X.pn ++ pins))) (v := .ref a) S4 hN hi hloc rfl (fun s5 S5 => ?_) (.inr hln)
          refine wpAny_mono ((hsu a o4 cls d (X.pn ++ pins) z4 ⟨_, d4⟩).run [] s5 _ H' _ S5 (hyes rfl a na)) (fun f s6 hsp => ?_) (fun _ _ z => False.elim z)
          have end_ : ∀ {σ6 : L2.St} {H6 : Hp} {Q : Shared → Prop}, Inv (X.suite a ((a, o4) :: (X.pn ++ pins))) [] σ6 H6 s6 → (∀ s7, Inv X pins (σ6.set i none) H6 s7 → Q s7) → wpAny (model X.prog X.w) X.A (do bindName X.env n .none; unbindBehindTheSuite X.env n pos') (fun _ s7 => Q s7) X.xe s6 := fun {σ6 H6 Q} S6 hq => gone_ok (S6.unsuite ok) hN hi hln hq
          cases f with
          | next => obtain ⟨σ6, H6, S6, q6⟩ := hsp; exact end_ S6 fun s7 J7 => ⟨_, _, J7, q6⟩
          | brk => obtain ⟨σ6, H6, S6, q6⟩ := hsp; exact end_ S6 fun s7 J7 => ⟨_, _, J7, q6⟩
          | cont => obtain ⟨σ6, H6, S6, q6⟩ := hsp; exact end_ S6 fun s7 J7 => ⟨_, _, J7, q6⟩
          | ret u => obtain ⟨v6, σ6, H6, S6, r6, q6⟩ := hsp; exact end_ S6 fun s7 J7 => ⟨_, _, _, J7, r6, q6⟩
        | false =>
          show wpAny _ X.A (handleBy (.ref a) X.env hds2) _ _ _
          exact ih (hno rfl)
    exact go hh ww
  · cases fl with
    | next => obtain ⟨σ', H', J', q⟩ := hsp; exact wpAny_execs_nil ⟨σ', H', J'.ofTry ok, q⟩
    | brk => obtain ⟨σ', H', J', q⟩ := hsp; exact ⟨σ', H', J'.ofTry ok, q⟩
    | cont => obtain ⟨σ', H', J', q⟩ := hsp; exact ⟨σ', H', J'.ofTry ok, q⟩
    | ret u => obtain ⟨v, σ', H', J', r, q⟩ := hsp; exact ⟨v, σ', H', J'.ofTry ok, r, q⟩
end
/-! isinstance of an error with attributes -/
section
variable {prog : Program} {w : World} {A : Around} {E : Value → Shared → Prop} {s : Shared} {K : Frag} {x D : Addr} {ox : Obj} {od : Obj}
theorem cls_any {Q : Option Value → Shared → Prop} (C : ExcC K D) (Y : K.In s.heap) (I : InstAt s.heap x ox D (some od)) (hq : Q (some (.ref D)) { s with toks := s.toks + 1 }) : wpAny (model prog w) A (getAttr? (.ref x) "__class__") Q E s := by
  have hf : findObj K D (some od) "__class__" = some (.bind (.builtin "getset_descriptor.__get__") (.builtin "object.__class__")) := findObj_data (by obtain ⟨cd, hc, _⟩ := any_some C.hd; rw [hc]; rfl) C.ha C.hn C.ht
  obtain ⟨hp, g, d, t, os⟩ := s
  have M0 := I.type (M := model prog w)
  have M1 := looks_findIn (M := model prog w) Y C.hg
  have M2 := looks_findIn (M := model prog w) Y C.hk
  have M3 := looks_find (M := model prog w) Y I hf
  have sub : Looks (model prog w) hp (isInstance (.ref x) (.type "BaseException")) true := M0.andThen (looks_subIn Y C.hs)
  have n2 : (Value.builtin "BaseException.__getattribute__" == Value.builtin "object.__getattribute__") = false := by decide +kernel
  have n1 : (onTheHeap (Value.ref D) && Value.builtin "BaseException.__getattribute__" == Value.builtin "object.__getattribute__") = false := by rw [n2]; rfl
  have n0 : (false && onTheHeap (Value.builtin "BaseException.__getattribute__")) = false := rfl
  unfold getAttr? getAttrBy? getAttrBy
  refine wpAny_bind (wpAny_mkText (wpAny_bind (wpAny_attempt (wpAny_holding (wpAny_bind (M0.at (wpAny_bind (M1.at ?_))))))))
  show wpAny _ _ (if (onTheHeap (Value.ref D) && Value.builtin "BaseException.__getattribute__" == Value.builtin "object.__getattribute__") = true then _ else _) _ _ _
  rw [n1, if_neg Bool.false_ne_true]
  unfold getAttrByItsOwn hookBefore
  refine wpAny_bind ?_
  rw [if_pos (show onTheHeap (Value.ref D) = true from rfl)]
  refine M2.at (wpAny_bind (wpAny_attempt (wpAny_holding ?_)))
  unfold callGetattribute
  rw [n0, if_neg Bool.false_ne_true]
  unfold boundAndCalled
  rw [PySem.F.excAttr_ValueError.ga.bind (.ref x)]
  refine wpAny_bind (wpAny_pure ?_)
  show wpAny _ _ (PySem.call (.builtin "BaseException.__getattribute__") [.ref x, .str "__class__" t]) _ _ _
  refine wpAny_call (codeAny_call_builtin PySem.F.excAttr_ValueError.ga.plain PySem.F.entry_bexc_ga (@check_slot (model prog w) _ _ ⟨hp, g, d, t + 1, os⟩ "BaseException.__getattribute__" "BaseException" "__getattribute__" (.ref x) [.str "__class__" t] [] _ (by decide +kernel) (by decide +kernel) sub (PySem.F.args_bexc_ga (.ref x) (.str "__class__" t)) ?_))
  unfold Builtin.«object.__getattribute__»
  refine wpAny_bind (wpAny_of_eq (a := ((Value.ref x : Value), [Value.str "__class__" t])) (by first | rfl | (simp only [slotArgs]; rfl)) (wpAny_bind (wpAny_pure (wpAny_bind (M0.at (wpAny_bind (M3.at ?_)))))))
  show wpAny _ _ (holding [Value.builtin "object.__class__"] (PySem.call (.builtin "getset_descriptor.__get__") [.builtin "object.__class__", .ref x, .ref D]) >>= PySem.ret) _ _ _
  refine wpAny_bind (wpAny_holding (wpAny_call (class_get (s := ⟨hp, g, d, t + 1, os⟩) (ox := ox) (od := some od) Y I C.hm ?_)))
  refine wpAny_pure ?_
  show wpAny _ _ (handedOut (.ref D)) _ _ _
  rw [handedOut_of (v := .ref D) rfl]
  first | exact wpAny_pure (wpAny_pure hq) | exact wpAny_pure hq | exact wpAny_pure (wpAny_bind (wpAny_pure (wpAny_pure hq)))
theorem kitx_any (C : ExcC K D) : KitX K (.ref x) (.ref D) (fun h => InstAt h x ox D (some od)) where
  ty := fun _ _ _ I => I.type
  it := fun _ _ Y _ => by
    obtain ⟨cdD, hcD, _⟩ := any_some C.hd
    unfold clsIn at hcD
    split at hcD
    · rename_i c' d' cd' sl' ho
      intro A' Q' E' s' k q
      unfold isType loadHead
      exact wpAny_bind (wpAny_loadPart (k _ _ (Y _ _ ho)) (wpAny_pure q))
    · cases hcD
  ne := (handS_kitx_exc (x := x) (ox := ox) C.hg C.hk C.hs C.hd C.ha C.hn C.ht C.hm).ne
  ca := fun Y I k => cls_any C Y I k
end
/-- isinstance(e, c), e the error of a suite, its attributes at dd -/
def rIsX (K : PySem.W.Frag) (D a dd : Addr) : List V → Hp → VK → Prop := fun xs H Q => ∃ (c : V) (cv : Value) (b : Bool) (fs : List (Str × V)), xs = [.ref a, c] ∧ (∀ u, RelV c u → u = cv) ∧ H dd = some (.xd fs) ∧ PySem.W.kitOne K (.ref D) cv = some b ∧ Q (.bl b) H
theorem k_isX {X : Cx} {K : PySem.W.Frag} {a D dd : Addr} {oe : Obj} {pn : List (Addr × Obj)} (h : X.K = K) (C : ExcC K D) (hz : Zc (.ref D) (some dd) oe) (hf : ∃ vs, oe.data = .fields vs) : CallR (X.suite a ((a, oe) :: pn)) (.builtin "isinstance") (rIsX K D a dd) := by
  subst h
  intro pins s σ H xs us Q I r hw
  obtain ⟨c, cv, b, fs, rfl, hcv, hdd, e, q⟩ := hw
  obtain ⟨u1, u2, rfl, rx, rt⟩ := vals2 r
  cases rx
  have ec := hcv _ rt
  subst ec
  obtain ⟨hget, _⟩ := I.pin (a, oe) (List.mem_append.mpr (.inl List.mem_cons_self))
  obtain ⟨vs, hv⟩ := hf
  have hx : ObjOk X.prog X.w H s.heap dd (.xd fs) := I.hok dd _ hdd
  obtain ⟨mA, hns, hr⟩ := hx
  obtain ⟨od, ho, hl⟩ := lookIn_ns hns
  have J : PySem.W.InstAt s.heap a oe D (some od) := ⟨hget, hz.1, by unfold PySem.W.notCls; rw [hv] <;> rfl, by rw [hz.2]; exact ho⟩
  exact PySem.W.kia_one (kitx_any C) I.kIn J e (fun z => nomatch z) fun tk => ⟨.bl b, H, I.kept (t' := tk) fun _ _ z => z, rfl, q⟩
end RD

namespace RD
open PySem PySem.Spec PyProof.Rows L2
/-! an own error class with its own __init__ -/
def oexB (K : PySem.W.Frag) (C : Addr) : Bool := match K.lookup C with
  | some ⟨.type "type", _, .cls cd, sl⟩ => (match cd.mro, sl.toList with
    | .ref D :: bm, [_, _, _, _, some (.builtin n), _] => D == C && n == "ValueError.__new__" && !cd.hasDel && cd.hasDict && HandSPX.refsVE bm
    | _, _ => false)
  | _ => false
theorem oex_cls {K : PySem.W.Frag} {C : Addr} (q : oexB K C = true) : ∃ nm qn N bs bm sn sub ab col dd k0 k1 k2 k3 k5, K.lookup C = some (excClassObj nm qn C N bs bm true sn sub ab col dd k0 k1 k2 k3 k5 "ValueError.__new__") ∧ HandSPX.refsVE bm = true := by
  unfold oexB at q
  split at q
  · rename_i dd cd sl ho
    split at q
    · rename_i D bm k0 k1 k2 k3 n k5 hm hs
      simp only [Bool.and_eq_true, beq_iff_eq, Bool.not_eq_true'] at q
      obtain ⟨⟨⟨⟨rfl, rfl⟩, hdel⟩, hdi⟩, ht⟩ := q
      obtain ⟨nm, bs, mro, N, qn, hd, sn, sub, ab, col, del⟩ := cd
      dsimp only at hm hdel hdi
      subst hm hdel hdi
      have hsl : sl = #[k0, k1, k2, k3, some (.builtin "ValueError.__new__"), k5] := by
        obtain ⟨l⟩ := sl
        simp only at hs; rw [hs]
      subst hsl
      exact ⟨nm, qn, N, bs, bm, sn, sub, ab, col, dd, k0, k1, k2, k3, k5, ho, ht⟩
    · cases q
  · cases q
theorem oexC {K : PySem.W.Frag} {C : Addr} (q : oexB K C = true) (h1 : PySem.W.findIn K (.ref C) "__setattr__" = some (some (.builtin "object.__setattr__"))) (h2 : PySem.W.subIn K (.ref C) (.type "BaseException") = some true) (h3 : PySem.W.typeIn K (.ref C) = some (.type "type")) (h4 : PySem.W.keepIn K (.ref C) = true) : OexC K C := ⟨oex_cls q, h1, h2, h3, h4⟩
/-- the promise of an __init__ that stores attributes one by one -/
def sp_exi1 (C : Addr) (f : Str) : Sp := fun vs H Q _ => ∃ (a : Addr) (v : V), vs = [.ref a, v] ∧ H a = some (exo a C none) ∧ ∀ dx, H dx = none → dx ≠ a → Q .non (upd (upd H dx (exd dx [(f, v)])) a (exo a C (some dx)))
def sp_exi2 (C : Addr) (f g : Str) : Sp := fun vs H Q _ => ∃ (a : Addr) (v u : V), vs = [.ref a, v, u] ∧ H a = some (exo a C none) ∧ ∀ dx, H dx = none → dx ≠ a → Q .non (upd (upd (upd H dx (exd dx [(f, v)])) a (exo a C (some dx))) dx (exd dx [(g, u), (f, v)]))
/-- raise C(v) -/
theorem mk1 {C : Addr} {f : Str} {v : V} {H : Hp} {W : XK} (q : ∀ dx, H dx = none → W (.ref C) (some dx) (upd H dx (.xd [(f, v)]))) :
    [v].length ≤ 1000 ∧ ∀ a, H a = none → sp_exi1 C f (.ref a :: ([v] ++ [])) (upd H a (exo a C none)) (fun x H2 => x = .non ∧ ∃ (d : Addr) (fs : List (Str × V)), H2 a = some (exo a C (some d)) ∧ H2 d = some (exd d fs) ∧ H d = none ∧ W (.ref C) (some d) (upd (L2.del H2 a) d (.xd fs))) (fun _ _ _ => False) := by
  refine ⟨(show 1 ≤ 1000 by decide), fun a na => ⟨a, v, rfl, upd_same, fun dx ndx ne => ⟨rfl, dx, [(f, v)], upd_same, by rw [upd_ne ne, upd_same], by rw [upd_ne ne] at ndx; exact ndx, ?_⟩⟩⟩
  rw [upd_ne ne] at ndx
  have e : upd (L2.del (upd (upd (upd H a (exo a C none)) dx (exd dx [(f, v)])) a (exo a C (some dx))) a) dx (.xd [(f, v)]) = upd H dx (.xd [(f, v)]) := by
    funext b
    by_cases h : b = dx
    · subst h; rw [upd_same, upd_same]
    · rw [upd_ne h, upd_ne h]
      by_cases h2 : b = a
      · subst h2; rw [del_same, na]
      · rw [del_ne h2, upd_ne h2, upd_ne h, upd_ne h2]
  rw [e]
  exact q dx ndx
theorem mk2 {C : Addr} {f g : Str} {v u : V} {H : Hp} {W : XK} (q : ∀ dx, H dx = none → W (.ref C) (some dx) (upd H dx (.xd [(g, u), (f, v)]))) :
    [v, u].length ≤ 1000 ∧ ∀ a, H a = none → sp_exi2 C f g (.ref a :: ([v, u] ++ [])) (upd H a (exo a C none)) (fun x H2 => x = .non ∧ ∃ (d : Addr) (fs : List (Str × V)), H2 a = some (exo a C (some d)) ∧ H2 d = some (exd d fs) ∧ H d = none ∧ W (.ref C) (some d) (upd (L2.del H2 a) d (.xd fs))) (fun _ _ _ => False) := by
  refine ⟨(show 2 ≤ 1000 by decide), fun a na => ⟨a, v, u, rfl, upd_same, fun dx ndx ne => ⟨rfl, dx, [(g, u), (f, v)], by rw [upd_ne ne.symm, upd_same], upd_same, by rw [upd_ne ne] at ndx; exact ndx, ?_⟩⟩⟩
  rw [upd_ne ne] at ndx
  have e : upd (L2.del (upd (upd (upd (upd H a (exo a C none)) dx (exd dx [(f, v)])) a (exo a C (some dx))) dx (exd dx [(g, u), (f, v)])) a) dx (.xd [(g, u), (f, v)]) = upd H dx (.xd [(g, u), (f, v)]) := by
    funext b
    by_cases h : b = dx
    · subst h; rw [upd_same, upd_same]
    · rw [upd_ne h, upd_ne h]
      by_cases h2 : b = a
      · subst h2; rw [del_same, na]
      · rw [del_ne h2, upd_ne h, upd_ne h2, upd_ne h, upd_ne h2]
  rw [e]
  exact q dx ndx
theorem ost {K : PySem.W.Frag} {f : Str} {to te : TE} {σ : L2.St} {H : Hp} {nx bk ct : L2.St → Hp → Prop} {rt : VK} (h : te σ H fun y H1 => to σ H1 fun x H2 => ∃ a C : Addr, x = .ref a ∧ OexC K C ∧ PySem.W.findIn K (.ref C) f = some none ∧
  ((H2 a = some (exo a C none) ∧ ∀ dx, H2 dx = none → dx ≠ a → nx σ (upd (upd H2 dx (exd dx [(f, y)])) a (exo a C (some dx)))) ∨
    ∃ (dx : Addr) (fs : List (Str × V)), H2 a = some (exo a C (some dx)) ∧ H2 dx = some (exd dx fs) ∧ fs.length ≤ 900 ∧ nx σ (upd H2 dx (exd dx ((f, y) :: fs))))) : tOst K f to te ⟨nx, rt, bk, ct⟩ σ H := h
end RD

namespace RD
open PySem PySem.Spec PyProof.Rows L2
theorem callS {sp : Sp} {E : L2.St → XK} {tr : TA} {σ : L2.St} {H : Hp} {Q : VK} (h : tr σ H fun vs H1 => sp vs H1 Q (E σ)) : tCallS sp E tr σ H Q := h
theorem xf {a C : Addr} {cls : Value} {d : Option Addr} {f : Str} {te : TE} {σ : L2.St} {H : Hp} {Q : VK} (h : te σ H fun x H1 => x = .ref a ∧ cls = .ref C ∧ ∃ (dd : Addr) (fs : List (Str × V)) (v : V), d = some dd ∧ H1 dd = some (.xd fs) ∧ fs.lookup f = some v ∧ Q v H1) : tXf a cls d C f te σ H Q := h
theorem isX {K : PySem.W.Frag} {D a dd c : Addr} {b : Bool} {fs : List (Str × V)} {H : Hp} {Q : VK} (h : H dd = some (.xd fs)) (k : PySem.W.kitOne K (.ref D) (.ref c) = some b) (q : Q (.bl b) H) : rIsX K D a dd [.ref a, .ref c] H Q := ⟨_, _, b, fs, rfl, fun u r => r, h, k, q⟩
theorem isE {K : PySem.W.Frag} {D a c : Addr} {b : Bool} {H : Hp} {Q : VK} (k : PySem.W.kitOne K (.ref D) (.ref c) = some b) (q : Q (.bl b) H) : rIsE K D a [.ref a, .ref c] H Q := ⟨_, _, b, rfl, fun u r => r, k, q⟩
end RD
namespace RD
open PySem PySem.Spec PyProof.Rows L2
theorem star {K : PySem.W.Frag} {te : TE} {t : TA} {σ : L2.St} {H : Hp} {QA : List V → Hp → Prop} (h : te σ H fun x H1 => ∃ p xs, x = V.ref p ∧ (SqT K H1 p xs ∨ SqL K H1 p xs) ∧ t σ H1 fun ys H2 => QA (xs ++ ys) H2) : StX.tStar K te t σ H QA := h
theorem starL {K : PySem.W.Frag} {a : Addr} {xs : List V} {H : Hp} {P : Addr → List V → Prop} (h : SqL K H a xs) (q : P a xs) : ∃ p ys, V.ref a = V.ref p ∧ (SqT K H p ys ∨ SqL K H p ys) ∧ P p ys := ⟨a, xs, rfl, .inr h, q⟩
end RD

namespace RD
open PySem PySem.Spec PyProof.Rows L2
/-! errors as values: objects of own error classes that are held, asked and read -/
/-- an error of class C with these attributes, the last one stored first -/
def ErrAt (H : Hp) (a C : Addr) (fs : List (Str × V)) : Prop := ∃ dd, H a = some (exo a C (some dd)) ∧ H dd = some (exd dd fs)
theorem ErrAt.same {H H' : Hp} {a C : Addr} {fs : List (Str × V)} (h : ErrAt H a C fs) (s : Same H H') : ErrAt H' a C fs := by
  obtain ⟨dd, h1, h2⟩ := h
  exact ⟨dd, s _ _ h1, s _ _ h2⟩
/-- isinstance(e, c) -/
def rIsV (K : PySem.W.Frag) : List V → Hp → VK → Prop := fun xs H Q => ∃ (a C : Addr) (c : V) (cv : Value) (b : Bool), xs = [.ref a, c] ∧ (∀ u, RelV c u → u = cv) ∧ ExcC K C ∧ (H a = some (exo a C none) ∨ ∃ fs, ErrAt H a C fs) ∧ PySem.W.kitOne K (.ref C) cv = some b ∧ Q (.bl b) H
theorem k_isV {X : Cx} {K : PySem.W.Frag} (h : X.K = K) : CallR X (.builtin "isinstance") (rIsV K) := by
  subst h
  intro pins s σ H xs us Q I r hw
  obtain ⟨a, C, c, cv, b, rfl, hcv, EC, hob, e, q⟩ := hw
  obtain ⟨u1, u2, rfl, rx, rt⟩ := vals2 r
  cases rx
  have ec := hcv _ rt
  subst ec
  rcases hob with ea | ⟨fs, dd, ea, ed⟩
  · obtain ⟨t1, hget⟩ := exo_at I.hok ea
    exact PySem.W.kia_one (PySem.W.handS_kitx_exc EC.hg EC.hk EC.hs EC.hd EC.ha EC.hn EC.ht EC.hm) I.kIn ⟨hget, rfl, rfl, trivial⟩ e (fun z => nomatch z) fun tk => ⟨.bl b, H, I.kept (t' := tk) fun _ _ z => z, rfl, q⟩
  · obtain ⟨t1, hget⟩ := exo_at I.hok ea
    obtain ⟨mA, hns, hr⟩ := exd_at I.hok ed
    obtain ⟨od, ho, hl⟩ := lookIn_ns hns
    exact PySem.W.kia_one (kitx_any EC) I.kIn ⟨hget, rfl, rfl, ho⟩ e (fun z => nomatch z) fun tk => ⟨.bl b, H, I.kept (t' := tk) fun _ _ z => z, rfl, q⟩
/-- e.f -/
def tXv (K : PySem.W.Frag) (f : Str) (te : TE) : TE := fun σ H Q => te σ H fun x H1 => ∃ (a C : Addr) (fs : List (Str × V)) (v : V), x = .ref a ∧ XfC K C ∧ PySem.W.findIn K (.ref C) f = some none ∧ ErrAt H1 a C fs ∧ fs.lookup f = some v ∧ Q v H1
theorem pe_xv {X : Cx} {K : PySem.W.Frag} {e : Expr} {te : TE} {pos : Pos} {n : Str} (h : X.K = K) (he : PE X e te) (hb : attributeBase e n X.env (eval e X.env) = eval e X.env := by rfl) : PE X (.Attribute e n pos) (tXv K n te) := by
  subst h
  refine ⟨fun pins s σ H Q I hw => ?_⟩
  refine attr_of hb (thn (he.run pins s σ H _ I hw) fun u s1 hh => ?_)
  obtain ⟨x, H1, I1, rx, a, C, fs, v, ex, XC, hno, ⟨dd, ea, ed⟩, l, q⟩ := hh
  subst ex
  obtain rfl : u = Value.ref a := rx
  obtain ⟨t1, hget⟩ := exo_at I1.hok ea
  obtain ⟨mA, hns, hr⟩ := exd_at I1.hok ed
  obtain ⟨od, ho, hl⟩ := lookIn_ns hns
  obtain ⟨u, hu, ru⟩ := RelO.some_of (v := v) (o := mA n) (by rw [← l]; exact hr n)
  exact HandSPX.exc_get I1.kIn ⟨hget, rfl, rfl, ho⟩ XC.ga XC.gg XC.exC (PySem.W.findObj_own XC.hdC hno rfl (by rw [hl, hu])) (handed_of ru) ⟨v, H1, I1.tok _, ru, q⟩
theorem xv {K : PySem.W.Frag} {f : Str} {te : TE} {σ : L2.St} {H : Hp} {Q : VK} (h : te σ H fun x H1 => ∃ (a C : Addr) (fs : List (Str × V)) (v : V), x = .ref a ∧ XfC K C ∧ PySem.W.findIn K (.ref C) f = some none ∧ ErrAt H1 a C fs ∧ fs.lookup f = some v ∧ Q v H1) : tXv K f te σ H Q := h
/-- C(), C without an own __init__ -/
theorem pe_x0 {X : Cx} {C : Addr} {bmB : List Value} {B newId initId : String} {x : Str} {p pos : Pos} (F : ExcBaseFacts B newId initId bmB) (q : PySem.W.excIn X.K C bmB newId = true) (gC : X.mg x = some (.ref C)) (kC : PySem.W.keepIn X.K (.ref C) = true) (hg : Gl X x)
    (hdb : (x == ("__debug__" : Str)) = false := by decide) : PE X (.Call (.Name x p) [] [] pos) (fun _ H Q => ∀ a, H a = none → Q (.ref a) (upd H a (exo a C none))) := by
  refine ⟨fun pins s σ H Q I hw => ?_⟩
  refine wpAny_Call_Name_kw (ld_glob I hg gC ?_ hdb)
  refine PySem.W.callWith_K0 I.kIn kC ?_
  show wpAny _ _ (PySem.call (Value.ref C) []) _ _ _
  obtain ⟨_, _, _, _, _, _, _, _, _, _, _, _, _, _, _, _, _, hC, hN, hni, tl⟩ := exc_obj I.kIn q
  refine wpAny_call_exc_subT F tl hC hN hni (fun h' a hm => ?_) (Nat.zero_le _)
  have na : H a = none := I.hok.gone hm.new
  obtain ⟨t, ht, _, _⟩ := hm.there
  exact ⟨.ref a, upd H a (exo a C none), I.laidN hm.keeps hm.new na (exo_ok ht), rfl, hw a na⟩
/-- C(e, ..), C with an own __init__ -/
def tMkV (C : Addr) (sp : Sp) (ta : TA) : TE := fun σ H Q => ta σ H fun vs H1 => vs.length ≤ 1000 ∧ ∀ a, H1 a = none → sp (.ref a :: vs) (upd H1 a (exo a C none)) (fun v H2 => v = .non ∧ Q (.ref a) H2) (fun _ _ _ => False)
theorem pe_xi {X : Cx} {e : Expr} {es : List Expr} {ta : TA} {p pos : Pos} {CX : CXT} {x : Str} {C fI : Addr} {k : Nat} {fd : FuncData} {ps : List Str} {sp : Sp} (Tc : OexC X.K C) (iC : PySem.W.findIn X.K (.ref C) "__init__" = some (some (.ref fI))) (tI : PySem.W.typeIn X.K (.ref fI) = some (.type "function"))
    (F1 : FnOk X.prog X.w X.K X.mg X.base CX k fI fd ps sp) (hr : Room (k + 1) X.A) (hb : Binds X.K fd ps []) (hx : Passes CX X (fun _ _ _ => False)) (hg : Gl X x) (hm : X.mg x = some (.ref C)) (ha : PA X (e :: es) ta)
    (hdb : (x == ("__debug__" : Str)) = false := by decide) (he : starEach (e :: es) X.env = (false, eval e X.env) :: starEach es X.env := by rfl) (hpl : (backTo pos (starEach es X.env)).any (·.1) = false := by rfl) :
    PE X (.Call (.Name x p) (e :: es) [] pos) (tMkV C sp ta) := by
  refine ⟨fun pins s σ H Q I hw => ?_⟩
  obtain ⟨nm, q, N, bs, bm, sn, sub, ab, col, dd, k0, k1, k2, k3, k5, hC, hbm⟩ := Tc.cls
  refine wpAny_Call_Name_kw (ld_glob I hg hm ?_ hdb)
  refine PySem.W.callWith_K (h₀ := X.base) I.ok.mod.kin Tc.kC (thn (ha.run pos pins s σ H _ I hw) fun us s1 ⟨vs, H1, I1, r1, hz, q1⟩ => ⟨I1.kIn, ?_⟩) he hpl
  show wpAny _ _ (PySem.call (Value.ref C) us) _ _ _
  obtain ⟨hp, g, dr, tk, os⟩ := s1
  have hsz : hp.objs.size ≤ hp.objs.size + 1 := Nat.le_succ _
  have hq := q1 (hp.objs.size + 1) (I1.hok.fresh hsz)
  have kk : ∀ b o, hp.get? b = some o → ((hp.push (PySem.W.kdv_tup us)).push (PySem.HandSPX.excO C hp.objs.size)).get? b = some o := fun b o z => Heap.get?_push_of_some _ (Heap.get?_push_of_some _ z)
  have hget : ((hp.push (PySem.W.kdv_tup us)).push (PySem.HandSPX.excO C hp.objs.size)).get? (hp.objs.size + 1) = some (PySem.HandSPX.excO C hp.objs.size) := by heap_get
  have I2 : Inv X pins σ (upd H1 (hp.objs.size + 1) (exo (hp.objs.size + 1) C none)) ⟨(hp.push (PySem.W.kdv_tup us)).push (PySem.HandSPX.excO C hp.objs.size), g, dr, tk, os⟩ := I1.laid (t' := tk) kk hsz (exo_ok hget)
  have r2 : Vals (V.ref (hp.objs.size + 1) :: vs) (Value.ref (hp.objs.size + 1) :: us) := .cons rfl r1
  have hl : (Value.ref (hp.objs.size + 1) :: us).length = ps.length := r2.length.symm.trans (F1.len _ _ _ _ hq)
  have hus : us.length ≤ sizeLine := by
    rw [← Paired.length r1, sizeLine_eq]
    omega
  have bb := hb _ (Value.ref (hp.objs.size + 1) :: us) I2.kIn (by rw [List.append_nil]; exact hl)
  rw [List.append_nil] at bb
  refine wpAny_call (PySem.HandSPX.call_own F.excBase_ValueError (fun Y => PySem.HandSPX.refsVE_contains Y bm hbm) (I1.kIn _ _ hC) (PySem.W.looks_findIn I1.kIn iC) (fun self => PySem.W.bind_fn I1.kIn self tI) hus
    (codeAny_mono (F1.run _ X.stack _ _ ⟨Value.ref (hp.objs.size + 1) :: us, []⟩ (Value.ref (hp.objs.size + 1) :: us) _ _ (fun _ _ _ => False) (hr.make C us []) (I2.env0.make C us []) bb r2 hq) fun r s' hq' => ?_))
  cases r with
  | error er => exact hx pins σ _ _ er s' I2 hq'
  | ok fl =>
    cases fl with
    | ret u =>
      obtain ⟨_, H', I3, rv, ev, q3⟩ := I2.after hq'
      subst ev
      exact ⟨rv, V.ref (hp.objs.size + 1), H', I3, rfl, q3⟩
    | next => exact False.elim hq'
    | brk => exact False.elim hq'
    | cont => exact False.elim hq'
end RD

namespace RD
open PySem PySem.Spec PySem.HandSPX
/-! an own error class that is called by names -/
section
variable {prog : Program} {w : World} {A : Around} {E : Value → Shared → Prop} {R : Result → Shared → Prop} {h : Heap} {g : Array GenState} {d : Drawn} {t : Nat} {os : OsState}
variable {nm q : Str} {C N : Addr} {bs bm bmB : List Value} {hdct : Bool} {sn : List Str} {sub : List Value} {ab : Bool} {col : Option Bool} {dd : Option Addr} {k0 k1 k2 k3 k5 : Option Value} {B newId initId : String} {kw : List (Str × Value)}
theorem chkK (F : ExcBaseFacts B newId initId bmB) (hT : ∀ X : String, bm.contains (.type X) = bmB.contains (.type X)) {Q : Unit → Shared → Prop}
    (hC : h.get? C = some (excClassObj nm q C N bs bm hdct sn sub ab col dd k0 k1 k2 k3 k5 newId)) (hq : Q () ⟨h, g, d, t, os⟩) : wpAny (model prog w) A (checkBuiltinCall newId ⟨[.ref C], kw⟩) Q E ⟨h, g, d, t, os⟩ := by
  have c1 : (Value.ref C :: bm).contains (.type B) = true := by rw [List.contains_cons, hT, F.hasB, Bool.or_true]
  have c2 := F.noStar
  simp only [checkBuiltinCall, F.newKind, F.newSplit, F.newRow]
  repeat (first | refine wpAny_loadPart_at hC ?_ | (refine wpAny_isSubtype_exc hC ?_; rw [c1]) | refine wpAny_staticBase_exc hC ?_ | refine wpAny_madeBy_exc hC ?_ | simp only [bne_self_eq_false, Bool.false_eq_true, if_false] | wp_step)
  exact hq
theorem newK (F : ExcBaseFacts B newId initId bmB) (hT : ∀ X : String, bm.contains (.type X) = bmB.contains (.type X))
    (hC : h.get? C = some (excClassObj nm q C N bs bm hdct sn sub ab col dd k0 k1 k2 k3 k5 newId))
    (hq : R (.ok (.ret (.ref (h.objs.size + 1)))) ⟨(h.push { cls := .type "tuple", data := .seq #[] }).push
      { cls := .ref C, data := .fields #[.ref h.objs.size, .none, .none, .none, .bool false, .none] }, g, d, t, os⟩) :
    codeAny (model prog w) A (.builtin newId ⟨[.ref C], kw⟩) R ⟨h, g, d, t, os⟩ := by
  have c0 := F.ends
  have c1 : (Value.ref C :: bm).contains (.type B) = true := by rw [List.contains_cons, hT, F.hasB, Bool.or_true]
  have c2 : (Value.ref C :: bm).contains (.type "AttributeError") = false := by rw [List.contains_cons, hT, F.noAttr]; rfl
  have c3 : (Value.ref C :: bm).contains (.type "NameError") = false := by rw [List.contains_cons, hT, F.noName]; rfl
  refine codeAny_builtinAt F.entry ?_
  unfold Builtin.«BaseException.__new__»
  refine wpAt_bind ?_
  show wpAt _ _ _ (stack >>= _) _ _ _
  refine wpAt_bind (wpAt_stack fun p below => wpAt_of_wpAny ?_)
  wp_walk
  refine wpAt_of_wpAny ?_
  rw [F.owner]
  repeat (first | with_reducible refine wpAny_madeHere_exc F.canon hC ?_ | with_reducible refine wpAny_loadPart_at hC ?_ | (with_reducible refine wpAny_isSubtype_exc hC ?_; first | rw [c1] | rw [c2] | rw [c3]) | wp_step)
  show R _ _
  rw [Heap.size_push]
  exact hq
theorem typK (F : ExcBaseFacts B newId initId bmB) (hT : ∀ X : String, bm.contains (.type X) = bmB.contains (.type X)) {fI : Addr} {Q : Fin → Shared → Prop}
    (hC : h.get? C = some (excClassObj nm q C N bs bm hdct sn sub ab col dd k0 k1 k2 k3 k5 newId))
    (hi : W.Looks (model prog w) h (typeLookup (.ref C) "__init__") (some (.ref fI))) (hb : ∀ self, W.Looks (model prog w) h (bindSpecial (.ref fI) self) (.ref fI, [self]))
    (hq : codeAny (model prog w) A (.call (.ref fI) ⟨[.ref (h.objs.size + 1)], kw⟩)
      (fun r s' => match r with | .ok (.ret v) => v = .none ∧ Q (.done (.ret (.ref (h.objs.size + 1)))) s' | .ok _ => False | .error e => E e s')
      ⟨(h.push (W.kdv_tup [])).push (excO C h.objs.size), g, d, t, os⟩) :
    wpAny (model prog w) A (Builtin.«type.__call__» ⟨[.ref C], kw⟩) Q E ⟨h, g, d, t, os⟩ := by
  repeat (first | with_reducible refine wpAny_loadPart_at hC ?_ | with_reducible refine wpAny_madeBy_exc hC ?_ | wp_step)
  refine codeAny_call_builtin_code (Code.quiet_builtin _ F.quiet) (chkK F hT hC ?_)
  refine newK F hT hC ?_
  show wpAny _ _ _ _ _ _
  have k : ∀ b o, h.get? b = some o → ((h.push (W.kdv_tup [])).push (excO C h.objs.size)).get? b = some o := fun b o e => Heap.get?_push_of_some _ (Heap.get?_push_of_some _ e)
  have hC1 := k _ _ hC
  have hg1 : ((h.push (W.kdv_tup [])).push (excO C h.objs.size)).get? (h.objs.size + 1) = some (excO C h.objs.size) := by heap_get
  have hcC : (Value.ref C :: bm).contains (.ref C) = true := by simp
  have i1 := hi.keeps k
  have b1 := (hb (.ref (h.objs.size + 1))).keeps k
  unfold isInstance
  repeat (first | with_reducible refine wpAny_loadPart_at hg1 ?_ | (with_reducible refine wpAny_isSubtype_exc hC1 ?_; rw [hcC]) | wp_step)
  show wpAny _ _ (typeLookup (.ref C) _) _ _ _
  refine i1.at ?_
  refine wpAny_holding (wpAny_bind (b1.at ?_))
  refine wpAny_bind (wpAny_call (codeAny_mono hq fun r s' z => ?_))
  rcases r with e | (v | _ | _ | _) <;> first | exact z | exact z.elim | skip
  obtain ⟨rfl, z⟩ := z
  first | exact wpAny_pure (wpAny_pure z) | exact wpAny_pure z | exact wpAny_bind (wpAny_pure (wpAny_pure z))
theorem callK (F : ExcBaseFacts B newId initId bmB) (hT : ∀ X : String, bm.contains (.type X) = bmB.contains (.type X)) {fI : Addr}
    (hC : h.get? C = some (excClassObj nm q C N bs bm hdct sn sub ab col dd k0 k1 k2 k3 k5 newId))
    (hi : W.Looks (model prog w) h (typeLookup (.ref C) "__init__") (some (.ref fI))) (hb : ∀ self, W.Looks (model prog w) h (bindSpecial (.ref fI) self) (.ref fI, [self]))
    (hq : codeAny (model prog w) (A.under (.builtin "type.__call__" ⟨[.ref C], kw⟩)) (.call (.ref fI) ⟨[.ref (h.objs.size + 1)], kw⟩) (W.InitBack (h.objs.size + 1) R)
      ⟨(h.push (W.kdv_tup [])).push (excO C h.objs.size), g, d, t, os⟩) :
    codeAny (model prog w) A (.call (.ref C) ⟨[], kw⟩) R ⟨h, g, d, t, os⟩ := by
  have f1 := tc_lookup
  have f2 := tc_bind (.ref C)
  have hTy : (⟨h, g, d, t, os⟩ : Shared).TypeIs (.ref C) "type" := ⟨_, hC, rfl⟩
  refine codeAny_of_tree ?_
  show wpAny _ _ (callAny (.ref C) _) _ _ _
  repeat (any_goals (first | assumption | with_reducible refine wpAny_loadPart_at hC ?_ | wp_step))
  refine ⟨rfl, ?_⟩
  refine codeAny_call_builtin_at (Code.quiet_builtin _ (by decide +kernel)) entry_typeCall (wpAny_check_type_call_sub hC (typK F hT hC hi hb ?_))
  refine codeAny_mono hq fun r s' z => ?_
  rcases r with e | (v | _ | _ | _) <;> exact z
end
end RD
namespace RD
open PySem PySem.Spec PyProof.Rows L2
/-- C(k = v, ..), C with an own __init__ -/
def tMkK (C : Addr) (sp : Sp) (gV : List V → List V → List V) (tk : TA) : TE := fun σ H Q => tk σ H fun zs H1 => ∀ a, H1 a = none → sp (gV [.ref a] zs) (upd H1 a (exo a C none)) (fun v H2 => v = .non ∧ Q (.ref a) H2) (fun _ _ _ => False)
theorem pe_xk {X : Cx} {kws : List Keyword} {tk : TA} {p pos : Pos} {CX : CXT} {x : Str} {C fI : Addr} {k : Nat} {fd : FuncData} {ps ks : List Str} {g : List Value → List Value → List Value} {gV : List V → List V → List V} {sp : Sp} (Tc : OexC X.K C) (iC : PySem.W.findIn X.K (.ref C) "__init__" = some (some (.ref fI))) (tI : PySem.W.typeIn X.K (.ref fI) = some (.type "function"))
    (F1 : FnOk X.prog X.w X.K X.mg X.base CX k fI fd ps sp) (hr : Room (k + 1) X.A) (hb : KBinds X.K fd ps ks g gV) (hx : Passes CX X (fun _ _ _ => False)) (hg : Gl X x) (hm : X.mg x = some (.ref C)) (hkw : PK X kws tk)
    (hdb : (x == ("__debug__" : Str)) = false := by decide) (hall : (backToKw pos (keywordEach kws X.env)).all (·.1.isSome) = true := by rfl) (hks : (backToKw pos (keywordEach kws X.env)).filterMap (·.1) = ks := by rfl)
    (hpl : ((backTo pos (starEach [] X.env)).any (·.1) || (backToKw pos (keywordEach kws X.env)).any (·.1.isNone)) = false := by rfl) :
    PE X (.Call (.Name x p) [] kws pos) (tMkK C sp gV tk) := by
  refine ⟨fun pins s σ H Q I hw => ?_⟩
  obtain ⟨nm, q, N, bs, bm, sn, sub, ab, col, dd, k0, k1, k2, k3, k5, hC, hbm⟩ := Tc.cls
  refine wpAny_Call_Name_kw (ld_glob I hg hm ?_ hdb)
  refine PySem.W.callWith_KW0 (h₀ := X.base) I.ok.mod.kin Tc.kC hall (thn (hkw.run pos pins s σ H _ I hw) fun ws s1 ⟨zs, H1, I1, rz, q1⟩ => ⟨I1.kIn, ?_⟩) hpl
  rw [hks]
  show wpAny _ _ (PySem.call (Value.ref C) [] (ks.zip ws)) _ _ _
  obtain ⟨hp, g', dr, tk', os⟩ := s1
  have hsz : hp.objs.size ≤ hp.objs.size + 1 := Nat.le_succ _
  have hq := q1 (hp.objs.size + 1) (I1.hok.fresh hsz)
  have kk : ∀ b o, hp.get? b = some o → ((hp.push (PySem.W.kdv_tup [])).push (PySem.HandSPX.excO C hp.objs.size)).get? b = some o := fun b o z => Heap.get?_push_of_some _ (Heap.get?_push_of_some _ z)
  have hget : ((hp.push (PySem.W.kdv_tup [])).push (PySem.HandSPX.excO C hp.objs.size)).get? (hp.objs.size + 1) = some (PySem.HandSPX.excO C hp.objs.size) := by heap_get
  have I2 : Inv X pins σ (upd H1 (hp.objs.size + 1) (exo (hp.objs.size + 1) C none)) ⟨(hp.push (PySem.W.kdv_tup [])).push (PySem.HandSPX.excO C hp.objs.size), g', dr, tk', os⟩ := I1.laid (t' := tk') kk hsz (exo_ok hget)
  have r2 := hb.rel (vs := [V.ref (hp.objs.size + 1)]) (us := [Value.ref (hp.objs.size + 1)]) (.cons rfl .nil) rz
  have hl : (g [Value.ref (hp.objs.size + 1)] ws).length = ps.length := r2.length.symm.trans (F1.len _ _ _ _ hq)
  have bb := hb.to _ [Value.ref (hp.objs.size + 1)] ws I2.kIn hl
  refine wpAny_call (callK F.excBase_ValueError (fun Y => PySem.HandSPX.refsVE_contains Y bm hbm) (I1.kIn _ _ hC) (PySem.W.looks_findIn I1.kIn iC) (fun self => PySem.W.bind_fn I1.kIn self tI)
    (codeAny_mono (F1.run _ X.stack _ _ ⟨[Value.ref (hp.objs.size + 1)], ks.zip ws⟩ (g [Value.ref (hp.objs.size + 1)] ws) _ _ (fun _ _ _ => False) (hr.make C [] (ks.zip ws)) (I2.env0.make C [] (ks.zip ws)) bb r2 hq) fun r s' hq' => ?_))
  cases r with
  | error er => exact hx pins σ _ _ er s' I2 hq'
  | ok fl =>
    cases fl with
    | ret u =>
      obtain ⟨_, H', I3, rv, ev, q3⟩ := I2.after hq'
      subst ev
      exact ⟨rv, V.ref (hp.objs.size + 1), H', I3, rfl, q3⟩
    | next => exact False.elim hq'
    | brk => exact False.elim hq'
    | cont => exact False.elim hq'
/-! one name; two names, the other way about -/
def g1 {α : Type} : List α → List α → List α
  | [a], [b] => [a, b]
  | _, _ => []
def g2 {α : Type} : List α → List α → List α
  | [a], [b, c] => [a, c, b]
  | _, _ => []
theorem g1_rel {vs : List V} {us : List Value} {zs : List V} {ws : List Value} (r : Vals vs us) (z : Vals zs ws) : Vals (g1 vs zs) (g1 us ws) := by
  cases r with
  | nil => exact .nil
  | cons a r =>
    cases r with
    | nil =>
      cases z with
      | nil => exact .nil
      | cons b z =>
        cases z with
        | nil => exact .cons a (.cons b .nil)
        | cons _ _ => exact .nil
    | cons _ _ => exact .nil
theorem g2_rel {vs : List V} {us : List Value} {zs : List V} {ws : List Value} (r : Vals vs us) (z : Vals zs ws) : Vals (g2 vs zs) (g2 us ws) := by
  cases r with
  | nil => exact .nil
  | cons a r =>
    cases r with
    | nil =>
      cases z with
      | nil => exact .nil
      | cons b z =>
        cases z with
        | nil => exact .nil
        | cons c z =>
          cases z with
          | nil => exact .cons a (.cons c (.cons b .nil))
          | cons _ _ => exact .nil
    | cons _ _ => exact .nil
theorem kb1 {K : PySem.W.Frag} {x qual : Str} {st : Stmt} {f : Addr} {fd : FuncData} {n k : Str} (F : Fun K x qual st f fd)
    (h : ∀ (kV doc pm : Value) (an : Option Addr) (cdv ct a b : Value), bindArgs (PySem.W.fnOf x qual (defArgs st) (defBody st) (defScope st) .none kV doc pm an cdv ct) ⟨[a], [(k, b)]⟩ = pure [(n, a), (k, b)]) : KBinds K fd [n, k] [k] g1 g1 := by
  obtain ⟨oc, od, kV, doc, pm, an, cdv, ct, osl, rfl, lk, hcd⟩ := F.ex
  refine ⟨fun s us ws _ hl => ?_, g1_rel⟩
  match us, ws, hl with
  | [a], [b], _ => exact .of_eq (h kV doc pm an cdv ct a b)
theorem kb2 {K : PySem.W.Frag} {x qual : Str} {st : Stmt} {f : Addr} {fd : FuncData} {n k j : Str} (F : Fun K x qual st f fd)
    (h : ∀ (kV doc pm : Value) (an : Option Addr) (cdv ct a b c : Value), bindArgs (PySem.W.fnOf x qual (defArgs st) (defBody st) (defScope st) .none kV doc pm an cdv ct) ⟨[a], [(j, b), (k, c)]⟩ = pure [(n, a), (k, c), (j, b)]) : KBinds K fd [n, k, j] [j, k] g2 g2 := by
  obtain ⟨oc, od, kV, doc, pm, an, cdv, ct, osl, rfl, lk, hcd⟩ := F.ex
  refine ⟨fun s us ws _ hl => ?_, g2_rel⟩
  match us, ws, hl with
  | [a], [b, c], _ => exact .of_eq (h kV doc pm an cdv ct a b c)
end RD

namespace RD
open PySem PySem.Spec PyProof.Rows L2
def MVX (C : Addr) (sp : Sp) (vs : List V) (H1 : Hp) (Q : VK) : Prop := vs.length ≤ 1000 ∧ ∀ a, H1 a = none → sp (.ref a :: vs) (upd H1 a (exo a C none)) (fun v H2 => v = .non ∧ Q (.ref a) H2) (fun _ _ _ => False)
def MKX (C : Addr) (sp : Sp) (gV : List V → List V → List V) (zs : List V) (H1 : Hp) (Q : VK) : Prop := ∀ a, H1 a = none → sp (gV [.ref a] zs) (upd H1 a (exo a C none)) (fun v H2 => v = .non ∧ Q (.ref a) H2) (fun _ _ _ => False)
theorem mkV {C : Addr} {sp : Sp} {ta : TA} {σ : L2.St} {H : Hp} {Q : VK} (h : ta σ H fun vs H1 => MVX C sp vs H1 Q) : tMkV C sp ta σ H Q := h
theorem mkK {C : Addr} {sp : Sp} {gV : List V → List V → List V} {tk : TA} {σ : L2.St} {H : Hp} {Q : VK} (h : tk σ H fun zs H1 => MKX C sp gV zs H1 Q) : tMkK C sp gV tk σ H Q := h
theorem same_err {H : Hp} {a dx : Addr} {o u : HO} (na : H a = none) (nd : H dx = none) : Same H (upd (upd H dx u) a o) := same_mut (same_new nd) na
/-- C(v) -/
theorem mv1 {C : Addr} {f : Str} {v : V} {H : Hp} {Q : VK} (q : ∀ a H', Same H H' → ErrAt H' a C [(f, v)] → Q (.ref a) H') : MVX C (sp_exi1 C f) [v] H Q := by
  refine ⟨(show 1 ≤ 1000 by decide), fun a na => ⟨a, v, rfl, upd_same, fun dx ndx ne => ⟨rfl, q a _ ?_ ⟨dx, upd_same, by rw [upd_ne ne, upd_same]⟩⟩⟩⟩
  rw [upd_ne ne] at ndx
  exact same_mut (same_mut (same_new na) ndx) na
theorem mn1 {C : Addr} {f : Str} {v : V} {H : Hp} {Q : VK} (q : ∀ a H', Same H H' → ErrAt H' a C [(f, v)] → Q (.ref a) H') : MKX C (sp_exi1 C f) g1 [v] H Q := (mv1 q).2
/-- C(v, u) -/
theorem mv2 {C : Addr} {f g : Str} {v u : V} {H : Hp} {Q : VK} (q : ∀ a H', Same H H' → ErrAt H' a C [(g, u), (f, v)] → Q (.ref a) H') : MVX C (sp_exi2 C f g) [v, u] H Q := by
  refine ⟨(show 2 ≤ 1000 by decide), fun a na => ⟨a, v, u, rfl, upd_same, fun dx ndx ne => ⟨rfl, q a _ ?_ ⟨dx, by rw [upd_ne ne.symm, upd_same], upd_same⟩⟩⟩⟩
  rw [upd_ne ne] at ndx
  exact same_mut (same_mut (same_mut (same_new na) ndx) na) ndx
theorem mn2 {C : Addr} {f g : Str} {v u : V} {H : Hp} {Q : VK} (q : ∀ a H', Same H H' → ErrAt H' a C [(g, u), (f, v)] → Q (.ref a) H') : MKX C (sp_exi2 C f g) g2 [u, v] H Q := (mv2 q).2
end RD

namespace Pf
open PySem PySem.Spec PyProof.Rows L2
def topS (i : Nat) : Stmt := PySem.Challenge.pw_halfmeshes_k15_error_classes.main.body.getD i (.Pass ⟨0, 0, 0, 0⟩)
abbrev s_BadLine_d_initd_ : Stmt := inClass (topS 4) 0
theorem sc_BadLine_d_initd_ : FnScope ["self", "line"] ["self", "line"] (defScope s_BadLine_d_initd_) := ⟨rfl, rfl, rfl, by decide +kernel, rfl, by decide +kernel, by decide +kernel⟩
abbrev s_UnknownName_d_initd_ : Stmt := inClass (topS 5) 0
theorem sc_UnknownName_d_initd_ : FnScope ["self", "line", "name"] ["self", "line", "name"] (defScope s_UnknownName_d_initd_) := ⟨rfl, rfl, rfl, by decide +kernel, rfl, by decide +kernel, by decide +kernel⟩
abbrev s_WrongKind_d_initd_ : Stmt := inClass (topS 6) 0
theorem sc_WrongKind_d_initd_ : FnScope ["self", "line", "name"] ["self", "line", "name"] (defScope s_WrongKind_d_initd_) := ⟨rfl, rfl, rfl, by decide +kernel, rfl, by decide +kernel, by decide +kernel⟩
abbrev s_FactFails_d_initd_ : Stmt := inClass (topS 7) 0
theorem sc_FactFails_d_initd_ : FnScope ["self", "line"] ["self", "line"] (defScope s_FactFails_d_initd_) := ⟨rfl, rfl, rfl, by decide +kernel, rfl, by decide +kernel, by decide +kernel⟩
abbrev s_Broken_d_initd_ : Stmt := inClass (topS 8) 0
theorem sc_Broken_d_initd_ : FnScope ["self", "fault", "line"] ["self", "fault", "line"] (defScope s_Broken_d_initd_) := ⟨rfl, rfl, rfl, by decide +kernel, rfl, by decide +kernel, by decide +kernel⟩
abbrev s_Breaks_d_initd_ : Stmt := inClass (topS 10) 0
theorem sc_Breaks_d_initd_ : FnScope ["self", "mesh", "halves"] ["self", "mesh", "halves"] (defScope s_Breaks_d_initd_) := ⟨rfl, rfl, rfl, by decide +kernel, rfl, by decide +kernel, by decide +kernel⟩
abbrev s_UnknownDeed_d_initd_ : Stmt := inClass (topS 11) 0
theorem sc_UnknownDeed_d_initd_ : FnScope ["self", "name"] ["self", "name"] (defScope s_UnknownDeed_d_initd_) := ⟨rfl, rfl, rfl, by decide +kernel, rfl, by decide +kernel, by decide +kernel⟩
abbrev s_UnknownMark_d_initd_ : Stmt := inClass (topS 12) 0
theorem sc_UnknownMark_d_initd_ : FnScope ["self", "name"] ["self", "name"] (defScope s_UnknownMark_d_initd_) := ⟨rfl, rfl, rfl, by decide +kernel, rfl, by decide +kernel, by decide +kernel⟩
abbrev s_are_integers : Stmt := topS 15
theorem sc_are_integers : FnScope ["values", "value"] ["values"] (defScope s_are_integers) := ⟨rfl, rfl, rfl, by decide +kernel, rfl, by decide +kernel, by decide +kernel⟩
abbrev s_Mesh_d_initd_ : Stmt := inClass (topS 16) 0
theorem sc_Mesh_d_initd_ : FnScope ["self", "nexts", "size", "half", "after"] ["self", "nexts"] (defScope s_Mesh_d_initd_) := ⟨rfl, rfl, rfl, by decide +kernel, rfl, by decide +kernel, by decide +kernel⟩
abbrev s_Mesh_d_lend_ : Stmt := inClass (topS 16) 2
theorem sc_Mesh_d_lend_ : FnScope ["self"] ["self"] (defScope s_Mesh_d_lend_) := ⟨rfl, rfl, rfl, by decide +kernel, rfl, by decide +kernel, by decide +kernel⟩
abbrev s_Mesh_d_containsd_ : Stmt := inClass (topS 16) 3
theorem sc_Mesh_d_containsd_ : FnScope ["self", "half"] ["self", "half"] (defScope s_Mesh_d_containsd_) := ⟨rfl, rfl, rfl, by decide +kernel, rfl, by decide +kernel, by decide +kernel⟩
abbrev s_Mesh_d_eqd_ : Stmt := inClass (topS 16) 4
theorem sc_Mesh_d_eqd_ : FnScope ["self", "other"] ["self", "other"] (defScope s_Mesh_d_eqd_) := ⟨rfl, rfl, rfl, by decide +kernel, rfl, by decide +kernel, by decide +kernel⟩
abbrev s_Mesh_after : Stmt := inClass (topS 16) 5
theorem sc_Mesh_after : FnScope ["self", "half"] ["self", "half"] (defScope s_Mesh_after) := ⟨rfl, rfl, rfl, by decide +kernel, rfl, by decide +kernel, by decide +kernel⟩
abbrev s_Mesh_nexts : Stmt := inClass (topS 16) 9
theorem sc_Mesh_nexts : FnScope ["self"] ["self"] (defScope s_Mesh_nexts) := ⟨rfl, rfl, rfl, by decide +kernel, rfl, by decide +kernel, by decide +kernel⟩
abbrev s_l_tape : Stmt := topS 18
theorem sc_l_tape : FnScope ["_law_script", "_law_k", "_law_cell"] ["_law_script", "_law_k"] (defScope s_l_tape) := ⟨rfl, rfl, rfl, by decide +kernel, rfl, by decide +kernel, by decide +kernel⟩
abbrev s_l_pick : Stmt := topS 19
theorem sc_l_pick : FnScope ["_law_tape_here", "_law_many", "_law_digit", "_law_mixed"] ["_law_tape_here", "_law_many"] (defScope s_l_pick) := ⟨rfl, rfl, rfl, by decide +kernel, rfl, by decide +kernel, by decide +kernel⟩
abbrev s_l_kinds : Stmt := topS 20
theorem sc_l_kinds : FnScope ["_law_e", "_law_found"] ["_law_e"] (defScope s_l_kinds) := ⟨rfl, rfl, rfl, by decide +kernel, rfl, by decide +kernel, by decide +kernel⟩
abbrev s_l_right : Stmt := topS 21
theorem sc_l_right : FnScope ["_law_e", "_law_at", "_law_due", "_law_k"] ["_law_e", "_law_at"] (defScope s_l_right) := ⟨rfl, rfl, rfl, by decide +kernel, rfl, by decide +kernel, by decide +kernel⟩
abbrev s_law : Stmt := topS 22
theorem sc_law : FnScope ["_law_script", "_law_tape_here", "_law_number", "_law_word", "_law_shape", "_law_passed", "_law_spots", "_law_lines", "_law_k", "_law_names", "_law_broken", "_law_spot"] ["_law_script"] (defScope s_law) := ⟨rfl, rfl, rfl, by decide +kernel, rfl, by decide +kernel, by decide +kernel⟩
structure Ad where
  f_BadLine_d_initd_ : Addr
  d_BadLine_d_initd_ : FuncData
  f_UnknownName_d_initd_ : Addr
  d_UnknownName_d_initd_ : FuncData
  f_WrongKind_d_initd_ : Addr
  d_WrongKind_d_initd_ : FuncData
  f_FactFails_d_initd_ : Addr
  d_FactFails_d_initd_ : FuncData
  f_Broken_d_initd_ : Addr
  d_Broken_d_initd_ : FuncData
  f_Breaks_d_initd_ : Addr
  d_Breaks_d_initd_ : FuncData
  f_UnknownDeed_d_initd_ : Addr
  d_UnknownDeed_d_initd_ : FuncData
  f_UnknownMark_d_initd_ : Addr
  d_UnknownMark_d_initd_ : FuncData
  f_are_integers : Addr
  d_are_integers : FuncData
  f_Mesh_d_initd_ : Addr
  d_Mesh_d_initd_ : FuncData
  f_Mesh_d_lend_ : Addr
  d_Mesh_d_lend_ : FuncData
  f_Mesh_d_containsd_ : Addr
  d_Mesh_d_containsd_ : FuncData
  f_Mesh_d_eqd_ : Addr
  d_Mesh_d_eqd_ : FuncData
  f_Mesh_after : Addr
  d_Mesh_after : FuncData
  f_Mesh_nexts : Addr
  d_Mesh_nexts : FuncData
  f_l_tape : Addr
  d_l_tape : FuncData
  f_l_pick : Addr
  d_l_pick : FuncData
  f_l_kinds : Addr
  d_l_kinds : FuncData
  f_l_right : Addr
  d_l_right : FuncData
  f_law : Addr
  d_law : FuncData
  c_MeshError : Addr
  c_NotAMesh : Addr
  c_BadLine : Addr
  c_UnknownName : Addr
  c_WrongKind : Addr
  c_FactFails : Addr
  c_Broken : Addr
  c_NeverGiven : Addr
  c_Breaks : Addr
  c_UnknownDeed : Addr
  c_UnknownMark : Addr
  c_NothingToUndo : Addr
  c_Mesh : Addr
structure Txt (K : PySem.W.Frag) (mg : Str → Option Value) (A : Ad) : Prop where
  F_BadLine_d_initd_ : Fun K "__init__" "BadLine.__init__" s_BadLine_d_initd_ A.f_BadLine_d_initd_ A.d_BadLine_d_initd_
  b_BadLine_d_initd_ : Binds K A.d_BadLine_d_initd_ ["self", "line"] []
  F_UnknownName_d_initd_ : Fun K "__init__" "UnknownName.__init__" s_UnknownName_d_initd_ A.f_UnknownName_d_initd_ A.d_UnknownName_d_initd_
  b_UnknownName_d_initd_ : Binds K A.d_UnknownName_d_initd_ ["self", "line", "name"] []
  F_WrongKind_d_initd_ : Fun K "__init__" "WrongKind.__init__" s_WrongKind_d_initd_ A.f_WrongKind_d_initd_ A.d_WrongKind_d_initd_
  b_WrongKind_d_initd_ : Binds K A.d_WrongKind_d_initd_ ["self", "line", "name"] []
  F_FactFails_d_initd_ : Fun K "__init__" "FactFails.__init__" s_FactFails_d_initd_ A.f_FactFails_d_initd_ A.d_FactFails_d_initd_
  b_FactFails_d_initd_ : Binds K A.d_FactFails_d_initd_ ["self", "line"] []
  F_Broken_d_initd_ : Fun K "__init__" "Broken.__init__" s_Broken_d_initd_ A.f_Broken_d_initd_ A.d_Broken_d_initd_
  b_Broken_d_initd_ : Binds K A.d_Broken_d_initd_ ["self", "fault", "line"] []
  F_Breaks_d_initd_ : Fun K "__init__" "Breaks.__init__" s_Breaks_d_initd_ A.f_Breaks_d_initd_ A.d_Breaks_d_initd_
  b_Breaks_d_initd_ : Binds K A.d_Breaks_d_initd_ ["self", "mesh", "halves"] []
  F_UnknownDeed_d_initd_ : Fun K "__init__" "UnknownDeed.__init__" s_UnknownDeed_d_initd_ A.f_UnknownDeed_d_initd_ A.d_UnknownDeed_d_initd_
  b_UnknownDeed_d_initd_ : Binds K A.d_UnknownDeed_d_initd_ ["self", "name"] []
  F_UnknownMark_d_initd_ : Fun K "__init__" "UnknownMark.__init__" s_UnknownMark_d_initd_ A.f_UnknownMark_d_initd_ A.d_UnknownMark_d_initd_
  b_UnknownMark_d_initd_ : Binds K A.d_UnknownMark_d_initd_ ["self", "name"] []
  F_are_integers : Fun K "are_integers" "are_integers" s_are_integers A.f_are_integers A.d_are_integers
  b_are_integers : Binds K A.d_are_integers ["values"] []
  g_are_integers : mg "are_integers" = some (.ref A.f_are_integers)
  F_Mesh_d_initd_ : Fun K "__init__" "Mesh.__init__" s_Mesh_d_initd_ A.f_Mesh_d_initd_ A.d_Mesh_d_initd_
  b_Mesh_d_initd_ : Binds K A.d_Mesh_d_initd_ ["self", "nexts"] []
  m_Mesh_d_initd_ : Meth K A.c_Mesh "__init__" A.f_Mesh_d_initd_
  F_Mesh_d_lend_ : Fun K "__len__" "Mesh.__len__" s_Mesh_d_lend_ A.f_Mesh_d_lend_ A.d_Mesh_d_lend_
  b_Mesh_d_lend_ : Binds K A.d_Mesh_d_lend_ ["self"] []
  m_Mesh_d_lend_ : Meth K A.c_Mesh "__len__" A.f_Mesh_d_lend_
  F_Mesh_d_containsd_ : Fun K "__contains__" "Mesh.__contains__" s_Mesh_d_containsd_ A.f_Mesh_d_containsd_ A.d_Mesh_d_containsd_
  b_Mesh_d_containsd_ : Binds K A.d_Mesh_d_containsd_ ["self", "half"] []
  m_Mesh_d_containsd_ : Meth K A.c_Mesh "__contains__" A.f_Mesh_d_containsd_
  F_Mesh_d_eqd_ : Fun K "__eq__" "Mesh.__eq__" s_Mesh_d_eqd_ A.f_Mesh_d_eqd_ A.d_Mesh_d_eqd_
  b_Mesh_d_eqd_ : Binds K A.d_Mesh_d_eqd_ ["self", "other"] []
  m_Mesh_d_eqd_ : Meth K A.c_Mesh "__eq__" A.f_Mesh_d_eqd_
  F_Mesh_after : Fun K "after" "Mesh.after" s_Mesh_after A.f_Mesh_after A.d_Mesh_after
  b_Mesh_after : Binds K A.d_Mesh_after ["self", "half"] []
  m_Mesh_after : Meth K A.c_Mesh "after" A.f_Mesh_after
  F_Mesh_nexts : Fun K "nexts" "Mesh.nexts" s_Mesh_nexts A.f_Mesh_nexts A.d_Mesh_nexts
  b_Mesh_nexts : Binds K A.d_Mesh_nexts ["self"] []
  m_Mesh_nexts : Meth K A.c_Mesh "nexts" A.f_Mesh_nexts
  F_l_tape : Fun K "_law_tape" "_law_tape" s_l_tape A.f_l_tape A.d_l_tape
  b_l_tape : Binds K A.d_l_tape ["_law_script", "_law_k"] []
  g_l_tape : mg "_law_tape" = some (.ref A.f_l_tape)
  F_l_pick : Fun K "_law_pick" "_law_pick" s_l_pick A.f_l_pick A.d_l_pick
  b_l_pick : Binds K A.d_l_pick ["_law_tape_here", "_law_many"] []
  g_l_pick : mg "_law_pick" = some (.ref A.f_l_pick)
  F_l_kinds : Fun K "_law_kinds" "_law_kinds" s_l_kinds A.f_l_kinds A.d_l_kinds
  b_l_kinds : Binds K A.d_l_kinds ["_law_e"] []
  g_l_kinds : mg "_law_kinds" = some (.ref A.f_l_kinds)
  F_l_right : Fun K "_law_right" "_law_right" s_l_right A.f_l_right A.d_l_right
  b_l_right : Binds K A.d_l_right ["_law_e", "_law_at"] []
  g_l_right : mg "_law_right" = some (.ref A.f_l_right)
  F_law : Fun K "law" "law" s_law A.f_law A.d_law
  b_law : Binds K A.d_law ["_law_script"] []
  g_law : mg "law" = some (.ref A.f_law)
  g_MeshError : mg "MeshError" = some (.ref A.c_MeshError)
  g_NotAMesh : mg "NotAMesh" = some (.ref A.c_NotAMesh)
  x_NotAMesh : PySem.W.excIn K A.c_NotAMesh [.type "ValueError", .type "Exception", .type "BaseException", .type "object"] "ValueError.__new__" = true
  k_NotAMesh : PySem.W.keepIn K (.ref A.c_NotAMesh) = true
  s_NotAMesh : PySem.W.subIn K (.ref A.c_NotAMesh) (.type "BaseException") = some true
  t_NotAMesh : PySem.W.typeIn K (.ref A.c_NotAMesh) = some (.type "type")
  i_NotAMesh : PySem.W.isClsIn K A.c_NotAMesh = true
  ss_NotAMesh : PySem.W.subIn K (.ref A.c_NotAMesh) (.ref A.c_NotAMesh) = some true
  xg_NotAMesh : PySem.W.findIn K (.ref A.c_NotAMesh) "__getattribute__" = some (some (.builtin "BaseException.__getattribute__"))
  xk_NotAMesh : PySem.W.findIn K (.ref A.c_NotAMesh) "__getattr__" = some none
  xd_NotAMesh : PySem.W.hasDictIn K A.c_NotAMesh = true
  xa_NotAMesh : PySem.W.findIn K (.ref A.c_NotAMesh) "__class__" = some (some (.builtin "object.__class__"))
  xm_NotAMesh : PySem.W.mroIn K A.c_NotAMesh (.type "object") = some true
  ki_NotAMesh_NotAMesh : PySem.W.kitOne K (.ref A.c_NotAMesh) (.ref A.c_NotAMesh) = some true
  ki_NotAMesh_BadLine : PySem.W.kitOne K (.ref A.c_NotAMesh) (.ref A.c_BadLine) = some false
  ki_NotAMesh_UnknownName : PySem.W.kitOne K (.ref A.c_NotAMesh) (.ref A.c_UnknownName) = some false
  ki_NotAMesh_WrongKind : PySem.W.kitOne K (.ref A.c_NotAMesh) (.ref A.c_WrongKind) = some false
  ki_NotAMesh_FactFails : PySem.W.kitOne K (.ref A.c_NotAMesh) (.ref A.c_FactFails) = some false
  ki_NotAMesh_Broken : PySem.W.kitOne K (.ref A.c_NotAMesh) (.ref A.c_Broken) = some false
  ki_NotAMesh_NeverGiven : PySem.W.kitOne K (.ref A.c_NotAMesh) (.ref A.c_NeverGiven) = some false
  ki_NotAMesh_Breaks : PySem.W.kitOne K (.ref A.c_NotAMesh) (.ref A.c_Breaks) = some false
  ki_NotAMesh_UnknownDeed : PySem.W.kitOne K (.ref A.c_NotAMesh) (.ref A.c_UnknownDeed) = some false
  ki_NotAMesh_UnknownMark : PySem.W.kitOne K (.ref A.c_NotAMesh) (.ref A.c_UnknownMark) = some false
  ki_NotAMesh_NothingToUndo : PySem.W.kitOne K (.ref A.c_NotAMesh) (.ref A.c_NothingToUndo) = some false
  ki_NotAMesh_MeshError : PySem.W.kitOne K (.ref A.c_NotAMesh) (.ref A.c_MeshError) = some true
  ki_NotAMesh_ValueError : PySem.W.kitOne K (.ref A.c_NotAMesh) (.type "ValueError") = some true
  g_BadLine : mg "BadLine" = some (.ref A.c_BadLine)
  k_BadLine : PySem.W.keepIn K (.ref A.c_BadLine) = true
  s_BadLine : PySem.W.subIn K (.ref A.c_BadLine) (.type "BaseException") = some true
  t_BadLine : PySem.W.typeIn K (.ref A.c_BadLine) = some (.type "type")
  i_BadLine : PySem.W.isClsIn K A.c_BadLine = true
  ss_BadLine : PySem.W.subIn K (.ref A.c_BadLine) (.ref A.c_BadLine) = some true
  xg_BadLine : PySem.W.findIn K (.ref A.c_BadLine) "__getattribute__" = some (some (.builtin "BaseException.__getattribute__"))
  xk_BadLine : PySem.W.findIn K (.ref A.c_BadLine) "__getattr__" = some none
  xd_BadLine : PySem.W.hasDictIn K A.c_BadLine = true
  xa_BadLine : PySem.W.findIn K (.ref A.c_BadLine) "__class__" = some (some (.builtin "object.__class__"))
  xm_BadLine : PySem.W.mroIn K A.c_BadLine (.type "object") = some true
  ox_BadLine : RD.oexB K A.c_BadLine = true
  sa_BadLine : PySem.W.findIn K (.ref A.c_BadLine) "__setattr__" = some (some (.builtin "object.__setattr__"))
  ini_BadLine : PySem.W.findIn K (.ref A.c_BadLine) "__init__" = some (some (.ref A.f_BadLine_d_initd_))
  tin_BadLine : PySem.W.typeIn K (.ref A.f_BadLine_d_initd_) = some (.type "function")
  na_BadLine_line : PySem.W.findIn K (.ref A.c_BadLine) "line" = some none
  ki_BadLine_NotAMesh : PySem.W.kitOne K (.ref A.c_BadLine) (.ref A.c_NotAMesh) = some false
  ki_BadLine_BadLine : PySem.W.kitOne K (.ref A.c_BadLine) (.ref A.c_BadLine) = some true
  ki_BadLine_UnknownName : PySem.W.kitOne K (.ref A.c_BadLine) (.ref A.c_UnknownName) = some false
  ki_BadLine_WrongKind : PySem.W.kitOne K (.ref A.c_BadLine) (.ref A.c_WrongKind) = some false
  ki_BadLine_FactFails : PySem.W.kitOne K (.ref A.c_BadLine) (.ref A.c_FactFails) = some false
  ki_BadLine_Broken : PySem.W.kitOne K (.ref A.c_BadLine) (.ref A.c_Broken) = some false
  ki_BadLine_NeverGiven : PySem.W.kitOne K (.ref A.c_BadLine) (.ref A.c_NeverGiven) = some false
  ki_BadLine_Breaks : PySem.W.kitOne K (.ref A.c_BadLine) (.ref A.c_Breaks) = some false
  ki_BadLine_UnknownDeed : PySem.W.kitOne K (.ref A.c_BadLine) (.ref A.c_UnknownDeed) = some false
  ki_BadLine_UnknownMark : PySem.W.kitOne K (.ref A.c_BadLine) (.ref A.c_UnknownMark) = some false
  ki_BadLine_NothingToUndo : PySem.W.kitOne K (.ref A.c_BadLine) (.ref A.c_NothingToUndo) = some false
  ki_BadLine_MeshError : PySem.W.kitOne K (.ref A.c_BadLine) (.ref A.c_MeshError) = some true
  ki_BadLine_ValueError : PySem.W.kitOne K (.ref A.c_BadLine) (.type "ValueError") = some true
  g_UnknownName : mg "UnknownName" = some (.ref A.c_UnknownName)
  k_UnknownName : PySem.W.keepIn K (.ref A.c_UnknownName) = true
  s_UnknownName : PySem.W.subIn K (.ref A.c_UnknownName) (.type "BaseException") = some true
  t_UnknownName : PySem.W.typeIn K (.ref A.c_UnknownName) = some (.type "type")
  i_UnknownName : PySem.W.isClsIn K A.c_UnknownName = true
  ss_UnknownName : PySem.W.subIn K (.ref A.c_UnknownName) (.ref A.c_UnknownName) = some true
  xg_UnknownName : PySem.W.findIn K (.ref A.c_UnknownName) "__getattribute__" = some (some (.builtin "BaseException.__getattribute__"))
  xk_UnknownName : PySem.W.findIn K (.ref A.c_UnknownName) "__getattr__" = some none
  xd_UnknownName : PySem.W.hasDictIn K A.c_UnknownName = true
  xa_UnknownName : PySem.W.findIn K (.ref A.c_UnknownName) "__class__" = some (some (.builtin "object.__class__"))
  xm_UnknownName : PySem.W.mroIn K A.c_UnknownName (.type "object") = some true
  ox_UnknownName : RD.oexB K A.c_UnknownName = true
  sa_UnknownName : PySem.W.findIn K (.ref A.c_UnknownName) "__setattr__" = some (some (.builtin "object.__setattr__"))
  ini_UnknownName : PySem.W.findIn K (.ref A.c_UnknownName) "__init__" = some (some (.ref A.f_UnknownName_d_initd_))
  tin_UnknownName : PySem.W.typeIn K (.ref A.f_UnknownName_d_initd_) = some (.type "function")
  na_UnknownName_line : PySem.W.findIn K (.ref A.c_UnknownName) "line" = some none
  na_UnknownName_name : PySem.W.findIn K (.ref A.c_UnknownName) "name" = some none
  ki_UnknownName_NotAMesh : PySem.W.kitOne K (.ref A.c_UnknownName) (.ref A.c_NotAMesh) = some false
  ki_UnknownName_BadLine : PySem.W.kitOne K (.ref A.c_UnknownName) (.ref A.c_BadLine) = some false
  ki_UnknownName_UnknownName : PySem.W.kitOne K (.ref A.c_UnknownName) (.ref A.c_UnknownName) = some true
  ki_UnknownName_WrongKind : PySem.W.kitOne K (.ref A.c_UnknownName) (.ref A.c_WrongKind) = some false
  ki_UnknownName_FactFails : PySem.W.kitOne K (.ref A.c_UnknownName) (.ref A.c_FactFails) = some false
  ki_UnknownName_Broken : PySem.W.kitOne K (.ref A.c_UnknownName) (.ref A.c_Broken) = some false
  ki_UnknownName_NeverGiven : PySem.W.kitOne K (.ref A.c_UnknownName) (.ref A.c_NeverGiven) = some false
  ki_UnknownName_Breaks : PySem.W.kitOne K (.ref A.c_UnknownName) (.ref A.c_Breaks) = some false
  ki_UnknownName_UnknownDeed : PySem.W.kitOne K (.ref A.c_UnknownName) (.ref A.c_UnknownDeed) = some false
  ki_UnknownName_UnknownMark : PySem.W.kitOne K (.ref A.c_UnknownName) (.ref A.c_UnknownMark) = some false
  ki_UnknownName_NothingToUndo : PySem.W.kitOne K (.ref A.c_UnknownName) (.ref A.c_NothingToUndo) = some false
  ki_UnknownName_MeshError : PySem.W.kitOne K (.ref A.c_UnknownName) (.ref A.c_MeshError) = some true
  ki_UnknownName_ValueError : PySem.W.kitOne K (.ref A.c_UnknownName) (.type "ValueError") = some true
  g_WrongKind : mg "WrongKind" = some (.ref A.c_WrongKind)
  k_WrongKind : PySem.W.keepIn K (.ref A.c_WrongKind) = true
  s_WrongKind : PySem.W.subIn K (.ref A.c_WrongKind) (.type "BaseException") = some true
  t_WrongKind : PySem.W.typeIn K (.ref A.c_WrongKind) = some (.type "type")
  i_WrongKind : PySem.W.isClsIn K A.c_WrongKind = true
  ss_WrongKind : PySem.W.subIn K (.ref A.c_WrongKind) (.ref A.c_WrongKind) = some true
  xg_WrongKind : PySem.W.findIn K (.ref A.c_WrongKind) "__getattribute__" = some (some (.builtin "BaseException.__getattribute__"))
  xk_WrongKind : PySem.W.findIn K (.ref A.c_WrongKind) "__getattr__" = some none
  xd_WrongKind : PySem.W.hasDictIn K A.c_WrongKind = true
  xa_WrongKind : PySem.W.findIn K (.ref A.c_WrongKind) "__class__" = some (some (.builtin "object.__class__"))
  xm_WrongKind : PySem.W.mroIn K A.c_WrongKind (.type "object") = some true
  ox_WrongKind : RD.oexB K A.c_WrongKind = true
  sa_WrongKind : PySem.W.findIn K (.ref A.c_WrongKind) "__setattr__" = some (some (.builtin "object.__setattr__"))
  ini_WrongKind : PySem.W.findIn K (.ref A.c_WrongKind) "__init__" = some (some (.ref A.f_WrongKind_d_initd_))
  tin_WrongKind : PySem.W.typeIn K (.ref A.f_WrongKind_d_initd_) = some (.type "function")
  na_WrongKind_line : PySem.W.findIn K (.ref A.c_WrongKind) "line" = some none
  na_WrongKind_name : PySem.W.findIn K (.ref A.c_WrongKind) "name" = some none
  ki_WrongKind_NotAMesh : PySem.W.kitOne K (.ref A.c_WrongKind) (.ref A.c_NotAMesh) = some false
  ki_WrongKind_BadLine : PySem.W.kitOne K (.ref A.c_WrongKind) (.ref A.c_BadLine) = some false
  ki_WrongKind_UnknownName : PySem.W.kitOne K (.ref A.c_WrongKind) (.ref A.c_UnknownName) = some false
  ki_WrongKind_WrongKind : PySem.W.kitOne K (.ref A.c_WrongKind) (.ref A.c_WrongKind) = some true
  ki_WrongKind_FactFails : PySem.W.kitOne K (.ref A.c_WrongKind) (.ref A.c_FactFails) = some false
  ki_WrongKind_Broken : PySem.W.kitOne K (.ref A.c_WrongKind) (.ref A.c_Broken) = some false
  ki_WrongKind_NeverGiven : PySem.W.kitOne K (.ref A.c_WrongKind) (.ref A.c_NeverGiven) = some false
  ki_WrongKind_Breaks : PySem.W.kitOne K (.ref A.c_WrongKind) (.ref A.c_Breaks) = some false
  ki_WrongKind_UnknownDeed : PySem.W.kitOne K (.ref A.c_WrongKind) (.ref A.c_UnknownDeed) = some false
  ki_WrongKind_UnknownMark : PySem.W.kitOne K (.ref A.c_WrongKind) (.ref A.c_UnknownMark) = some false
  ki_WrongKind_NothingToUndo : PySem.W.kitOne K (.ref A.c_WrongKind) (.ref A.c_NothingToUndo) = some false
  ki_WrongKind_MeshError : PySem.W.kitOne K (.ref A.c_WrongKind) (.ref A.c_MeshError) = some true
  ki_WrongKind_ValueError : PySem.W.kitOne K (.ref A.c_WrongKind) (.type "ValueError") = some true
  g_FactFails : mg "FactFails" = some (.ref A.c_FactFails)
  k_FactFails : PySem.W.keepIn K (.ref A.c_FactFails) = true
  s_FactFails : PySem.W.subIn K (.ref A.c_FactFails) (.type "BaseException") = some true
  t_FactFails : PySem.W.typeIn K (.ref A.c_FactFails) = some (.type "type")
  i_FactFails : PySem.W.isClsIn K A.c_FactFails = true
  ss_FactFails : PySem.W.subIn K (.ref A.c_FactFails) (.ref A.c_FactFails) = some true
  xg_FactFails : PySem.W.findIn K (.ref A.c_FactFails) "__getattribute__" = some (some (.builtin "BaseException.__getattribute__"))
  xk_FactFails : PySem.W.findIn K (.ref A.c_FactFails) "__getattr__" = some none
  xd_FactFails : PySem.W.hasDictIn K A.c_FactFails = true
  xa_FactFails : PySem.W.findIn K (.ref A.c_FactFails) "__class__" = some (some (.builtin "object.__class__"))
  xm_FactFails : PySem.W.mroIn K A.c_FactFails (.type "object") = some true
  ox_FactFails : RD.oexB K A.c_FactFails = true
  sa_FactFails : PySem.W.findIn K (.ref A.c_FactFails) "__setattr__" = some (some (.builtin "object.__setattr__"))
  ini_FactFails : PySem.W.findIn K (.ref A.c_FactFails) "__init__" = some (some (.ref A.f_FactFails_d_initd_))
  tin_FactFails : PySem.W.typeIn K (.ref A.f_FactFails_d_initd_) = some (.type "function")
  na_FactFails_line : PySem.W.findIn K (.ref A.c_FactFails) "line" = some none
  ki_FactFails_NotAMesh : PySem.W.kitOne K (.ref A.c_FactFails) (.ref A.c_NotAMesh) = some false
  ki_FactFails_BadLine : PySem.W.kitOne K (.ref A.c_FactFails) (.ref A.c_BadLine) = some false
  ki_FactFails_UnknownName : PySem.W.kitOne K (.ref A.c_FactFails) (.ref A.c_UnknownName) = some false
  ki_FactFails_WrongKind : PySem.W.kitOne K (.ref A.c_FactFails) (.ref A.c_WrongKind) = some false
  ki_FactFails_FactFails : PySem.W.kitOne K (.ref A.c_FactFails) (.ref A.c_FactFails) = some true
  ki_FactFails_Broken : PySem.W.kitOne K (.ref A.c_FactFails) (.ref A.c_Broken) = some false
  ki_FactFails_NeverGiven : PySem.W.kitOne K (.ref A.c_FactFails) (.ref A.c_NeverGiven) = some false
  ki_FactFails_Breaks : PySem.W.kitOne K (.ref A.c_FactFails) (.ref A.c_Breaks) = some false
  ki_FactFails_UnknownDeed : PySem.W.kitOne K (.ref A.c_FactFails) (.ref A.c_UnknownDeed) = some false
  ki_FactFails_UnknownMark : PySem.W.kitOne K (.ref A.c_FactFails) (.ref A.c_UnknownMark) = some false
  ki_FactFails_NothingToUndo : PySem.W.kitOne K (.ref A.c_FactFails) (.ref A.c_NothingToUndo) = some false
  ki_FactFails_MeshError : PySem.W.kitOne K (.ref A.c_FactFails) (.ref A.c_MeshError) = some true
  ki_FactFails_ValueError : PySem.W.kitOne K (.ref A.c_FactFails) (.type "ValueError") = some true
  g_Broken : mg "Broken" = some (.ref A.c_Broken)
  k_Broken : PySem.W.keepIn K (.ref A.c_Broken) = true
  s_Broken : PySem.W.subIn K (.ref A.c_Broken) (.type "BaseException") = some true
  t_Broken : PySem.W.typeIn K (.ref A.c_Broken) = some (.type "type")
  i_Broken : PySem.W.isClsIn K A.c_Broken = true
  ss_Broken : PySem.W.subIn K (.ref A.c_Broken) (.ref A.c_Broken) = some true
  xg_Broken : PySem.W.findIn K (.ref A.c_Broken) "__getattribute__" = some (some (.builtin "BaseException.__getattribute__"))
  xk_Broken : PySem.W.findIn K (.ref A.c_Broken) "__getattr__" = some none
  xd_Broken : PySem.W.hasDictIn K A.c_Broken = true
  xa_Broken : PySem.W.findIn K (.ref A.c_Broken) "__class__" = some (some (.builtin "object.__class__"))
  xm_Broken : PySem.W.mroIn K A.c_Broken (.type "object") = some true
  ox_Broken : RD.oexB K A.c_Broken = true
  sa_Broken : PySem.W.findIn K (.ref A.c_Broken) "__setattr__" = some (some (.builtin "object.__setattr__"))
  ini_Broken : PySem.W.findIn K (.ref A.c_Broken) "__init__" = some (some (.ref A.f_Broken_d_initd_))
  tin_Broken : PySem.W.typeIn K (.ref A.f_Broken_d_initd_) = some (.type "function")
  na_Broken_fault : PySem.W.findIn K (.ref A.c_Broken) "fault" = some none
  na_Broken_line : PySem.W.findIn K (.ref A.c_Broken) "line" = some none
  ki_Broken_NotAMesh : PySem.W.kitOne K (.ref A.c_Broken) (.ref A.c_NotAMesh) = some false
  ki_Broken_BadLine : PySem.W.kitOne K (.ref A.c_Broken) (.ref A.c_BadLine) = some false
  ki_Broken_UnknownName : PySem.W.kitOne K (.ref A.c_Broken) (.ref A.c_UnknownName) = some false
  ki_Broken_WrongKind : PySem.W.kitOne K (.ref A.c_Broken) (.ref A.c_WrongKind) = some false
  ki_Broken_FactFails : PySem.W.kitOne K (.ref A.c_Broken) (.ref A.c_FactFails) = some false
  ki_Broken_Broken : PySem.W.kitOne K (.ref A.c_Broken) (.ref A.c_Broken) = some true
  ki_Broken_NeverGiven : PySem.W.kitOne K (.ref A.c_Broken) (.ref A.c_NeverGiven) = some false
  ki_Broken_Breaks : PySem.W.kitOne K (.ref A.c_Broken) (.ref A.c_Breaks) = some false
  ki_Broken_UnknownDeed : PySem.W.kitOne K (.ref A.c_Broken) (.ref A.c_UnknownDeed) = some false
  ki_Broken_UnknownMark : PySem.W.kitOne K (.ref A.c_Broken) (.ref A.c_UnknownMark) = some false
  ki_Broken_NothingToUndo : PySem.W.kitOne K (.ref A.c_Broken) (.ref A.c_NothingToUndo) = some false
  ki_Broken_MeshError : PySem.W.kitOne K (.ref A.c_Broken) (.ref A.c_MeshError) = some true
  ki_Broken_ValueError : PySem.W.kitOne K (.ref A.c_Broken) (.type "ValueError") = some true
  g_NeverGiven : mg "NeverGiven" = some (.ref A.c_NeverGiven)
  x_NeverGiven : PySem.W.excIn K A.c_NeverGiven [.type "ValueError", .type "Exception", .type "BaseException", .type "object"] "ValueError.__new__" = true
  k_NeverGiven : PySem.W.keepIn K (.ref A.c_NeverGiven) = true
  s_NeverGiven : PySem.W.subIn K (.ref A.c_NeverGiven) (.type "BaseException") = some true
  t_NeverGiven : PySem.W.typeIn K (.ref A.c_NeverGiven) = some (.type "type")
  i_NeverGiven : PySem.W.isClsIn K A.c_NeverGiven = true
  ss_NeverGiven : PySem.W.subIn K (.ref A.c_NeverGiven) (.ref A.c_NeverGiven) = some true
  xg_NeverGiven : PySem.W.findIn K (.ref A.c_NeverGiven) "__getattribute__" = some (some (.builtin "BaseException.__getattribute__"))
  xk_NeverGiven : PySem.W.findIn K (.ref A.c_NeverGiven) "__getattr__" = some none
  xd_NeverGiven : PySem.W.hasDictIn K A.c_NeverGiven = true
  xa_NeverGiven : PySem.W.findIn K (.ref A.c_NeverGiven) "__class__" = some (some (.builtin "object.__class__"))
  xm_NeverGiven : PySem.W.mroIn K A.c_NeverGiven (.type "object") = some true
  ki_NeverGiven_NotAMesh : PySem.W.kitOne K (.ref A.c_NeverGiven) (.ref A.c_NotAMesh) = some false
  ki_NeverGiven_BadLine : PySem.W.kitOne K (.ref A.c_NeverGiven) (.ref A.c_BadLine) = some false
  ki_NeverGiven_UnknownName : PySem.W.kitOne K (.ref A.c_NeverGiven) (.ref A.c_UnknownName) = some false
  ki_NeverGiven_WrongKind : PySem.W.kitOne K (.ref A.c_NeverGiven) (.ref A.c_WrongKind) = some false
  ki_NeverGiven_FactFails : PySem.W.kitOne K (.ref A.c_NeverGiven) (.ref A.c_FactFails) = some false
  ki_NeverGiven_Broken : PySem.W.kitOne K (.ref A.c_NeverGiven) (.ref A.c_Broken) = some false
  ki_NeverGiven_NeverGiven : PySem.W.kitOne K (.ref A.c_NeverGiven) (.ref A.c_NeverGiven) = some true
  ki_NeverGiven_Breaks : PySem.W.kitOne K (.ref A.c_NeverGiven) (.ref A.c_Breaks) = some false
  ki_NeverGiven_UnknownDeed : PySem.W.kitOne K (.ref A.c_NeverGiven) (.ref A.c_UnknownDeed) = some false
  ki_NeverGiven_UnknownMark : PySem.W.kitOne K (.ref A.c_NeverGiven) (.ref A.c_UnknownMark) = some false
  ki_NeverGiven_NothingToUndo : PySem.W.kitOne K (.ref A.c_NeverGiven) (.ref A.c_NothingToUndo) = some false
  ki_NeverGiven_MeshError : PySem.W.kitOne K (.ref A.c_NeverGiven) (.ref A.c_MeshError) = some true
  ki_NeverGiven_ValueError : PySem.W.kitOne K (.ref A.c_NeverGiven) (.type "ValueError") = some true
  g_Breaks : mg "Breaks" = some (.ref A.c_Breaks)
  k_Breaks : PySem.W.keepIn K (.ref A.c_Breaks) = true
  s_Breaks : PySem.W.subIn K (.ref A.c_Breaks) (.type "BaseException") = some true
  t_Breaks : PySem.W.typeIn K (.ref A.c_Breaks) = some (.type "type")
  i_Breaks : PySem.W.isClsIn K A.c_Breaks = true
  ss_Breaks : PySem.W.subIn K (.ref A.c_Breaks) (.ref A.c_Breaks) = some true
  xg_Breaks : PySem.W.findIn K (.ref A.c_Breaks) "__getattribute__" = some (some (.builtin "BaseException.__getattribute__"))
  xk_Breaks : PySem.W.findIn K (.ref A.c_Breaks) "__getattr__" = some none
  xd_Breaks : PySem.W.hasDictIn K A.c_Breaks = true
  xa_Breaks : PySem.W.findIn K (.ref A.c_Breaks) "__class__" = some (some (.builtin "object.__class__"))
  xm_Breaks : PySem.W.mroIn K A.c_Breaks (.type "object") = some true
  ox_Breaks : RD.oexB K A.c_Breaks = true
  sa_Breaks : PySem.W.findIn K (.ref A.c_Breaks) "__setattr__" = some (some (.builtin "object.__setattr__"))
  ini_Breaks : PySem.W.findIn K (.ref A.c_Breaks) "__init__" = some (some (.ref A.f_Breaks_d_initd_))
  tin_Breaks : PySem.W.typeIn K (.ref A.f_Breaks_d_initd_) = some (.type "function")
  na_Breaks_mesh : PySem.W.findIn K (.ref A.c_Breaks) "mesh" = some none
  na_Breaks_halves : PySem.W.findIn K (.ref A.c_Breaks) "halves" = some none
  ki_Breaks_NotAMesh : PySem.W.kitOne K (.ref A.c_Breaks) (.ref A.c_NotAMesh) = some false
  ki_Breaks_BadLine : PySem.W.kitOne K (.ref A.c_Breaks) (.ref A.c_BadLine) = some false
  ki_Breaks_UnknownName : PySem.W.kitOne K (.ref A.c_Breaks) (.ref A.c_UnknownName) = some false
  ki_Breaks_WrongKind : PySem.W.kitOne K (.ref A.c_Breaks) (.ref A.c_WrongKind) = some false
  ki_Breaks_FactFails : PySem.W.kitOne K (.ref A.c_Breaks) (.ref A.c_FactFails) = some false
  ki_Breaks_Broken : PySem.W.kitOne K (.ref A.c_Breaks) (.ref A.c_Broken) = some false
  ki_Breaks_NeverGiven : PySem.W.kitOne K (.ref A.c_Breaks) (.ref A.c_NeverGiven) = some false
  ki_Breaks_Breaks : PySem.W.kitOne K (.ref A.c_Breaks) (.ref A.c_Breaks) = some true
  ki_Breaks_UnknownDeed : PySem.W.kitOne K (.ref A.c_Breaks) (.ref A.c_UnknownDeed) = some false
  ki_Breaks_UnknownMark : PySem.W.kitOne K (.ref A.c_Breaks) (.ref A.c_UnknownMark) = some false
  ki_Breaks_NothingToUndo : PySem.W.kitOne K (.ref A.c_Breaks) (.ref A.c_NothingToUndo) = some false
  ki_Breaks_MeshError : PySem.W.kitOne K (.ref A.c_Breaks) (.ref A.c_MeshError) = some true
  ki_Breaks_ValueError : PySem.W.kitOne K (.ref A.c_Breaks) (.type "ValueError") = some true
  g_UnknownDeed : mg "UnknownDeed" = some (.ref A.c_UnknownDeed)
  k_UnknownDeed : PySem.W.keepIn K (.ref A.c_UnknownDeed) = true
  s_UnknownDeed : PySem.W.subIn K (.ref A.c_UnknownDeed) (.type "BaseException") = some true
  t_UnknownDeed : PySem.W.typeIn K (.ref A.c_UnknownDeed) = some (.type "type")
  i_UnknownDeed : PySem.W.isClsIn K A.c_UnknownDeed = true
  ss_UnknownDeed : PySem.W.subIn K (.ref A.c_UnknownDeed) (.ref A.c_UnknownDeed) = some true
  xg_UnknownDeed : PySem.W.findIn K (.ref A.c_UnknownDeed) "__getattribute__" = some (some (.builtin "BaseException.__getattribute__"))
  xk_UnknownDeed : PySem.W.findIn K (.ref A.c_UnknownDeed) "__getattr__" = some none
  xd_UnknownDeed : PySem.W.hasDictIn K A.c_UnknownDeed = true
  xa_UnknownDeed : PySem.W.findIn K (.ref A.c_UnknownDeed) "__class__" = some (some (.builtin "object.__class__"))
  xm_UnknownDeed : PySem.W.mroIn K A.c_UnknownDeed (.type "object") = some true
  ox_UnknownDeed : RD.oexB K A.c_UnknownDeed = true
  sa_UnknownDeed : PySem.W.findIn K (.ref A.c_UnknownDeed) "__setattr__" = some (some (.builtin "object.__setattr__"))
  ini_UnknownDeed : PySem.W.findIn K (.ref A.c_UnknownDeed) "__init__" = some (some (.ref A.f_UnknownDeed_d_initd_))
  tin_UnknownDeed : PySem.W.typeIn K (.ref A.f_UnknownDeed_d_initd_) = some (.type "function")
  na_UnknownDeed_name : PySem.W.findIn K (.ref A.c_UnknownDeed) "name" = some none
  ki_UnknownDeed_NotAMesh : PySem.W.kitOne K (.ref A.c_UnknownDeed) (.ref A.c_NotAMesh) = some false
  ki_UnknownDeed_BadLine : PySem.W.kitOne K (.ref A.c_UnknownDeed) (.ref A.c_BadLine) = some false
  ki_UnknownDeed_UnknownName : PySem.W.kitOne K (.ref A.c_UnknownDeed) (.ref A.c_UnknownName) = some false
  ki_UnknownDeed_WrongKind : PySem.W.kitOne K (.ref A.c_UnknownDeed) (.ref A.c_WrongKind) = some false
  ki_UnknownDeed_FactFails : PySem.W.kitOne K (.ref A.c_UnknownDeed) (.ref A.c_FactFails) = some false
  ki_UnknownDeed_Broken : PySem.W.kitOne K (.ref A.c_UnknownDeed) (.ref A.c_Broken) = some false
  ki_UnknownDeed_NeverGiven : PySem.W.kitOne K (.ref A.c_UnknownDeed) (.ref A.c_NeverGiven) = some false
  ki_UnknownDeed_Breaks : PySem.W.kitOne K (.ref A.c_UnknownDeed) (.ref A.c_Breaks) = some false
  ki_UnknownDeed_UnknownDeed : PySem.W.kitOne K (.ref A.c_UnknownDeed) (.ref A.c_UnknownDeed) = some true
  ki_UnknownDeed_UnknownMark : PySem.W.kitOne K (.ref A.c_UnknownDeed) (.ref A.c_UnknownMark) = some false
  ki_UnknownDeed_NothingToUndo : PySem.W.kitOne K (.ref A.c_UnknownDeed) (.ref A.c_NothingToUndo) = some false
  ki_UnknownDeed_MeshError : PySem.W.kitOne K (.ref A.c_UnknownDeed) (.ref A.c_MeshError) = some true
  ki_UnknownDeed_ValueError : PySem.W.kitOne K (.ref A.c_UnknownDeed) (.type "ValueError") = some true
  g_UnknownMark : mg "UnknownMark" = some (.ref A.c_UnknownMark)
  k_UnknownMark : PySem.W.keepIn K (.ref A.c_UnknownMark) = true
  s_UnknownMark : PySem.W.subIn K (.ref A.c_UnknownMark) (.type "BaseException") = some true
  t_UnknownMark : PySem.W.typeIn K (.ref A.c_UnknownMark) = some (.type "type")
  i_UnknownMark : PySem.W.isClsIn K A.c_UnknownMark = true
  ss_UnknownMark : PySem.W.subIn K (.ref A.c_UnknownMark) (.ref A.c_UnknownMark) = some true
  xg_UnknownMark : PySem.W.findIn K (.ref A.c_UnknownMark) "__getattribute__" = some (some (.builtin "BaseException.__getattribute__"))
  xk_UnknownMark : PySem.W.findIn K (.ref A.c_UnknownMark) "__getattr__" = some none
  xd_UnknownMark : PySem.W.hasDictIn K A.c_UnknownMark = true
  xa_UnknownMark : PySem.W.findIn K (.ref A.c_UnknownMark) "__class__" = some (some (.builtin "object.__class__"))
  xm_UnknownMark : PySem.W.mroIn K A.c_UnknownMark (.type "object") = some true
  ox_UnknownMark : RD.oexB K A.c_UnknownMark = true
  sa_UnknownMark : PySem.W.findIn K (.ref A.c_UnknownMark) "__setattr__" = some (some (.builtin "object.__setattr__"))
  ini_UnknownMark : PySem.W.findIn K (.ref A.c_UnknownMark) "__init__" = some (some (.ref A.f_UnknownMark_d_initd_))
  tin_UnknownMark : PySem.W.typeIn K (.ref A.f_UnknownMark_d_initd_) = some (.type "function")
  na_UnknownMark_name : PySem.W.findIn K (.ref A.c_UnknownMark) "name" = some none
  ki_UnknownMark_NotAMesh : PySem.W.kitOne K (.ref A.c_UnknownMark) (.ref A.c_NotAMesh) = some false
  ki_UnknownMark_BadLine : PySem.W.kitOne K (.ref A.c_UnknownMark) (.ref A.c_BadLine) = some false
  ki_UnknownMark_UnknownName : PySem.W.kitOne K (.ref A.c_UnknownMark) (.ref A.c_UnknownName) = some false
  ki_UnknownMark_WrongKind : PySem.W.kitOne K (.ref A.c_UnknownMark) (.ref A.c_WrongKind) = some false
  ki_UnknownMark_FactFails : PySem.W.kitOne K (.ref A.c_UnknownMark) (.ref A.c_FactFails) = some false
  ki_UnknownMark_Broken : PySem.W.kitOne K (.ref A.c_UnknownMark) (.ref A.c_Broken) = some false
  ki_UnknownMark_NeverGiven : PySem.W.kitOne K (.ref A.c_UnknownMark) (.ref A.c_NeverGiven) = some false
  ki_UnknownMark_Breaks : PySem.W.kitOne K (.ref A.c_UnknownMark) (.ref A.c_Breaks) = some false
  ki_UnknownMark_UnknownDeed : PySem.W.kitOne K (.ref A.c_UnknownMark) (.ref A.c_UnknownDeed) = some false
  ki_UnknownMark_UnknownMark : PySem.W.kitOne K (.ref A.c_UnknownMark) (.ref A.c_UnknownMark) = some true
  ki_UnknownMark_NothingToUndo : PySem.W.kitOne K (.ref A.c_UnknownMark) (.ref A.c_NothingToUndo) = some false
  ki_UnknownMark_MeshError : PySem.W.kitOne K (.ref A.c_UnknownMark) (.ref A.c_MeshError) = some true
  ki_UnknownMark_ValueError : PySem.W.kitOne K (.ref A.c_UnknownMark) (.type "ValueError") = some true
  g_NothingToUndo : mg "NothingToUndo" = some (.ref A.c_NothingToUndo)
  x_NothingToUndo : PySem.W.excIn K A.c_NothingToUndo [.type "ValueError", .type "Exception", .type "BaseException", .type "object"] "ValueError.__new__" = true
  k_NothingToUndo : PySem.W.keepIn K (.ref A.c_NothingToUndo) = true
  s_NothingToUndo : PySem.W.subIn K (.ref A.c_NothingToUndo) (.type "BaseException") = some true
  t_NothingToUndo : PySem.W.typeIn K (.ref A.c_NothingToUndo) = some (.type "type")
  i_NothingToUndo : PySem.W.isClsIn K A.c_NothingToUndo = true
  ss_NothingToUndo : PySem.W.subIn K (.ref A.c_NothingToUndo) (.ref A.c_NothingToUndo) = some true
  xg_NothingToUndo : PySem.W.findIn K (.ref A.c_NothingToUndo) "__getattribute__" = some (some (.builtin "BaseException.__getattribute__"))
  xk_NothingToUndo : PySem.W.findIn K (.ref A.c_NothingToUndo) "__getattr__" = some none
  xd_NothingToUndo : PySem.W.hasDictIn K A.c_NothingToUndo = true
  xa_NothingToUndo : PySem.W.findIn K (.ref A.c_NothingToUndo) "__class__" = some (some (.builtin "object.__class__"))
  xm_NothingToUndo : PySem.W.mroIn K A.c_NothingToUndo (.type "object") = some true
  ki_NothingToUndo_NotAMesh : PySem.W.kitOne K (.ref A.c_NothingToUndo) (.ref A.c_NotAMesh) = some false
  ki_NothingToUndo_BadLine : PySem.W.kitOne K (.ref A.c_NothingToUndo) (.ref A.c_BadLine) = some false
  ki_NothingToUndo_UnknownName : PySem.W.kitOne K (.ref A.c_NothingToUndo) (.ref A.c_UnknownName) = some false
  ki_NothingToUndo_WrongKind : PySem.W.kitOne K (.ref A.c_NothingToUndo) (.ref A.c_WrongKind) = some false
  ki_NothingToUndo_FactFails : PySem.W.kitOne K (.ref A.c_NothingToUndo) (.ref A.c_FactFails) = some false
  ki_NothingToUndo_Broken : PySem.W.kitOne K (.ref A.c_NothingToUndo) (.ref A.c_Broken) = some false
  ki_NothingToUndo_NeverGiven : PySem.W.kitOne K (.ref A.c_NothingToUndo) (.ref A.c_NeverGiven) = some false
  ki_NothingToUndo_Breaks : PySem.W.kitOne K (.ref A.c_NothingToUndo) (.ref A.c_Breaks) = some false
  ki_NothingToUndo_UnknownDeed : PySem.W.kitOne K (.ref A.c_NothingToUndo) (.ref A.c_UnknownDeed) = some false
  ki_NothingToUndo_UnknownMark : PySem.W.kitOne K (.ref A.c_NothingToUndo) (.ref A.c_UnknownMark) = some false
  ki_NothingToUndo_NothingToUndo : PySem.W.kitOne K (.ref A.c_NothingToUndo) (.ref A.c_NothingToUndo) = some true
  ki_NothingToUndo_MeshError : PySem.W.kitOne K (.ref A.c_NothingToUndo) (.ref A.c_MeshError) = some true
  ki_NothingToUndo_ValueError : PySem.W.kitOne K (.ref A.c_NothingToUndo) (.type "ValueError") = some true
  g_Mesh : mg "Mesh" = some (.ref A.c_Mesh)
  cl_Mesh : Cls K A.c_Mesh
  mk_Mesh : Mk K A.c_Mesh A.f_Mesh_d_initd_
  n_Mesh_following : NoAttr K A.c_Mesh "following"
  n_Mesh_preceding : NoAttr K A.c_Mesh "preceding"
  nf_list : PySem.W.notFirst K A.c_Mesh (.type "list") = true
  nf_int : PySem.W.notFirst K A.c_Mesh (.type "int") = true
  xa_Mesh : PySem.W.findIn K (.ref A.c_Mesh) "__class__" = some (some (.builtin "object.__class__"))
  xm_Mesh : PySem.W.mroIn K A.c_Mesh (.type "object") = some true
  ki_list_Mesh : PySem.W.kitOne K (.type "list") (.ref A.c_Mesh) = some false
  ki_int_Mesh : PySem.W.kitOne K (.type "int") (.ref A.c_Mesh) = some false
  z_ValueError : mg "ValueError" = none
  z_abs : mg "abs" = none
  z_all : mg "all" = none
  z_bool : mg "bool" = none
  z_enumerate : mg "enumerate" = none
  z_int : mg "int" = none
  z_isinstance : mg "isinstance" = none
  z_len : mg "len" = none
  z_list : mg "list" = none
  z_range : mg "range" = none
  z_sorted : mg "sorted" = none
  oc_get : PySem.W.specialIn K (.builtin "object.__class__") "__get__" = some (some (.builtin "getset_descriptor.__get__"))
  oc_tak : PySem.W.takesIn K (.builtin "object.__class__") = some true
theorem Txt.exc_NotAMesh {K : PySem.W.Frag} {mg : Str → Option Value} {A : Ad} (T : Txt K mg A) : ExcC K A.c_NotAMesh := ⟨T.xg_NotAMesh, T.xk_NotAMesh, T.s_NotAMesh, T.xd_NotAMesh, T.xa_NotAMesh, T.oc_get, T.oc_tak, T.xm_NotAMesh⟩
theorem Txt.te_NotAMesh {K : PySem.W.Frag} {mg : Str → Option Value} {A : Ad} (T : Txt K mg A) : PySem.W.exmOne K (.ref A.c_NotAMesh) (.ref A.c_NotAMesh) = some true := RD.exm_self T.s_NotAMesh T.i_NotAMesh T.t_NotAMesh T.ss_NotAMesh
theorem Txt.exc_BadLine {K : PySem.W.Frag} {mg : Str → Option Value} {A : Ad} (T : Txt K mg A) : ExcC K A.c_BadLine := ⟨T.xg_BadLine, T.xk_BadLine, T.s_BadLine, T.xd_BadLine, T.xa_BadLine, T.oc_get, T.oc_tak, T.xm_BadLine⟩
theorem Txt.te_BadLine {K : PySem.W.Frag} {mg : Str → Option Value} {A : Ad} (T : Txt K mg A) : PySem.W.exmOne K (.ref A.c_BadLine) (.ref A.c_BadLine) = some true := RD.exm_self T.s_BadLine T.i_BadLine T.t_BadLine T.ss_BadLine
theorem Txt.exc_UnknownName {K : PySem.W.Frag} {mg : Str → Option Value} {A : Ad} (T : Txt K mg A) : ExcC K A.c_UnknownName := ⟨T.xg_UnknownName, T.xk_UnknownName, T.s_UnknownName, T.xd_UnknownName, T.xa_UnknownName, T.oc_get, T.oc_tak, T.xm_UnknownName⟩
theorem Txt.te_UnknownName {K : PySem.W.Frag} {mg : Str → Option Value} {A : Ad} (T : Txt K mg A) : PySem.W.exmOne K (.ref A.c_UnknownName) (.ref A.c_UnknownName) = some true := RD.exm_self T.s_UnknownName T.i_UnknownName T.t_UnknownName T.ss_UnknownName
theorem Txt.exc_WrongKind {K : PySem.W.Frag} {mg : Str → Option Value} {A : Ad} (T : Txt K mg A) : ExcC K A.c_WrongKind := ⟨T.xg_WrongKind, T.xk_WrongKind, T.s_WrongKind, T.xd_WrongKind, T.xa_WrongKind, T.oc_get, T.oc_tak, T.xm_WrongKind⟩
theorem Txt.te_WrongKind {K : PySem.W.Frag} {mg : Str → Option Value} {A : Ad} (T : Txt K mg A) : PySem.W.exmOne K (.ref A.c_WrongKind) (.ref A.c_WrongKind) = some true := RD.exm_self T.s_WrongKind T.i_WrongKind T.t_WrongKind T.ss_WrongKind
theorem Txt.exc_FactFails {K : PySem.W.Frag} {mg : Str → Option Value} {A : Ad} (T : Txt K mg A) : ExcC K A.c_FactFails := ⟨T.xg_FactFails, T.xk_FactFails, T.s_FactFails, T.xd_FactFails, T.xa_FactFails, T.oc_get, T.oc_tak, T.xm_FactFails⟩
theorem Txt.te_FactFails {K : PySem.W.Frag} {mg : Str → Option Value} {A : Ad} (T : Txt K mg A) : PySem.W.exmOne K (.ref A.c_FactFails) (.ref A.c_FactFails) = some true := RD.exm_self T.s_FactFails T.i_FactFails T.t_FactFails T.ss_FactFails
theorem Txt.exc_Broken {K : PySem.W.Frag} {mg : Str → Option Value} {A : Ad} (T : Txt K mg A) : ExcC K A.c_Broken := ⟨T.xg_Broken, T.xk_Broken, T.s_Broken, T.xd_Broken, T.xa_Broken, T.oc_get, T.oc_tak, T.xm_Broken⟩
theorem Txt.te_Broken {K : PySem.W.Frag} {mg : Str → Option Value} {A : Ad} (T : Txt K mg A) : PySem.W.exmOne K (.ref A.c_Broken) (.ref A.c_Broken) = some true := RD.exm_self T.s_Broken T.i_Broken T.t_Broken T.ss_Broken
theorem Txt.exc_NeverGiven {K : PySem.W.Frag} {mg : Str → Option Value} {A : Ad} (T : Txt K mg A) : ExcC K A.c_NeverGiven := ⟨T.xg_NeverGiven, T.xk_NeverGiven, T.s_NeverGiven, T.xd_NeverGiven, T.xa_NeverGiven, T.oc_get, T.oc_tak, T.xm_NeverGiven⟩
theorem Txt.te_NeverGiven {K : PySem.W.Frag} {mg : Str → Option Value} {A : Ad} (T : Txt K mg A) : PySem.W.exmOne K (.ref A.c_NeverGiven) (.ref A.c_NeverGiven) = some true := RD.exm_self T.s_NeverGiven T.i_NeverGiven T.t_NeverGiven T.ss_NeverGiven
theorem Txt.exc_Breaks {K : PySem.W.Frag} {mg : Str → Option Value} {A : Ad} (T : Txt K mg A) : ExcC K A.c_Breaks := ⟨T.xg_Breaks, T.xk_Breaks, T.s_Breaks, T.xd_Breaks, T.xa_Breaks, T.oc_get, T.oc_tak, T.xm_Breaks⟩
theorem Txt.te_Breaks {K : PySem.W.Frag} {mg : Str → Option Value} {A : Ad} (T : Txt K mg A) : PySem.W.exmOne K (.ref A.c_Breaks) (.ref A.c_Breaks) = some true := RD.exm_self T.s_Breaks T.i_Breaks T.t_Breaks T.ss_Breaks
theorem Txt.exc_UnknownDeed {K : PySem.W.Frag} {mg : Str → Option Value} {A : Ad} (T : Txt K mg A) : ExcC K A.c_UnknownDeed := ⟨T.xg_UnknownDeed, T.xk_UnknownDeed, T.s_UnknownDeed, T.xd_UnknownDeed, T.xa_UnknownDeed, T.oc_get, T.oc_tak, T.xm_UnknownDeed⟩
theorem Txt.te_UnknownDeed {K : PySem.W.Frag} {mg : Str → Option Value} {A : Ad} (T : Txt K mg A) : PySem.W.exmOne K (.ref A.c_UnknownDeed) (.ref A.c_UnknownDeed) = some true := RD.exm_self T.s_UnknownDeed T.i_UnknownDeed T.t_UnknownDeed T.ss_UnknownDeed
theorem Txt.exc_UnknownMark {K : PySem.W.Frag} {mg : Str → Option Value} {A : Ad} (T : Txt K mg A) : ExcC K A.c_UnknownMark := ⟨T.xg_UnknownMark, T.xk_UnknownMark, T.s_UnknownMark, T.xd_UnknownMark, T.xa_UnknownMark, T.oc_get, T.oc_tak, T.xm_UnknownMark⟩
theorem Txt.te_UnknownMark {K : PySem.W.Frag} {mg : Str → Option Value} {A : Ad} (T : Txt K mg A) : PySem.W.exmOne K (.ref A.c_UnknownMark) (.ref A.c_UnknownMark) = some true := RD.exm_self T.s_UnknownMark T.i_UnknownMark T.t_UnknownMark T.ss_UnknownMark
theorem Txt.exc_NothingToUndo {K : PySem.W.Frag} {mg : Str → Option Value} {A : Ad} (T : Txt K mg A) : ExcC K A.c_NothingToUndo := ⟨T.xg_NothingToUndo, T.xk_NothingToUndo, T.s_NothingToUndo, T.xd_NothingToUndo, T.xa_NothingToUndo, T.oc_get, T.oc_tak, T.xm_NothingToUndo⟩
theorem Txt.te_NothingToUndo {K : PySem.W.Frag} {mg : Str → Option Value} {A : Ad} (T : Txt K mg A) : PySem.W.exmOne K (.ref A.c_NothingToUndo) (.ref A.c_NothingToUndo) = some true := RD.exm_self T.s_NothingToUndo T.i_NothingToUndo T.t_NothingToUndo T.ss_NothingToUndo
theorem Txt.xf_NotAMesh {K : PySem.W.Frag} {mg : Str → Option Value} {A : Ad} (T : Txt K mg A) : XfC K A.c_NotAMesh := ⟨T.xg_NotAMesh, T.xk_NotAMesh, T.s_NotAMesh, T.xd_NotAMesh⟩
theorem Txt.xf_BadLine {K : PySem.W.Frag} {mg : Str → Option Value} {A : Ad} (T : Txt K mg A) : XfC K A.c_BadLine := ⟨T.xg_BadLine, T.xk_BadLine, T.s_BadLine, T.xd_BadLine⟩
theorem Txt.oex_BadLine {K : PySem.W.Frag} {mg : Str → Option Value} {A : Ad} (T : Txt K mg A) : OexC K A.c_BadLine := RD.oexC T.ox_BadLine T.sa_BadLine T.s_BadLine T.t_BadLine T.k_BadLine
theorem Txt.xf_UnknownName {K : PySem.W.Frag} {mg : Str → Option Value} {A : Ad} (T : Txt K mg A) : XfC K A.c_UnknownName := ⟨T.xg_UnknownName, T.xk_UnknownName, T.s_UnknownName, T.xd_UnknownName⟩
theorem Txt.oex_UnknownName {K : PySem.W.Frag} {mg : Str → Option Value} {A : Ad} (T : Txt K mg A) : OexC K A.c_UnknownName := RD.oexC T.ox_UnknownName T.sa_UnknownName T.s_UnknownName T.t_UnknownName T.k_UnknownName
theorem Txt.xf_WrongKind {K : PySem.W.Frag} {mg : Str → Option Value} {A : Ad} (T : Txt K mg A) : XfC K A.c_WrongKind := ⟨T.xg_WrongKind, T.xk_WrongKind, T.s_WrongKind, T.xd_WrongKind⟩
theorem Txt.oex_WrongKind {K : PySem.W.Frag} {mg : Str → Option Value} {A : Ad} (T : Txt K mg A) : OexC K A.c_WrongKind := RD.oexC T.ox_WrongKind T.sa_WrongKind T.s_WrongKind T.t_WrongKind T.k_WrongKind
theorem Txt.xf_FactFails {K : PySem.W.Frag} {mg : Str → Option Value} {A : Ad} (T : Txt K mg A) : XfC K A.c_FactFails := ⟨T.xg_FactFails, T.xk_FactFails, T.s_FactFails, T.xd_FactFails⟩
theorem Txt.oex_FactFails {K : PySem.W.Frag} {mg : Str → Option Value} {A : Ad} (T : Txt K mg A) : OexC K A.c_FactFails := RD.oexC T.ox_FactFails T.sa_FactFails T.s_FactFails T.t_FactFails T.k_FactFails
theorem Txt.xf_Broken {K : PySem.W.Frag} {mg : Str → Option Value} {A : Ad} (T : Txt K mg A) : XfC K A.c_Broken := ⟨T.xg_Broken, T.xk_Broken, T.s_Broken, T.xd_Broken⟩
theorem Txt.oex_Broken {K : PySem.W.Frag} {mg : Str → Option Value} {A : Ad} (T : Txt K mg A) : OexC K A.c_Broken := RD.oexC T.ox_Broken T.sa_Broken T.s_Broken T.t_Broken T.k_Broken
theorem Txt.xf_NeverGiven {K : PySem.W.Frag} {mg : Str → Option Value} {A : Ad} (T : Txt K mg A) : XfC K A.c_NeverGiven := ⟨T.xg_NeverGiven, T.xk_NeverGiven, T.s_NeverGiven, T.xd_NeverGiven⟩
theorem Txt.xf_Breaks {K : PySem.W.Frag} {mg : Str → Option Value} {A : Ad} (T : Txt K mg A) : XfC K A.c_Breaks := ⟨T.xg_Breaks, T.xk_Breaks, T.s_Breaks, T.xd_Breaks⟩
theorem Txt.oex_Breaks {K : PySem.W.Frag} {mg : Str → Option Value} {A : Ad} (T : Txt K mg A) : OexC K A.c_Breaks := RD.oexC T.ox_Breaks T.sa_Breaks T.s_Breaks T.t_Breaks T.k_Breaks
theorem Txt.xf_UnknownDeed {K : PySem.W.Frag} {mg : Str → Option Value} {A : Ad} (T : Txt K mg A) : XfC K A.c_UnknownDeed := ⟨T.xg_UnknownDeed, T.xk_UnknownDeed, T.s_UnknownDeed, T.xd_UnknownDeed⟩
theorem Txt.oex_UnknownDeed {K : PySem.W.Frag} {mg : Str → Option Value} {A : Ad} (T : Txt K mg A) : OexC K A.c_UnknownDeed := RD.oexC T.ox_UnknownDeed T.sa_UnknownDeed T.s_UnknownDeed T.t_UnknownDeed T.k_UnknownDeed
theorem Txt.xf_UnknownMark {K : PySem.W.Frag} {mg : Str → Option Value} {A : Ad} (T : Txt K mg A) : XfC K A.c_UnknownMark := ⟨T.xg_UnknownMark, T.xk_UnknownMark, T.s_UnknownMark, T.xd_UnknownMark⟩
theorem Txt.oex_UnknownMark {K : PySem.W.Frag} {mg : Str → Option Value} {A : Ad} (T : Txt K mg A) : OexC K A.c_UnknownMark := RD.oexC T.ox_UnknownMark T.sa_UnknownMark T.s_UnknownMark T.t_UnknownMark T.k_UnknownMark
theorem Txt.xf_NothingToUndo {K : PySem.W.Frag} {mg : Str → Option Value} {A : Ad} (T : Txt K mg A) : XfC K A.c_NothingToUndo := ⟨T.xg_NothingToUndo, T.xk_NothingToUndo, T.s_NothingToUndo, T.xd_NothingToUndo⟩
def eC (A : Ad) : Nat → Addr
  | 0 => A.c_NotAMesh
  | 1 => A.c_BadLine
  | 2 => A.c_UnknownName
  | 3 => A.c_WrongKind
  | 4 => A.c_FactFails
  | 5 => A.c_Broken
  | 6 => A.c_NeverGiven
  | 7 => A.c_Breaks
  | 8 => A.c_UnknownDeed
  | 9 => A.c_UnknownMark
  | _ => A.c_NothingToUndo
theorem Txt.kit {K : PySem.W.Frag} {mg : Str → Option Value} {A : Ad} (T : Txt K mg A) : ∀ i j, i < 11 → j < 11 → PySem.W.kitOne K (.ref (eC A i)) (.ref (eC A j)) = some (decide (j = i))
  | 0, 0, _, _ => T.ki_NotAMesh_NotAMesh
  | 0, 1, _, _ => T.ki_NotAMesh_BadLine
  | 0, 2, _, _ => T.ki_NotAMesh_UnknownName
  | 0, 3, _, _ => T.ki_NotAMesh_WrongKind
  | 0, 4, _, _ => T.ki_NotAMesh_FactFails
  | 0, 5, _, _ => T.ki_NotAMesh_Broken
  | 0, 6, _, _ => T.ki_NotAMesh_NeverGiven
  | 0, 7, _, _ => T.ki_NotAMesh_Breaks
  | 0, 8, _, _ => T.ki_NotAMesh_UnknownDeed
  | 0, 9, _, _ => T.ki_NotAMesh_UnknownMark
  | 0, 10, _, _ => T.ki_NotAMesh_NothingToUndo
  | 1, 0, _, _ => T.ki_BadLine_NotAMesh
  | 1, 1, _, _ => T.ki_BadLine_BadLine
  | 1, 2, _, _ => T.ki_BadLine_UnknownName
  | 1, 3, _, _ => T.ki_BadLine_WrongKind
  | 1, 4, _, _ => T.ki_BadLine_FactFails
  | 1, 5, _, _ => T.ki_BadLine_Broken
  | 1, 6, _, _ => T.ki_BadLine_NeverGiven
  | 1, 7, _, _ => T.ki_BadLine_Breaks
  | 1, 8, _, _ => T.ki_BadLine_UnknownDeed
  | 1, 9, _, _ => T.ki_BadLine_UnknownMark
  | 1, 10, _, _ => T.ki_BadLine_NothingToUndo
  | 2, 0, _, _ => T.ki_UnknownName_NotAMesh
  | 2, 1, _, _ => T.ki_UnknownName_BadLine
  | 2, 2, _, _ => T.ki_UnknownName_UnknownName
  | 2, 3, _, _ => T.ki_UnknownName_WrongKind
  | 2, 4, _, _ => T.ki_UnknownName_FactFails
  | 2, 5, _, _ => T.ki_UnknownName_Broken
  | 2, 6, _, _ => T.ki_UnknownName_NeverGiven
  | 2, 7, _, _ => T.ki_UnknownName_Breaks
  | 2, 8, _, _ => T.ki_UnknownName_UnknownDeed
  | 2, 9, _, _ => T.ki_UnknownName_UnknownMark
  | 2, 10, _, _ => T.ki_UnknownName_NothingToUndo
  | 3, 0, _, _ => T.ki_WrongKind_NotAMesh
  | 3, 1, _, _ => T.ki_WrongKind_BadLine
  | 3, 2, _, _ => T.ki_WrongKind_UnknownName
  | 3, 3, _, _ => T.ki_WrongKind_WrongKind
  | 3, 4, _, _ => T.ki_WrongKind_FactFails
  | 3, 5, _, _ => T.ki_WrongKind_Broken
  | 3, 6, _, _ => T.ki_WrongKind_NeverGiven
  | 3, 7, _, _ => T.ki_WrongKind_Breaks
  | 3, 8, _, _ => T.ki_WrongKind_UnknownDeed
  | 3, 9, _, _ => T.ki_WrongKind_UnknownMark
  | 3, 10, _, _ => T.ki_WrongKind_NothingToUndo
  | 4, 0, _, _ => T.ki_FactFails_NotAMesh
  | 4, 1, _, _ => T.ki_FactFails_BadLine
  | 4, 2, _, _ => T.ki_FactFails_UnknownName
  | 4, 3, _, _ => T.ki_FactFails_WrongKind
  | 4, 4, _, _ => T.ki_FactFails_FactFails
  | 4, 5, _, _ => T.ki_FactFails_Broken
  | 4, 6, _, _ => T.ki_FactFails_NeverGiven
  | 4, 7, _, _ => T.ki_FactFails_Breaks
  | 4, 8, _, _ => T.ki_FactFails_UnknownDeed
  | 4, 9, _, _ => T.ki_FactFails_UnknownMark
  | 4, 10, _, _ => T.ki_FactFails_NothingToUndo
  | 5, 0, _, _ => T.ki_Broken_NotAMesh
  | 5, 1, _, _ => T.ki_Broken_BadLine
  | 5, 2, _, _ => T.ki_Broken_UnknownName
  | 5, 3, _, _ => T.ki_Broken_WrongKind
  | 5, 4, _, _ => T.ki_Broken_FactFails
  | 5, 5, _, _ => T.ki_Broken_Broken
  | 5, 6, _, _ => T.ki_Broken_NeverGiven
  | 5, 7, _, _ => T.ki_Broken_Breaks
  | 5, 8, _, _ => T.ki_Broken_UnknownDeed
  | 5, 9, _, _ => T.ki_Broken_UnknownMark
  | 5, 10, _, _ => T.ki_Broken_NothingToUndo
  | 6, 0, _, _ => T.ki_NeverGiven_NotAMesh
  | 6, 1, _, _ => T.ki_NeverGiven_BadLine
  | 6, 2, _, _ => T.ki_NeverGiven_UnknownName
  | 6, 3, _, _ => T.ki_NeverGiven_WrongKind
  | 6, 4, _, _ => T.ki_NeverGiven_FactFails
  | 6, 5, _, _ => T.ki_NeverGiven_Broken
  | 6, 6, _, _ => T.ki_NeverGiven_NeverGiven
  | 6, 7, _, _ => T.ki_NeverGiven_Breaks
  | 6, 8, _, _ => T.ki_NeverGiven_UnknownDeed
  | 6, 9, _, _ => T.ki_NeverGiven_UnknownMark
  | 6, 10, _, _ => T.ki_NeverGiven_NothingToUndo
  | 7, 0, _, _ => T.ki_Breaks_NotAMesh
  | 7, 1, _, _ => T.ki_Breaks_BadLine
  | 7, 2, _, _ => T.ki_Breaks_UnknownName
  | 7, 3, _, _ => T.ki_Breaks_WrongKind
  | 7, 4, _, _ => T.ki_Breaks_FactFails
  | 7, 5, _, _ => T.ki_Breaks_Broken
  | 7, 6, _, _ => T.ki_Breaks_NeverGiven
  | 7, 7, _, _ => T.ki_Breaks_Breaks
  | 7, 8, _, _ => T.ki_Breaks_UnknownDeed
  | 7, 9, _, _ => T.ki_Breaks_UnknownMark
  | 7, 10, _, _ => T.ki_Breaks_NothingToUndo
  | 8, 0, _, _ => T.ki_UnknownDeed_NotAMesh
  | 8, 1, _, _ => T.ki_UnknownDeed_BadLine
  | 8, 2, _, _ => T.ki_UnknownDeed_UnknownName
  | 8, 3, _, _ => T.ki_UnknownDeed_WrongKind
  | 8, 4, _, _ => T.ki_UnknownDeed_FactFails
  | 8, 5, _, _ => T.ki_UnknownDeed_Broken
  | 8, 6, _, _ => T.ki_UnknownDeed_NeverGiven
  | 8, 7, _, _ => T.ki_UnknownDeed_Breaks
  | 8, 8, _, _ => T.ki_UnknownDeed_UnknownDeed
  | 8, 9, _, _ => T.ki_UnknownDeed_UnknownMark
  | 8, 10, _, _ => T.ki_UnknownDeed_NothingToUndo
  | 9, 0, _, _ => T.ki_UnknownMark_NotAMesh
  | 9, 1, _, _ => T.ki_UnknownMark_BadLine
  | 9, 2, _, _ => T.ki_UnknownMark_UnknownName
  | 9, 3, _, _ => T.ki_UnknownMark_WrongKind
  | 9, 4, _, _ => T.ki_UnknownMark_FactFails
  | 9, 5, _, _ => T.ki_UnknownMark_Broken
  | 9, 6, _, _ => T.ki_UnknownMark_NeverGiven
  | 9, 7, _, _ => T.ki_UnknownMark_Breaks
  | 9, 8, _, _ => T.ki_UnknownMark_UnknownDeed
  | 9, 9, _, _ => T.ki_UnknownMark_UnknownMark
  | 9, 10, _, _ => T.ki_UnknownMark_NothingToUndo
  | 10, 0, _, _ => T.ki_NothingToUndo_NotAMesh
  | 10, 1, _, _ => T.ki_NothingToUndo_BadLine
  | 10, 2, _, _ => T.ki_NothingToUndo_UnknownName
  | 10, 3, _, _ => T.ki_NothingToUndo_WrongKind
  | 10, 4, _, _ => T.ki_NothingToUndo_FactFails
  | 10, 5, _, _ => T.ki_NothingToUndo_Broken
  | 10, 6, _, _ => T.ki_NothingToUndo_NeverGiven
  | 10, 7, _, _ => T.ki_NothingToUndo_Breaks
  | 10, 8, _, _ => T.ki_NothingToUndo_UnknownDeed
  | 10, 9, _, _ => T.ki_NothingToUndo_UnknownMark
  | 10, 10, _, _ => T.ki_NothingToUndo_NothingToUndo
  | _ + 11, _, h, _ => absurd h (by omega)
  | _, _ + 11, _, h => absurd h (by omega)
theorem Txt.excI {K : PySem.W.Frag} {mg : Str → Option Value} {A : Ad} (T : Txt K mg A) : ∀ i, i < 11 → ExcC K (eC A i)
  | 0, _ => T.exc_NotAMesh
  | 1, _ => T.exc_BadLine
  | 2, _ => T.exc_UnknownName
  | 3, _ => T.exc_WrongKind
  | 4, _ => T.exc_FactFails
  | 5, _ => T.exc_Broken
  | 6, _ => T.exc_NeverGiven
  | 7, _ => T.exc_Breaks
  | 8, _ => T.exc_UnknownDeed
  | 9, _ => T.exc_UnknownMark
  | 10, _ => T.exc_NothingToUndo
  | _ + 11, h => absurd h (by omega)
theorem Txt.xfI {K : PySem.W.Frag} {mg : Str → Option Value} {A : Ad} (T : Txt K mg A) : ∀ i, i < 11 → XfC K (eC A i)
  | 0, _ => T.xf_NotAMesh
  | 1, _ => T.xf_BadLine
  | 2, _ => T.xf_UnknownName
  | 3, _ => T.xf_WrongKind
  | 4, _ => T.xf_FactFails
  | 5, _ => T.xf_Broken
  | 6, _ => T.xf_NeverGiven
  | 7, _ => T.xf_Breaks
  | 8, _ => T.xf_UnknownDeed
  | 9, _ => T.xf_UnknownMark
  | 10, _ => T.xf_NothingToUndo
  | _ + 11, h => absurd h (by omega)
theorem Txt.kitM {K : PySem.W.Frag} {mg : Str → Option Value} {A : Ad} (T : Txt K mg A) : ∀ i, i < 11 → PySem.W.kitOne K (.ref (eC A i)) (.ref A.c_MeshError) = some true
  | 0, _ => T.ki_NotAMesh_MeshError
  | 1, _ => T.ki_BadLine_MeshError
  | 2, _ => T.ki_UnknownName_MeshError
  | 3, _ => T.ki_WrongKind_MeshError
  | 4, _ => T.ki_FactFails_MeshError
  | 5, _ => T.ki_Broken_MeshError
  | 6, _ => T.ki_NeverGiven_MeshError
  | 7, _ => T.ki_Breaks_MeshError
  | 8, _ => T.ki_UnknownDeed_MeshError
  | 9, _ => T.ki_UnknownMark_MeshError
  | 10, _ => T.ki_NothingToUndo_MeshError
  | _ + 11, h => absurd h (by omega)
theorem Txt.kitV {K : PySem.W.Frag} {mg : Str → Option Value} {A : Ad} (T : Txt K mg A) : ∀ i, i < 11 → PySem.W.kitOne K (.ref (eC A i)) (.type "ValueError") = some true
  | 0, _ => T.ki_NotAMesh_ValueError
  | 1, _ => T.ki_BadLine_ValueError
  | 2, _ => T.ki_UnknownName_ValueError
  | 3, _ => T.ki_WrongKind_ValueError
  | 4, _ => T.ki_FactFails_ValueError
  | 5, _ => T.ki_Broken_ValueError
  | 6, _ => T.ki_NeverGiven_ValueError
  | 7, _ => T.ki_Breaks_ValueError
  | 8, _ => T.ki_UnknownDeed_ValueError
  | 9, _ => T.ki_UnknownMark_ValueError
  | 10, _ => T.ki_NothingToUndo_ValueError
  | _ + 11, h => absurd h (by omega)
end Pf
local macro_rules | `(tactic| walk_at "rd1") => `(tactic| (with_reducible first
  | refine RD.var0 ?_ | refine RD.varS ?_ | refine RD.cst ?_ | refine RD.op ?_ | refine RD.i0 ?_ | refine RD.eqI ?_ | refine RD.neI ?_ | refine RD.exb ?_ | refine RD.tst ?_ | refine RD.tb' ?_
  | refine RD.seq ?_ | refine RD.asg ?_ | refine RD.gn0 ?_ | refine RD.gnS ?_ | refine RD.ifs ?_ | refine RD.ret ?_ | refine RD.nxt ?_ | refine RD.drp ?_ | refine RD.cons ?_ | refine RD.nil ?_
  | refine RD.cb ?_ | refine RD.call ?_ | refine RD.bT ?_ | refine RD.bF ?_ | refine RD.and ?_ | refine RD.or ?_ | refine RD.not ?_ | refine RD.andV ?_ | refine RD.orV ?_ | refine RD.notV ?_ | refine RD.tif ?_
  | refine RD.for_ ?_ | refine RD.iL ?_ | refine RD.iR1 ?_ | refine RD.iR2 ?_ | refine RD.iE ?_ | refine RD.iT ?_ | refine RD.iZ ?_ | refine RD.iS ?_ | refine RD.lc_ ?_ | refine RD.bm ?_ | refine RD.bm0 ?_ | refine RD.fld ?_ | refine RD.meth ?_ | refine RD.make ?_
  | refine RD.lst ?_ | refine RD.tup ?_ | refine RD.sl ?_ | refine RD.nop ?_ | refine RD.prt ?_ | refine RD.exi ?_ | refine RD.un ?_ | refine RD.u0 ?_ | refine RD.aug ?_ | refine RD.gsub ?_ | refine RD.chain ?_ | refine RD.yes ?_
  | refine RD.eqB ?_ | refine RD.neB ?_ | refine RD.eqS ?_ | refine RD.neS ?_ | refine RD.dput ?_ | refine RD.dget ?_ | refine RD.din ?_ | refine RD.dnin ?_ | refine RD.dnew ?_ | refine RD.sfld ?_ | refine RD.lrg ?_ | refine RD.rg1 ?_ | refine RD.int1 ?_ | refine RD.abs1 ?_ | refine RD.max2 ?_ | refine RD.min2 ?_ | refine RD.tru ?_ | refine RD.retN ?_ | refine RD.brk ?_ | refine RD.cnt ?_ | refine RD.prop ?_ | refine RD.ipi ?_ | refine RD.m1 ?_ | refine RD.ost ?_ | refine RD.star ?_ | refine RD.xf ?_))
local macro_rules | `(tactic| walk_at "rd") => `(tactic| (repeat (walk_at "rd1")))
local macro_rules | `(tactic| walk_at "hp") => `(tactic| first | assumption | exact upd_same | (rw [upd_ne (by first | assumption | (apply Ne.symm; assumption) | (exact ne_of_none (by assumption) (by assumption)) | (exact Ne.symm (ne_of_none (by assumption) (by assumption))))]; walk_at "hp"))
local macro_rules | `(tactic| walk_at "wp") => `(tactic| simp only [L2.wipe, List.map_cons, List.map_nil, List.set_cons_succ, List.set_cons_zero])
local macro_rules | `(tactic| walk_at "gn") => `(tactic| (repeat (with_reducible first | refine RD.gn0 ?_ | refine RD.gnS ?_)))
local macro_rules | `(tactic| walk_at "rn") => `(tactic| (repeat (first | walk_at "rd1" | (with_reducible first | refine RD.nbF ?_ | refine RD.nbT ?_))))
namespace Pf
open PySem PySem.Spec PyProof.Rows L2
/-- a tape: two numbers -/
def TapeAt (H : Hp) (a : Addr) : Prop := ∃ x y : Int, H a = some (.lst [.int x, .int y]) ∧ 0 ≤ x ∧ 0 ≤ y ∧ y < 2147483647
theorem TapeAt.same {H H' : Hp} {a : Addr} (t : TapeAt H a) (s : Same H H') : TapeAt H' a := by
  obtain ⟨x, y, h, r⟩ := t
  exact ⟨x, y, s _ _ h, r⟩
theorem TapeAt.mk {H : Hp} {a : Addr} {x y : Int} (h : 0 ≤ x) (h1 : 0 ≤ y) (h2 : y < 2147483647) : TapeAt (upd H a (.lst [.int x, .int y])) a := ⟨x, y, upd_same, h, h1, h2⟩
def sp_l_pick : Sp := fun vs H Q _ => ∃ (a : Addr) (m : Int), vs = [.ref a, .int m] ∧ TapeAt H a ∧ 0 < m ∧ m < 1000001 ∧
  ∀ (v : Nat) (H' : Hp), (v : Int) < m → TapeAt H' a → SameX a H H' → Q (vn v) H'
theorem pick_end {H : Hp} {a : Addr} {m : Int} {Q : VK} (k : ∀ (v : Nat) (H' : Hp), (v : Int) < m → TapeAt H' a → SameX a H H' → Q (vn v) H') {z x y : Int} (h0 : 0 ≤ z) (h1 : z < m) (hx : 0 ≤ x) (hy : 0 ≤ y) (hy2 : y < 2147483647) : Q (.int z) (upd H a (.lst [.int x, .int y])) := by
  obtain ⟨v, rfl⟩ := Int.eq_ofNat_of_zero_le h0
  exact k v _ h1 (TapeAt.mk hx hy hy2) (SameX.put (SameX.refl a H))
def sp_l_tape (K : PySem.W.Frag) : Sp := fun vs H Q _ => ∃ (a : Addr) (ns : List Int) (k : Nat), vs = [.ref a, vn k] ∧ SqL K H a (ns.map V.int) ∧ k < 100 ∧
  ∀ H' p, Same H H' → H p = none → TapeAt H' p → Q (.ref p) H'
section
variable {P : Program} {w : World} {K : PySem.W.Frag} {mg : Str → Option Value} {base : Heap} {A : Ad}
theorem ok_l_pick (T : Txt K mg A) : FnOk P w K mg base CX0 1 A.f_l_pick A.d_l_pick ["_law_tape_here", "_law_many"] (sp_l_pick) := by
  refine T.F_l_pick.ok sc_l_pick (fun vs H Q E h => ?_) (fun cdv Ar outer s H vs Q E hr h => ?_)
  · obtain ⟨a, m, rfl, _⟩ := h
    rfl
  · obtain ⟨a, m, rfl, ⟨x, y, hA, hx, hy, hy2⟩, hm, hm2, k⟩ := h
    refine ⟨_, (pss_cons (ps_if (pt_cmpR op_ge (pe_ix (RD.k_ixL (K := K) rfl) (pv 0) pe_int (fun _ _ => rfl)) (pe_op op_pow pe_int pe_int) (nomark _))
      (pss_cons (ps_set (i := 2) sc_l_pick.nd rfl (Or.inl rfl) (pe_op op_mod (pe_callTy RD.k_int (by rfl) T.z_int (by decide +kernel) (pa_cons (pe_ix (RD.k_ixL (K := K) rfl) (pv 0) pe_int (fun _ _ => rfl)) pa_nil)) (pv 1)))
      (pss_cons (ps_asg (pe_op op_fdiv (pe_ix (RD.k_ixL (K := K) rfl) (pv 0) pe_int (fun _ _ => rfl)) (pv 1)) (pg_sub (pv 0) pe_int set_list))
      (pss_one (ps_ret (pv 2)))))
      pss_nil)
      (pss_cons (ps_asg (pe_op op_mod (pe_callTy RD.k_int (by rfl) T.z_int (by decide +kernel) (pa_cons (pe_op op_add (pe_op op_add (pe_op op_mul (pe_ix (RD.k_ixL (K := K) rfl) (pv 0) pe_int (fun _ _ => rfl)) pe_int) (pe_op op_mul (pe_ix (RD.k_ixL (K := K) rfl) (pv 0) pe_int (fun _ _ => rfl)) pe_int)) pe_int) pa_nil)) pe_int) (pg_sub (pv 0) pe_int set_list))
      (pss_cons (ps_set (i := 3) sc_l_pick.nd rfl (Or.inl rfl) (pe_op op_mod (pe_callTy RD.k_int (by rfl) T.z_int (by decide +kernel) (pa_cons (pe_op op_add (pe_op op_add (pe_op op_mul (pe_ix (RD.k_ixL (K := K) rfl) (pv 0) pe_int (fun _ _ => rfl)) (pe_ix (RD.k_ixL (K := K) rfl) (pv 0) pe_int (fun _ _ => rfl))) (pe_op op_mul (pe_ix (RD.k_ixL (K := K) rfl) (pv 0) pe_int (fun _ _ => rfl)) pe_int)) pe_int) pa_nil)) pe_int))
      (pss_one (ps_ret (pe_op op_mod (pe_callTy RD.k_int (by rfl) T.z_int (by decide +kernel) (pa_cons (pe_op op_fdiv (pv 3) pe_int) pa_nil)) (pv 1))))))), ?_⟩
    show tSeq _ _ _ [some (.ref a), some (.int m), none, none] H
    walk_at "rd"
    refine RD.ixL (sq hA) rfl ?_
    walk_at "rd"
    refine RD.iC ⟨by decide, by decide, by decide⟩ ?_
    walk_at "rd"
    refine RD.dec (fun hbig => ?_) (fun hsm => ?_)
    · walk_at "rd"
      refine RD.ixL (sq hA) rfl ?_
      walk_at "rd"
      refine RD.iC hm ?_
      walk_at "rd"
      refine RD.ixL (sq hA) rfl ?_
      walk_at "rd"
      refine RD.iC ⟨hm, by omega⟩ ?_
      walk_at "rd"
      refine RD.setL hA rfl ?_
      walk_at "rd"
      exact pick_end k (Int.emod_nonneg _ (by omega)) (Int.emod_lt_of_pos _ hm) (Int.ediv_nonneg hx (by omega)) hy hy2
    · have hx18 : x < 1000000000000000000 := by
        have e : ((10 : Int) ^ (18 : Int).toNat) = 1000000000000000000 := by decide
        rw [e] at hsm
        omega
      walk_at "rd"
      refine RD.ixL (sq hA) rfl ?_
      walk_at "rd"
      refine RD.iC (.inr ⟨by decide, by decide⟩) ?_
      walk_at "rd"
      refine RD.ixL (sq hA) rfl ?_
      walk_at "rd"
      refine RD.iC (.inr ⟨by decide, by decide⟩) ?_
      walk_at "rd"
      refine RD.iC (by decide) ?_
      generalize hy' : (y * 48271 + x * 69621 + 11) % 2147483647 = y'
      have y0 : 0 ≤ y' := by rw [← hy']; exact Int.emod_nonneg _ (by decide)
      have y1 : y' < 2147483647 := by rw [← hy']; exact Int.emod_lt_of_pos _ (by decide)
      walk_at "rd"
      refine RD.setL hA rfl ?_
      have hB : (upd H a (.lst [.int x, .int y'])) a = some (.lst [.int x, .int y']) := upd_same
      walk_at "rd"
      refine RD.ixL (sq hB) rfl ?_
      walk_at "rd"
      refine RD.ixL (sq hB) rfl ?_
      walk_at "rd"
      refine RD.iC (.inl ⟨by omega, by omega⟩) ?_
      walk_at "rd"
      refine RD.ixL (sq hB) rfl ?_
      walk_at "rd"
      refine RD.iC (.inr ⟨by decide, by decide⟩) ?_
      walk_at "rd"
      refine RD.iC (by decide) ?_
      walk_at "rd"
      refine RD.iC ⟨by decide, by decide⟩ ?_
      walk_at "rd"
      refine RD.iC hm ?_
      exact pick_end k (Int.emod_nonneg _ (by omega)) (Int.emod_lt_of_pos _ hm) hx y0 y1
theorem ok_l_tape (T : Txt K mg A) : FnOk P w K mg base CX0 1 A.f_l_tape A.d_l_tape ["_law_script", "_law_k"] (sp_l_tape K) := by
  refine T.F_l_tape.ok sc_l_tape (fun vs H Q E h => ?_) (fun cdv Ar outer s H vs Q E hr h => ?_)
  · obtain ⟨a, ns, k, rfl, _⟩ := h
    rfl
  · obtain ⟨a, ns, k, rfl, hS, hk, q⟩ := h
    refine ⟨_, (pss_cons (ps_set (i := 2) sc_l_tape.nd rfl (Or.inl rfl) (pe_ifExp (pt_cmpR op_lt (pv 1) (pe_callB (RD.k_len (K := K) rfl) (by rfl) T.z_len (by decide +kernel) (pa_cons (pv 0) pa_nil)) (nomark _)) (pe_ix (RD.k_ixL (K := K) rfl) (pv 0) (pv 1) (fun _ _ => rfl)) pe_int))
      (pss_one (ps_ret (pe_lst (pa_cons (pe_callB RD.k_abs (by rfl) T.z_abs (by decide +kernel) (pa_cons (pv 2) pa_nil)) (pa_cons (pe_op op_add (pe_op op_mul pe_int (pv 1)) pe_int) pa_nil)))))), ?_⟩
    show tSeq _ _ _ [some (.ref a), some (vn k), none] H
    have fin : ∀ z : Int, ∀ p, H p = none → Q (.ref p) (upd H p (.lst [.int (if z < 0 then -z else z), .int (7919 * (k : Int) + 104729)])) := fun z p np => by
      refine q _ p (RD.same_new np) np (TapeAt.mk ?_ (by omega) (by omega))
      split <;> omega
    walk_at "rd"
    refine RD.len hS ?_
    rw [List.length_map]
    walk_at "rd"
    refine RD.dec (fun hlt => ?_) (fun hge => ?_)
    · have hlt : k < ns.length := by omega
      walk_at "rd"
      refine RD.ixL hS (at_n (v := .int ns[k]) (by rw [List.getElem?_map, List.getElem?_eq_getElem hlt]; rfl)) ?_
      walk_at "rd"
      refine RD.iC (.inl ⟨by decide, by decide⟩) ?_
      walk_at "rd"
      exact ⟨szl (by simp), fun p np => fin _ p np⟩
    · walk_at "rd"
      refine RD.iC (.inl ⟨by decide, by decide⟩) ?_
      walk_at "rd"
      exact ⟨szl (by simp), fun p np => fin 0 p np⟩
end
end Pf

namespace Pf
open PySem PySem.Spec PyProof.Rows L2 RD
/-- Breaks(m, l): the list is taken anew -/
def sp_breaks (K : PySem.W.Frag) (C : Addr) : Sp := fun vs H Q _ => ∃ (a l : Addr) (v : V) (xs : List V), vs = [.ref a, v, .ref l] ∧ H a = some (exo a C none) ∧ H l = some (.lst xs) ∧
  ∀ (H' : Hp) (l2 : Addr), ErrAt H' a C [("halves", .ref l2), ("mesh", v)] → H' l2 = some (.lst xs) → (∀ b o, b ≠ a → H b = some o → H' b = some o) → H l2 = none → Q .non H'
section
variable {P : Program} {w : World} {K : PySem.W.Frag} {mg : Str → Option Value} {base : Heap} {A : Ad}
theorem ok_BadLine_d_initd_ (T : Txt K mg A) : FnOk P w K mg base CX0 1 A.f_BadLine_d_initd_ A.d_BadLine_d_initd_ ["self", "line"] (sp_exi1 A.c_BadLine "line") := by
  refine T.F_BadLine_d_initd_.ok sc_BadLine_d_initd_ (fun vs H Q E h => ?_) (fun cdv Ar outer s H vs Q E hr h => ?_)
  · obtain ⟨a, v, rfl, _⟩ := h
    rfl
  · obtain ⟨a, v, rfl, ha, q⟩ := h
    refine ⟨_, (pss_one (ps_ost (pv 0) (pv 1))), ?_⟩
    show tOst _ _ _ _ _ [some (.ref a), some (v)] H
    walk_at "rd"
    exact ⟨a, A.c_BadLine, rfl, T.oex_BadLine, T.na_BadLine_line, .inl ⟨ha, q⟩⟩
theorem ok_FactFails_d_initd_ (T : Txt K mg A) : FnOk P w K mg base CX0 1 A.f_FactFails_d_initd_ A.d_FactFails_d_initd_ ["self", "line"] (sp_exi1 A.c_FactFails "line") := by
  refine T.F_FactFails_d_initd_.ok sc_FactFails_d_initd_ (fun vs H Q E h => ?_) (fun cdv Ar outer s H vs Q E hr h => ?_)
  · obtain ⟨a, v, rfl, _⟩ := h
    rfl
  · obtain ⟨a, v, rfl, ha, q⟩ := h
    refine ⟨_, (pss_one (ps_ost (pv 0) (pv 1))), ?_⟩
    show tOst _ _ _ _ _ [some (.ref a), some (v)] H
    walk_at "rd"
    exact ⟨a, A.c_FactFails, rfl, T.oex_FactFails, T.na_FactFails_line, .inl ⟨ha, q⟩⟩
theorem ok_UnknownDeed_d_initd_ (T : Txt K mg A) : FnOk P w K mg base CX0 1 A.f_UnknownDeed_d_initd_ A.d_UnknownDeed_d_initd_ ["self", "name"] (sp_exi1 A.c_UnknownDeed "name") := by
  refine T.F_UnknownDeed_d_initd_.ok sc_UnknownDeed_d_initd_ (fun vs H Q E h => ?_) (fun cdv Ar outer s H vs Q E hr h => ?_)
  · obtain ⟨a, v, rfl, _⟩ := h
    rfl
  · obtain ⟨a, v, rfl, ha, q⟩ := h
    refine ⟨_, (pss_one (ps_ost (pv 0) (pv 1))), ?_⟩
    show tOst _ _ _ _ _ [some (.ref a), some (v)] H
    walk_at "rd"
    exact ⟨a, A.c_UnknownDeed, rfl, T.oex_UnknownDeed, T.na_UnknownDeed_name, .inl ⟨ha, q⟩⟩
theorem ok_UnknownMark_d_initd_ (T : Txt K mg A) : FnOk P w K mg base CX0 1 A.f_UnknownMark_d_initd_ A.d_UnknownMark_d_initd_ ["self", "name"] (sp_exi1 A.c_UnknownMark "name") := by
  refine T.F_UnknownMark_d_initd_.ok sc_UnknownMark_d_initd_ (fun vs H Q E h => ?_) (fun cdv Ar outer s H vs Q E hr h => ?_)
  · obtain ⟨a, v, rfl, _⟩ := h
    rfl
  · obtain ⟨a, v, rfl, ha, q⟩ := h
    refine ⟨_, (pss_one (ps_ost (pv 0) (pv 1))), ?_⟩
    show tOst _ _ _ _ _ [some (.ref a), some (v)] H
    walk_at "rd"
    exact ⟨a, A.c_UnknownMark, rfl, T.oex_UnknownMark, T.na_UnknownMark_name, .inl ⟨ha, q⟩⟩
theorem ok_UnknownName_d_initd_ (T : Txt K mg A) : FnOk P w K mg base CX0 1 A.f_UnknownName_d_initd_ A.d_UnknownName_d_initd_ ["self", "line", "name"] (sp_exi2 A.c_UnknownName "line" "name") := by
  refine T.F_UnknownName_d_initd_.ok sc_UnknownName_d_initd_ (fun vs H Q E h => ?_) (fun cdv Ar outer s H vs Q E hr h => ?_)
  · obtain ⟨a, v, u, rfl, _⟩ := h
    rfl
  · obtain ⟨a, v, u, rfl, ha, q⟩ := h
    refine ⟨_, (pss_cons (ps_ost (pv 0) (pv 1))
      (pss_one (ps_ost (pv 0) (pv 2)))), ?_⟩
    show tSeq _ _ _ [some (.ref a), some (v), some (u)] H
    walk_at "rd"
    refine ⟨a, A.c_UnknownName, rfl, T.oex_UnknownName, T.na_UnknownName_line, .inl ⟨ha, fun dx ndx ne => ?_⟩⟩
    walk_at "rd"
    exact ⟨a, A.c_UnknownName, rfl, T.oex_UnknownName, T.na_UnknownName_name, .inr ⟨dx, [("line", v)], upd_same, by rw [upd_ne ne, upd_same], (show 1 ≤ 900 by decide), q dx ndx ne⟩⟩
theorem ok_WrongKind_d_initd_ (T : Txt K mg A) : FnOk P w K mg base CX0 1 A.f_WrongKind_d_initd_ A.d_WrongKind_d_initd_ ["self", "line", "name"] (sp_exi2 A.c_WrongKind "line" "name") := by
  refine T.F_WrongKind_d_initd_.ok sc_WrongKind_d_initd_ (fun vs H Q E h => ?_) (fun cdv Ar outer s H vs Q E hr h => ?_)
  · obtain ⟨a, v, u, rfl, _⟩ := h
    rfl
  · obtain ⟨a, v, u, rfl, ha, q⟩ := h
    refine ⟨_, (pss_cons (ps_ost (pv 0) (pv 1))
      (pss_one (ps_ost (pv 0) (pv 2)))), ?_⟩
    show tSeq _ _ _ [some (.ref a), some (v), some (u)] H
    walk_at "rd"
    refine ⟨a, A.c_WrongKind, rfl, T.oex_WrongKind, T.na_WrongKind_line, .inl ⟨ha, fun dx ndx ne => ?_⟩⟩
    walk_at "rd"
    exact ⟨a, A.c_WrongKind, rfl, T.oex_WrongKind, T.na_WrongKind_name, .inr ⟨dx, [("line", v)], upd_same, by rw [upd_ne ne, upd_same], (show 1 ≤ 900 by decide), q dx ndx ne⟩⟩
theorem ok_Broken_d_initd_ (T : Txt K mg A) : FnOk P w K mg base CX0 1 A.f_Broken_d_initd_ A.d_Broken_d_initd_ ["self", "fault", "line"] (sp_exi2 A.c_Broken "fault" "line") := by
  refine T.F_Broken_d_initd_.ok sc_Broken_d_initd_ (fun vs H Q E h => ?_) (fun cdv Ar outer s H vs Q E hr h => ?_)
  · obtain ⟨a, v, u, rfl, _⟩ := h
    rfl
  · obtain ⟨a, v, u, rfl, ha, q⟩ := h
    refine ⟨_, (pss_cons (ps_ost (pv 0) (pv 1))
      (pss_one (ps_ost (pv 0) (pv 2)))), ?_⟩
    show tSeq _ _ _ [some (.ref a), some (v), some (u)] H
    walk_at "rd"
    refine ⟨a, A.c_Broken, rfl, T.oex_Broken, T.na_Broken_fault, .inl ⟨ha, fun dx ndx ne => ?_⟩⟩
    walk_at "rd"
    exact ⟨a, A.c_Broken, rfl, T.oex_Broken, T.na_Broken_line, .inr ⟨dx, [("fault", v)], upd_same, by rw [upd_ne ne, upd_same], (show 1 ≤ 900 by decide), q dx ndx ne⟩⟩
theorem ok_Breaks_d_initd_ (T : Txt K mg A) : FnOk P w K mg base CX0 1 A.f_Breaks_d_initd_ A.d_Breaks_d_initd_ ["self", "mesh", "halves"] (sp_breaks K A.c_Breaks) := by
  refine T.F_Breaks_d_initd_.ok sc_Breaks_d_initd_ (fun vs H Q E h => ?_) (fun cdv Ar outer s H vs Q E hr h => ?_)
  · obtain ⟨a, l, v, xs, rfl, _⟩ := h
    rfl
  · obtain ⟨a, l, v, xs, rfl, ha, hl, q⟩ := h
    refine ⟨_, (pss_cons (ps_ost (pv 0) (pv 1))
      (pss_one (ps_ost (pv 0) (pe_callTy (RD.k_list (K := K) rfl) (by rfl) T.z_list (by decide +kernel) (pa_cons (pv 2) pa_nil))))), ?_⟩
    show tSeq _ _ _ [some (.ref a), some (v), some (.ref l)] H
    walk_at "rd"
    refine ⟨a, A.c_Breaks, rfl, T.oex_Breaks, T.na_Breaks_mesh, .inl ⟨ha, fun dx ndx ne => ?_⟩⟩
    have keep : ∀ b o, b ≠ a → H b = some o → (upd (upd H dx (exd dx [("mesh", v)])) a (exo a A.c_Breaks (some dx))) b = some o := fun b o hb e => by
      rw [upd_ne hb, upd_ne (ne_of_none e ndx)]
      exact e
    have e1 : (upd (upd H dx (exd dx [("mesh", v)])) a (exo a A.c_Breaks (some dx))) a = some (exo a A.c_Breaks (some dx)) := upd_same
    have e2 : (upd (upd H dx (exd dx [("mesh", v)])) a (exo a A.c_Breaks (some dx))) dx = some (exd dx [("mesh", v)]) := by rw [upd_ne ne, upd_same]
    have la : l ≠ a := fun z => by
      rw [z, ha] at hl
      have hl := Option.some.inj hl
      unfold exo at hl
      cases hl
    have hl1 := keep l _ la hl
    generalize upd (upd H dx (exd dx [("mesh", v)])) a (exo a A.c_Breaks (some dx)) = H1 at keep e1 e2 hl1 ⊢
    walk_at "rd"
    refine RD.list (sq hl1) fun l2 nl2 => ?_
    have s2 := RD.same_new (o := .lst xs) nl2
    have l2d : l2 ≠ dx := (ne_of_none e2 nl2).symm
    have l2a : l2 ≠ a := (ne_of_none e1 nl2).symm
    walk_at "rd"
    refine ⟨a, A.c_Breaks, rfl, T.oex_Breaks, T.na_Breaks_halves, .inr ⟨dx, _, s2 _ _ e1, s2 _ _ e2, (show 1 ≤ 900 by decide), ?_⟩⟩
    refine q _ l2 ⟨dx, by rw [upd_ne ne.symm]; exact s2 _ _ e1, upd_same⟩ (by rw [upd_ne l2d, upd_same]) (fun b o hb e => by rw [upd_ne (ne_of_none e ndx)]; exact s2 _ _ (keep b o hb e)) ?_
    cases h2 : H l2 with
    | none => rfl
    | some o =>
      rw [keep l2 o l2a h2] at nl2
      cases nl2
end
end Pf

namespace Pf
open PySem PySem.Spec PyProof.Rows L2 RD
/-- an error of the i-th class -/
def Err (A : Ad) (H : Hp) (a : Addr) (i : Nat) : Prop := H a = some (exo a (eC A i) none) ∨ ∃ fs, ErrAt H a (eC A i) fs
theorem Err.same {A : Ad} {H H' : Hp} {a : Addr} {i : Nat} (h : Err A H a i) (s : Same H H') : Err A H' a i := by
  rcases h with h | ⟨fs, h⟩
  · exact .inl (s _ _ h)
  · exact .inr ⟨fs, h.same s⟩
def flg (i : Nat) : List Bool := (List.range 11).map fun j => decide (j = i)
def dBs (l : List Bool) : PyData := .list (l.map PyData.bool)
theorem dp_bs {K : PySem.W.Frag} {H : Hp} : ∀ l : List Bool, DpAll K H (l.map V.bl) (l.map PyData.bool)
  | [] => .nil
  | a :: l => .cons (.bl a) (dp_bs l)
theorem eqv_bs : ∀ l : List Bool, PyData.eqvAll (l.map PyData.bool) (l.map PyData.bool) = true
  | [] => by simp [PyData.eqvAll]
  | a :: l => by simp [PyData.eqvAll, PyData.eqv, eqv_bs l]
theorem lay_bs : ∀ l : List Bool, PyData.canLayAll0 (l.map PyData.bool) = true
  | [] => by simp [PyData.canLayAll0]
  | a :: l => by simp [PyData.canLayAll0, PyData.canLay0, lay_bs l]
theorem dep_bs : ∀ l : List Bool, PyData.depthAll (l.map PyData.bool) = 0
  | [] => by simp [PyData.depthAll]
  | a :: l => by simp [PyData.depthAll, PyData.depth, dep_bs l]
theorem sh_dBs (l : List Bool) : SeqAt.shaped (dBs l) = true := by
  unfold SeqAt.shaped dBs
  rw [PyData.canLay0, PyData.depth, lay_bs, dep_bs]
  rfl
theorem eqv_dBs (l : List Bool) : PyData.eqv (dBs l) (dBs l) = true := by
  unfold dBs
  rw [PyData.eqv]
  exact eqv_bs l
def sp_l_kinds (A : Ad) : Sp := fun vs H Q _ => ∃ (a : Addr) (i : Nat), vs = [.ref a] ∧ i < 11 ∧ Err A H a i ∧ ∀ (H' : Hp) (r : Addr), Same H H' → H' r = some (.lst ((flg i).map V.bl)) → Q (.ref r) H'
def sp_l_right (A : Ad) : Sp := fun vs H Q _ => ∃ (a : Addr) (i : Nat), vs = [.ref a, vn i] ∧ i < 11 ∧ Err A H a i ∧ ∀ H', Same H H' → Q (.bl true) H'
section
variable {P : Program} {w : World} {K : PySem.W.Frag} {mg : Str → Option Value} {base : Heap} {A : Ad}
theorem ok_l_kinds (T : Txt K mg A) : FnOk P w K mg base CX0 1 A.f_l_kinds A.d_l_kinds ["_law_e"] (sp_l_kinds A) := by
  refine T.F_l_kinds.ok sc_l_kinds (fun vs H Q E h => ?_) (fun cdv Ar outer s H vs Q E hr h => ?_)
  · obtain ⟨a, i, rfl, _⟩ := h
    rfl
  · obtain ⟨a, i, rfl, hi, er, q⟩ := h
    refine ⟨_, (pss_cons (ps_set (i := 1) sc_l_kinds.nd rfl (Or.inl rfl) (pe_lst (pa_cons (pe_callB (RD.k_isV (K := K) rfl) (by rfl) T.z_isinstance (by decide +kernel) (pa_cons (pv 0) (pa_cons (pe_glob (v := .ref A.c_NotAMesh) rfl T.g_NotAMesh rfl) pa_nil))) (pa_cons (pe_callB (RD.k_isV (K := K) rfl) (by rfl) T.z_isinstance (by decide +kernel) (pa_cons (pv 0) (pa_cons (pe_glob (v := .ref A.c_BadLine) rfl T.g_BadLine rfl) pa_nil))) (pa_cons (pe_callB (RD.k_isV (K := K) rfl) (by rfl) T.z_isinstance (by decide +kernel) (pa_cons (pv 0) (pa_cons (pe_glob (v := .ref A.c_UnknownName) rfl T.g_UnknownName rfl) pa_nil))) (pa_cons (pe_callB (RD.k_isV (K := K) rfl) (by rfl) T.z_isinstance (by decide +kernel) (pa_cons (pv 0) (pa_cons (pe_glob (v := .ref A.c_WrongKind) rfl T.g_WrongKind rfl) pa_nil))) pa_nil))))))
      (pss_cons (ps_set (i := 1) sc_l_kinds.nd rfl (Or.inl rfl) (pe_op op_cat (pv 1) (pe_lst (pa_cons (pe_callB (RD.k_isV (K := K) rfl) (by rfl) T.z_isinstance (by decide +kernel) (pa_cons (pv 0) (pa_cons (pe_glob (v := .ref A.c_FactFails) rfl T.g_FactFails rfl) pa_nil))) (pa_cons (pe_callB (RD.k_isV (K := K) rfl) (by rfl) T.z_isinstance (by decide +kernel) (pa_cons (pv 0) (pa_cons (pe_glob (v := .ref A.c_Broken) rfl T.g_Broken rfl) pa_nil))) (pa_cons (pe_callB (RD.k_isV (K := K) rfl) (by rfl) T.z_isinstance (by decide +kernel) (pa_cons (pv 0) (pa_cons (pe_glob (v := .ref A.c_NeverGiven) rfl T.g_NeverGiven rfl) pa_nil))) (pa_cons (pe_callB (RD.k_isV (K := K) rfl) (by rfl) T.z_isinstance (by decide +kernel) (pa_cons (pv 0) (pa_cons (pe_glob (v := .ref A.c_Breaks) rfl T.g_Breaks rfl) pa_nil))) pa_nil)))))))
      (pss_one (ps_ret (pe_op op_cat (pv 1) (pe_lst (pa_cons (pe_callB (RD.k_isV (K := K) rfl) (by rfl) T.z_isinstance (by decide +kernel) (pa_cons (pv 0) (pa_cons (pe_glob (v := .ref A.c_UnknownDeed) rfl T.g_UnknownDeed rfl) pa_nil))) (pa_cons (pe_callB (RD.k_isV (K := K) rfl) (by rfl) T.z_isinstance (by decide +kernel) (pa_cons (pv 0) (pa_cons (pe_glob (v := .ref A.c_UnknownMark) rfl T.g_UnknownMark rfl) pa_nil))) (pa_cons (pe_callB (RD.k_isV (K := K) rfl) (by rfl) T.z_isinstance (by decide +kernel) (pa_cons (pv 0) (pa_cons (pe_glob (v := .ref A.c_NothingToUndo) rfl T.g_NothingToUndo rfl) pa_nil))) pa_nil))))))))), ?_⟩
    show tSeq _ _ _ [some (.ref a), none] H
    have is : ∀ (j : Nat) (H' : Hp) (Q' : VK), j < 11 → Same H H' → Q' (.bl (decide (j = i))) H' → RD.rIsV K [.ref a, .ref (eC A j)] H' Q' := fun j H' Q' hj s k => ⟨a, eC A i, _, _, _, rfl, fun u r => r, T.excI i hi, er.same s, T.kit i j hi hj, k⟩
    walk_at "rd"
    refine is 0 _ _ (by decide) (Same.refl _) ?_
    walk_at "rd"
    refine is 1 _ _ (by decide) (Same.refl _) ?_
    walk_at "rd"
    refine is 2 _ _ (by decide) (Same.refl _) ?_
    walk_at "rd"
    refine is 3 _ _ (by decide) (Same.refl _) ?_
    walk_at "rd"
    refine ⟨szl (by simp), fun c1 nc1 => ?_⟩
    have s1 := RD.same_new (o := .lst [.bl (decide (0 = i)), .bl (decide (1 = i)), .bl (decide (2 = i)), .bl (decide (3 = i))]) nc1
    have e1 : (upd H c1 (.lst [.bl (decide (0 = i)), .bl (decide (1 = i)), .bl (decide (2 = i)), .bl (decide (3 = i))])) c1 = _ := upd_same
    generalize upd H c1 (.lst [.bl (decide (0 = i)), .bl (decide (1 = i)), .bl (decide (2 = i)), .bl (decide (3 = i))]) = H1 at s1 e1 ⊢
    walk_at "rd"
    refine is 4 _ _ (by decide) s1 ?_
    walk_at "rd"
    refine is 5 _ _ (by decide) s1 ?_
    walk_at "rd"
    refine is 6 _ _ (by decide) s1 ?_
    walk_at "rd"
    refine is 7 _ _ (by decide) s1 ?_
    walk_at "rd"
    refine ⟨szl (by simp), fun c2 nc2 => ?_⟩
    have t2 := RD.same_new (o := .lst [.bl (decide (4 = i)), .bl (decide (5 = i)), .bl (decide (6 = i)), .bl (decide (7 = i))]) nc2
    refine RD.cat (t2 _ _ e1) upd_same (szl (by simp)) fun c3 nc3 => ?_
    have t3 := RD.same_new (o := .lst ([.bl (decide (0 = i)), .bl (decide (1 = i)), .bl (decide (2 = i)), .bl (decide (3 = i))] ++ [.bl (decide (4 = i)), .bl (decide (5 = i)), .bl (decide (6 = i)), .bl (decide (7 = i))])) nc3
    have s2 := s1.trans (t2.trans t3)
    have e3 := upd_same (H := upd H1 c2 (.lst [.bl (decide (4 = i)), .bl (decide (5 = i)), .bl (decide (6 = i)), .bl (decide (7 = i))])) (a := c3) (o := .lst ([.bl (decide (0 = i)), .bl (decide (1 = i)), .bl (decide (2 = i)), .bl (decide (3 = i))] ++ [.bl (decide (4 = i)), .bl (decide (5 = i)), .bl (decide (6 = i)), .bl (decide (7 = i))]))
    generalize upd (upd H1 c2 (.lst [.bl (decide (4 = i)), .bl (decide (5 = i)), .bl (decide (6 = i)), .bl (decide (7 = i))])) c3 (.lst ([.bl (decide (0 = i)), .bl (decide (1 = i)), .bl (decide (2 = i)), .bl (decide (3 = i))] ++ [.bl (decide (4 = i)), .bl (decide (5 = i)), .bl (decide (6 = i)), .bl (decide (7 = i))])) = H3 at s2 e3 ⊢
    walk_at "rd"
    refine is 8 _ _ (by decide) s2 ?_
    walk_at "rd"
    refine is 9 _ _ (by decide) s2 ?_
    walk_at "rd"
    refine is 10 _ _ (by decide) s2 ?_
    walk_at "rd"
    refine ⟨szl (by simp), fun c4 nc4 => ?_⟩
    have t4 := RD.same_new (o := .lst [.bl (decide (8 = i)), .bl (decide (9 = i)), .bl (decide (10 = i))]) nc4
    refine RD.cat (t4 _ _ e3) upd_same (szl (by simp)) fun c5 nc5 => ?_
    exact q _ c5 (s2.trans (t4.trans (RD.same_new nc5))) upd_same
theorem ok_l_right (T : Txt K mg A) : FnOk P w K mg base CX0 2 A.f_l_right A.d_l_right ["_law_e", "_law_at"] (sp_l_right A) := by
  have G_l_kinds := ok_l_kinds (P := P) (w := w) (base := base) T
  refine T.F_l_right.ok sc_l_right (fun vs H Q E h => ?_) (fun cdv Ar outer s H vs Q E hr h => ?_)
  · obtain ⟨a, i, rfl, _⟩ := h
    rfl
  · obtain ⟨a, i, rfl, hi, er, q⟩ := h
    refine ⟨_, (pss_cons (ps_setLc (i := 2) (own := [("_law_k", 3)]) (g := gName 3) (by rfl) sc_l_right.nd rfl rfl (sw_true rfl rfl rfl (by decide +kernel)) (pi_range1 (by rfl) T.z_range (pa_cons pe_int pa_nil)) (blkOk_by (own := [("_law_k", 3)]) (N := ["_law_e", "_law_at", "_law_due", "_law_k"]) (sc := defScope s_l_right) (by decide +kernel)) (fun _ _ _ _ _ => (pg_name (i := 3) sc_l_right.nd rfl (Or.inl rfl))) (fun _ _ _ _ _ => pts_nil) (fun _ _ _ _ _ => (pe_cmpR op_eq (pv 3) (pv 1) (nomark _))))
      (pss_one (ps_ret (pe_and (pe_cmpR (RD.k_eqD (K := K) rfl hr.units) (pe_call G_l_kinds (hr.mono (by decide)) (by rfl) T.g_l_kinds T.F_l_kinds.kp T.b_l_kinds .nil pass0 (pa_cons (pv 0) pa_nil)) (pv 2) (nomark _)) (pe_and (pe_callB (RD.k_isV (K := K) rfl) (by rfl) T.z_isinstance (by decide +kernel) (pa_cons (pv 0) (pa_cons (pe_glob (v := .ref A.c_MeshError) rfl T.g_MeshError rfl) pa_nil))) (pe_one (pe_callB (RD.k_isV (K := K) rfl) (by rfl) T.z_isinstance (by decide +kernel) (pa_cons (pv 0) (pa_cons (pe_bltn (v := .ty "ValueError") (by rfl) T.z_ValueError (by decide +kernel) rfl) pa_nil))))))))), ?_⟩
    show tSeq _ _ _ [some (.ref a), some (vn i), none, none] H
    walk_at "rd"
    refine RD.lcR (z := 11) (n := 11) (by decide) (by decide) (by decide) (fun _ => true) (fun j => .bl (decide (j = i))) (fun j H1 Q' R' hj s1 kT kF => ?_) (fun H1 d nd s1 ed => ?_)
    · walk_at "wp"
      walk_at "rd"
      refine ⟨rfl, ?_⟩
      walk_at "rd"
      have e : decide ((j : Int) = (i : Int)) = decide (j = i) := by
        by_cases z : j = i
        · rw [decide_eq_true z, decide_eq_true (congrArg _ z)]
        · rw [decide_eq_false z, decide_eq_false (show ¬ ((j : Int) = (i : Int)) from fun y => z (Int.ofNat.inj y))]
      rw [e]
      exact kT rfl _ (Same.refl _)
    rw [RD.pick_all (fun _ => rfl)] at ed
    have ed : H1 d = some (.lst ((flg i).map V.bl)) := by
      rw [ed]
      unfold flg
      rw [List.map_map]
      rfl
    walk_at "rd"
    refine ⟨a, i, rfl, hi, er.same s1, fun H2 r s2 er2 => ?_⟩
    walk_at "rd"
    refine RD.eqD (.lst (sq er2) (dp_bs _)) (.lst (sq (s2 _ _ ed)) (dp_bs _)) (sh_dBs _) (sh_dBs _) ?_
    rw [show PyData.eqv (.list ((flg i).map PyData.bool)) (.list ((flg i).map PyData.bool)) = true from eqv_dBs (flg i)]
    walk_at "rd"
    refine ⟨a, eC A i, _, _, _, rfl, fun u r => r, T.excI i hi, er.same (s1.trans s2), T.kitM i hi, ?_⟩
    walk_at "rd"
    refine ⟨a, eC A i, _, _, _, rfl, fun u r => r, T.excI i hi, er.same (s1.trans s2), T.kitV i hi, ?_⟩
    exact q _ (s1.trans s2)
end
end Pf

namespace Pf
open PySem PySem.Spec PyProof.Rows L2 MM
/-! ### the object -/
theorem fp_ne : ¬ (("following" : Str) = "preceding") := by decide +kernel
def mflds (a b : Addr) : List (Str × V) := putF "preceding" (.ref b) (putF "following" (.ref a) [])
theorem mf_f (a b : Addr) : (mflds a b).lookup ("following" : Str) = some (.ref a) := by
  unfold mflds
  rw [lookup_putF, if_neg fp_ne, lookup_putF, if_pos rfl]
theorem mf_p (a b : Addr) : (mflds a b).lookup ("preceding" : Str) = some (.ref b) := by
  unfold mflds
  rw [lookup_putF, if_pos rfl]
theorem mf_no (a b : Addr) {m : Str} (h1 : ¬ m = "preceding") (h2 : ¬ m = "following") : (mflds a b).lookup m = none := by
  unfold mflds
  rw [lookup_putF, if_neg h1, lookup_putF, if_neg h2]
  rfl
structure MeshAt (A : Ad) (H : Hp) (p a b : Addr) (ns : List Nat) : Prop where
  ob : ∃ dx, H p = some (.ins A.c_Mesh dx (mflds a b))
  fo : H a = some (.lst (vns ns))
  pr : H b = some (.lst (vns (inv ns)))
theorem MeshAt.same {A : Ad} {H H' : Hp} {p a b : Addr} {ns : List Nat} (m : MeshAt A H p a b ns) (s : Same H H') : MeshAt A H' p a b ns := by
  obtain ⟨⟨dx, h⟩, h1, h2⟩ := m
  exact ⟨⟨dx, s _ _ h⟩, s _ _ h1, s _ _ h2⟩
theorem MeshAt.sameX {A : Ad} {H H' : Hp} {p a b t : Addr} {ns : List Nat} (m : MeshAt A H p a b ns) (s : SameX t H H') (n1 : p ≠ t) (n2 : a ≠ t) (n3 : b ≠ t) : MeshAt A H' p a b ns := by
  obtain ⟨⟨dx, h⟩, h1, h2⟩ := m
  exact ⟨⟨dx, s _ _ h n1⟩, s _ _ h1 n2, s _ _ h2 n3⟩
/-! ### promises -/
def sp_twin_of : Sp := fun vs H Q _ => ∃ h : Nat, vs = [vn h] ∧ Q (vn (tw h)) H
def sp_rounds (K : PySem.W.Frag) : Sp := fun vs H Q _ => ∃ (a : Addr) (st : List Nat), vs = [.ref a] ∧ SqL K H a (vns st) ∧ PermOn (fn st) st.length ∧ st.length ≤ 1000 ∧
  ∀ (H' : Hp) (q : Addr) (qs : List Addr), Same H H' → H q = none → (∀ x ∈ qs, H x = none ∧ x ≠ q) → LL H' q qs (rnds (fn st) st.length st.length) → Q (.ref q) H'
def sp_are (K : PySem.W.Frag) : Sp := fun vs H Q _ => ∃ (a : Addr) (ns : List Int), vs = [.ref a] ∧ SqL K H a (ns.map V.int) ∧ ns.length ≤ 1000 ∧ ∀ H', Same H H' → Q (.bl true) H'
def sp_init (A : Ad) : Sp := fun vs H Q _ => ∃ (p dx q : Addr) (ns : List Nat), vs = [.ref p, .ref q] ∧ H p = some (.ins A.c_Mesh dx []) ∧ H q = some (.lst (vns ns)) ∧ IsMesh ns ∧ ns.length ≤ 62 ∧
  ∀ (H' : Hp) (a b : Addr), H a = none → H b = none → a ≠ b → MeshAt A H' p a b ns → SameX p H H' → Q .non H'
def sp_after (A : Ad) : Sp := fun vs H Q _ => ∃ (p a b : Addr) (ns : List Nat) (h : Nat), vs = [.ref p, vn h] ∧ MeshAt A H p a b ns ∧ h < ns.length ∧ Q (vn (fn ns h)) H
def sp_before (A : Ad) : Sp := fun vs H Q _ => ∃ (p a b : Addr) (ns : List Nat) (h : Nat), vs = [.ref p, vn h] ∧ MeshAt A H p a b ns ∧ h < ns.length ∧ Q (vn (ns.idxOf h)) H
def sp_twin : Sp := fun vs H Q _ => ∃ (p : Addr) (h : Nat), vs = [.ref p, vn h] ∧ Q (vn (tw h)) H
def sp_turned (A : Ad) : Sp := fun vs H Q _ => ∃ (p a b : Addr) (ns : List Nat) (h : Nat), vs = [.ref p, vn h] ∧ MeshAt A H p a b ns ∧ h < ns.length ∧ Q (vn (tw (ns.idxOf h))) H
def sp_nexts (A : Ad) : Sp := fun vs H Q _ => ∃ (p a b : Addr) (ns : List Nat), vs = [.ref p] ∧ MeshAt A H p a b ns ∧ ∀ q, H q = none → Q (.ref q) (upd H q (.lst (vns ns)))
def sp_lists (A : Ad) (f : Bool) : Sp := fun vs H Q _ => ∃ (p a b : Addr) (ns : List Nat), vs = [.ref p] ∧ MeshAt A H p a b ns ∧ IsMesh ns ∧ ns.length ≤ 1000 ∧
  ∀ (H' : Hp) (q : Addr) (qs : List Addr), Same H H' → H q = none → (∀ x ∈ qs, H x = none ∧ x ≠ q) → LL H' q qs (rnds (fn (stp ns f)) ns.length ns.length) → Q (.ref q) H'
/-! ### mathematics of the loop -/
def mkK (x : Nat) : Key × V := (Sum.inl (x : Int), V.bl true)
theorem val_mk (x : Nat) : ∀ L : List Nat, valV (L.map mkK) (Sum.inl (x : Int) : Key) = if x ∈ L then some (.bl true) else none
  | [] => rfl
  | y :: L => by
    rw [List.map_cons]
    by_cases e : y = x
    · subst e
      rw [valV_pos (by rfl), if_pos List.mem_cons_self]
      rfl
    · have ne : ¬ (mkK y).1 = (Sum.inl (x : Int) : Key) := fun z => e (Int.ofNat.inj (Sum.inl.inj z))
      rw [valV_neg ne, val_mk x L]
      by_cases m : x ∈ L
      · rw [if_pos m, if_pos (List.mem_cons_of_mem _ m)]
      · rw [if_neg m, if_neg fun z => by
          rcases List.mem_cons.mp z with z | z
          · exact e z.symm
          · exact m z]
def cmin (f : Nat → Nat) (n h : Nat) : List Nat := if isMin f n h = true then cyc f n h else []
theorem rnds_next (f : Nat → Nat) (n h : Nat) : rnds f n (h + 1) = rnds f n h ++ (if (cmin f n h).isEmpty = true then [] else [cmin f n h]) := by
  show rnds f n h ++ (if isMin f n h = true then [cyc f n h] else []) = _
  unfold cmin
  by_cases q : isMin f n h = true
  · rw [if_pos q, if_pos q]; rfl
  · rw [if_neg q, if_neg q]; rfl
theorem cmin_stop {f : Nat → Nat} {n h j : Nat} (p : PermOn f n) (hh : h < n) (hj : j ≤ (cmin f n h).length) : it f j h ∈ (rnds f n h).flatten ++ (cmin f n h).take j ↔ j = (cmin f n h).length := by
  by_cases q : isMin f n h = true
  · have ec : cmin f n h = cyc f n h := if_pos q
    rw [ec] at hj ⊢
    constructor
    · intro hm
      rcases Nat.lt_or_ge j (cyc f n h).length with hl | hl
      · exfalso
        have hat := cyc_at p hh hl
        have hmem : it f j h ∈ cyc f n h := List.mem_of_getElem? hat
        rcases List.mem_append.mp hm with hm | hm
        · exact min_out p hh q hmem hm
        · obtain ⟨i, hi, e⟩ := List.mem_take_iff_getElem.mp hm
          have hi' : i < (cyc f n h).length := by omega
          have e2 : (cyc f n h)[i]? = (cyc f n h)[j]? := by rw [List.getElem?_eq_getElem hi', e, hat]
          have := (List.getElem?_inj hi' (cyc_nodup p hh)).mp e2
          omega
      · omega
    · rintro rfl
      rw [cyc_end p hh]
      refine List.mem_append_right _ ?_
      rw [List.take_length]
      exact cyc_self h
  · have ec : cmin f n h = [] := if_neg q
    rw [ec] at hj ⊢
    have : j = 0 := by simpa using hj
    subst this
    constructor
    · intro _; rfl
    · intro _
      exact List.mem_append_left _ (not_min_in p hh (by simpa using q))
theorem cmin_at {f : Nat → Nat} {n h j : Nat} (p : PermOn f n) (hh : h < n) (hj : j < (cmin f n h).length) : (cmin f n h)[j]? = some (it f j h) := by
  by_cases q : isMin f n h = true
  · have ec : cmin f n h = cyc f n h := if_pos q
    rw [ec] at hj ⊢
    exact cyc_at p hh hj
  · have ec : cmin f n h = [] := if_neg q
    rw [ec] at hj
    exact absurd hj (Nat.not_lt_zero _)
theorem cmin_len {f : Nat → Nat} {n h : Nat} (p : PermOn f n) (hh : h < n) : (cmin f n h).length ≤ n := by
  unfold cmin
  by_cases q : isMin f n h = true
  · rw [if_pos q]; exact cyc_len p hh
  · rw [if_neg q]; exact Nat.zero_le _
theorem nodup_len : ∀ (n : Nat) (l : List Nat), l.Nodup → (∀ x ∈ l, x < n) → l.length ≤ n := by
  intro n l hN hB
  rcases Nat.lt_or_ge n l.length with h | h
  · exfalso
    obtain ⟨i, j, hij, hj, e⟩ := pigeon n (fun i => l.getD i 0) (fun i hi => by
      have hi' : i < l.length := by omega
      show l.getD i 0 < n
      rw [List.getD_eq_getElem?_getD, List.getElem?_eq_getElem hi']
      exact hB _ (List.getElem_mem _))
    have hi' : i < l.length := by omega
    have hj' : j < l.length := by omega
    have e' : l.getD i 0 = l.getD j 0 := e
    rw [List.getD_eq_getElem?_getD, List.getD_eq_getElem?_getD, List.getElem?_eq_getElem hi', List.getElem?_eq_getElem hj'] at e'
    have e2 : l[i]? = l[j]? := by
      rw [List.getElem?_eq_getElem hi', List.getElem?_eq_getElem hj']
      exact congrArg some e'
    have := (List.getElem?_inj hi' hN).mp e2
    omega
  · exact h
theorem flat_len {f : Nat → Nat} {n m : Nat} (p : PermOn f n) (hm : m ≤ n) : (rnds f n m).flatten.length ≤ n := by
  refine nodup_len n _ (rnds_nodup p m hm) fun x hx => ?_
  obtain ⟨g, hg, _, hx⟩ := mem_flat.mp hx
  exact cyc_lt p (by omega) hx
theorem inv_of {ns L : List Nat} (m : IsMesh ns) (hl : L.length = ns.length) (h : ∀ j x : Nat, ns[j]? = some x → L[x]? = some j) : L = inv ns := by
  refine List.ext_getElem? fun x => ?_
  rcases Nat.lt_or_ge x ns.length with hx | hx
  · rw [inv_at hx, h _ _ (idx_at (m.mem hx))]
  · rw [List.getElem?_eq_none (by omega), List.getElem?_eq_none (by rw [inv_len]; omega)]
end Pf

namespace Pf
open PySem PySem.Spec PyProof.Rows L2 MM
section
variable {P : Program} {w : World} {K : PySem.W.Frag} {mg : Str → Option Value} {base : Heap} {A : Ad}
theorem ok_are_integers (T : Txt K mg A) : FnOk P w K mg base CX0 1 A.f_are_integers A.d_are_integers ["values"] (sp_are K) := by
  refine T.F_are_integers.ok sc_are_integers (fun vs H Q E h => ?_) (fun cdv Ar outer s H vs Q E hr h => ?_)
  · obtain ⟨a, ns, rfl, _⟩ := h
    rfl
  · obtain ⟨a, ns, rfl, hS, hl, q⟩ := h
    refine ⟨_, (pss_one (ps_ret (pe_callB (RD.k_all (K := K) rfl rfl) (by rfl) T.z_all (by decide +kernel) (pa_cons (pe_lc (own := [("value", 1)]) (g := gName 1) (by rfl) sc_are_integers.nd (RD.k_pil (K := K) rfl (pv 0)) (blkOk_by (own := [("value", 1)]) (N := ["values", "value"]) (sc := defScope s_are_integers) (by decide +kernel)) (fun _ _ _ _ _ => (pg_name (i := 1) sc_are_integers.nd rfl (Or.inl rfl))) (fun _ _ _ _ _ => pts_nil) (fun _ _ _ _ _ => (pe_and (pe_callB (RD.k_isi (K := K) rfl) (by rfl) T.z_isinstance (by decide +kernel) (pa_cons (pv 1) (pa_cons (pe_bltn (v := .ty "int") (by rfl) T.z_int (by decide +kernel) rfl) pa_nil))) (pe_one (pe_not (pe_callB (RD.k_isi (K := K) rfl) (by rfl) T.z_isinstance (by decide +kernel) (pa_cons (pv 1) (pa_cons (pe_bltn (v := .ty "bool") (by rfl) T.z_bool (by decide +kernel) rfl) pa_nil)))))))) pa_nil)))), ?_⟩
    show tRet _ _ [some (.ref a), none] H
    walk_at "rd"
    refine RD.lcL hS (by rw [List.length_map]; exact szl (by omega)) (fun _ => true) (fun _ => .bl true) (fun i x H1 Q' R' hx s1 kT kF => ?_) (fun H1 l nl s1 el => ?_)
    · obtain ⟨z, rfl⟩ : ∃ z, x = V.int z := by
        rw [List.getElem?_map] at hx
        cases e : ns[i]? with
        | none => rw [e] at hx; cases hx
        | some z => rw [e] at hx; exact ⟨z, (Option.some.inj hx).symm⟩
      walk_at "wp"
      walk_at "rd"
      refine ⟨rfl, ?_⟩
      walk_at "rd"
      refine RD.isi (.ty "int") (.base (.int z)) (kit_ty (r := true) (by decide +kernel)) ?_
      walk_at "rd"
      refine RD.isi (.ty "bool") (.base (.int z)) (kit_ty (r := false) (by decide +kernel)) ?_
      walk_at "rd"
      exact kT rfl _ (Same.refl _)
    rw [RD.pick_all (fun _ => rfl)] at el
    walk_at "rd"
    refine RD.all1 (bs := ns.map fun _ => true) (sq (by rw [el, List.map_map, List.map_map]; rfl)) ?_
    have e : (ns.map fun _ => true).all id = true := by simp
    rw [e]
    exact q H1 s1
theorem ok_Mesh_d_initd_ (T : Txt K mg A) : FnOk P w K mg base CX0 2 A.f_Mesh_d_initd_ A.d_Mesh_d_initd_ ["self", "nexts"] (sp_init A) := by
  have G_are_integers := ok_are_integers (P := P) (w := w) (base := base) T
  refine T.F_Mesh_d_initd_.ok sc_Mesh_d_initd_ (fun vs H Q E h => ?_) (fun cdv Ar outer s H vs Q E hr h => ?_)
  · obtain ⟨p, dx, r, ns, rfl, _⟩ := h
    rfl
  · obtain ⟨p, dx, r, ns, rfl, hp, hr0, hM, hl, q⟩ := h
    refine ⟨_, (pss_cons (ps_set (i := 2) sc_Mesh_d_initd_.nd rfl (Or.inl rfl) (pe_callB (RD.k_len (K := K) rfl) (by rfl) T.z_len (by decide +kernel) (pa_cons (pv 1) pa_nil)))
      (pss_cons (ps_if (PW.pt (pw_or (pt_cmpR op_eq (pe_op op_mod (pv 2) pe_int) pe_int (nomark _)) (pw_or (pt_not (pt_val (pe_call G_are_integers (hr.mono (by decide)) (by rfl) T.g_are_integers T.F_are_integers.kp T.b_are_integers .nil pass0 (pa_cons (pv 1) pa_nil)))) (pw_or1 (pt_cmpR (RD.k_neD (K := K) rfl hr.units) (pe_callB (RD.k_sorted (K := K) rfl) (by rfl) T.z_sorted (by decide +kernel) (pa_cons (pv 1) pa_nil)) (pe_listRg (by rfl) (by rfl) T.z_list (prg_1 (by rfl) T.z_range (pv 2))) (nomark _))))))
      (pss_one ps_never)
      pss_nil)
      (pss_cons (RD.k_sfld (K := K) rfl (pv 0) (pe_callTy (RD.k_list (K := K) rfl) (by rfl) T.z_list (by decide +kernel) (pa_cons (pv 1) pa_nil)) rfl)
      (pss_cons (RD.k_sfld (K := K) rfl (pv 0) (pe_op op_rep (pe_lst (pa_cons pe_int pa_nil)) (pv 2)) rfl)
      (pss_one (ps_for PassesOwn.never rfl (RD.k_pie (K := K) rfl (by rfl) T.z_enumerate (pa_cons (RD.k_fld (K := K) rfl (pv 0) rfl) pa_nil)) (RD.k_gtup (K := K) (n := 2) rfl rfl (pgs_cons (pg_name (i := 3) sc_Mesh_d_initd_.nd rfl (Or.inl rfl)) (pgs_cons (pg_name (i := 4) sc_Mesh_d_initd_.nd rfl (Or.inl rfl)) pgs_nil)))
      (pss_one (ps_asg (pv 3) (pg_sub (RD.k_fld (K := K) rfl (pv 0) rfl) (pv 4) set_list))))))))), ?_⟩
    show tSeq _ _ _ [some (.ref p), some (.ref r), none, none, none] H
    walk_at "rd"
    refine RD.len (sq hr0) ?_
    rw [vns_len]
    walk_at "rd"
    refine RD.iC (by decide) ?_
    walk_at "rd"
    have he := hM.even
    refine RD.decF (by omega) ?_
    walk_at "rd"
    refine ⟨r, ns.map (fun n : Nat => (n : Int)), rfl, by rw [← vns_int]; exact sq hr0, by rw [List.length_map]; omega, fun H1 s1 => ?_⟩
    walk_at "rd"
    show (if false = true then _ else _)
    walk_at "rd"
    have hr1 := s1 _ _ hr0
    refine RD.sort1 (ns := ns.map (fun n : Nat => (n : Int))) (by rw [← vns_int]; exact sq hr1) (by rw [List.length_map]; omega) fun ns' c pm so nc => ?_
    have en : ns' = (List.range ns.length).map (fun n : Nat => (n : Int)) := by
      refine List.Perm.eq_of_pairwise (le := (· ≤ ·)) (fun x y _ _ h1 h2 => Int.le_antisymm h1 h2) so ?_ (pm.trans (hM.perm.map _))
      refine List.pairwise_map.mpr (List.Pairwise.imp ?_ (List.pairwise_lt_range (n := ns.length)))
      intro x y hxy
      omega
    subst en
    have s2 := RD.same_new (o := .lst (((List.range ns.length).map (fun n : Nat => (n : Int))).map V.int)) nc
    walk_at "rd"
    refine ⟨RgOk.of_le (by omega) (by omega) (by omega) (by omega), fun c2 nc2 => ?_⟩
    have erg : rgV 0 (ns.length : Int) = ((List.range ns.length).map (fun n : Nat => (n : Int))).map V.int := by
      unfold rgV
      rw [List.map_map, show ((ns.length : Int) - 0).toNat = ns.length by omega]
      refine List.map_congr_left fun x _ => ?_
      show V.int (0 + (x : Int)) = V.int (x : Int)
      rw [Int.zero_add]
    rw [erg]
    have s3 := RD.same_new (o := .lst (((List.range ns.length).map (fun n : Nat => (n : Int))).map V.int)) nc2
    refine RD.neD (dp_I (sq (s3 _ _ upd_same))) (dp_I (sq upd_same)) (sh_dI _) (sh_dI _) ?_
    rw [eqv_dI]
    walk_at "rd"
    refine RD.ndF rfl ?_
    have s4 := (s1.trans s2).trans s3
    clear s2 s3
    generalize (upd (upd H1 c (.lst (((List.range ns.length).map (fun n : Nat => (n : Int))).map V.int))) c2 (.lst (((List.range ns.length).map (fun n : Nat => (n : Int))).map V.int))) = Hk at s4 ⊢
    walk_at "rd"
    refine RD.list (sq (s4 _ _ hr0)) fun a na => ?_
    have s5 := RD.same_new (o := .lst (vns ns)) na
    have pa : p ≠ a := ne_of_none (s4 _ _ hp) na
    walk_at "rd"
    refine ⟨p, _, dx, [], rfl, s5 _ _ (s4 _ _ hp), T.cl_Mesh, T.n_Mesh_following, by decide, ?_⟩
    walk_at "rd"
    refine ⟨szl (by simp), fun z nz => ?_⟩
    walk_at "rd"
    refine RD.rep upd_same (by omega) (by omega) ?_ fun b nb => ?_
    · rw [Int.toNat_natCast]
      exact szl (by simp; omega)
    have ezr : (List.replicate ((ns.length : Int)).toNat [V.int 0]).flatten = vns (List.replicate ns.length 0) := by
      rw [Int.toNat_natCast]
      unfold vns
      rw [List.map_replicate]
      generalize ns.length = m0
      induction m0 with
      | zero => rfl
      | succ m ih => rw [List.replicate_succ, List.flatten_cons, ih, List.replicate_succ]; rfl
    rw [ezr]
    have pz : p ≠ z := ne_of_none upd_same nz
    have s6 := RD.same_new (o := .lst [V.int 0]) nz
    have pb : p ≠ b := ne_of_none (s6 _ _ upd_same) nb
    have s7 := RD.same_new (o := .lst (vns (List.replicate ns.length 0))) nb
    have ab : a ≠ b := ne_of_none (s6 _ _ (by rw [upd_ne pa.symm]; exact upd_same)) nb
    have s8 := s6.trans s7
    have na0 : H a = none := s4.free na
    have nb0 : H b = none := by
      have e1 : H b = none ∨ b = p := by
        by_cases e : b = p
        · exact .inr e
        · left
          have := s6.free nb
          rw [upd_ne e] at this
          exact s4.free (s5.free this)
      rcases e1 with e | e
      · exact e
      · exact absurd e.symm pb
    walk_at "rd"
    refine ⟨p, _, dx, _, rfl, s8 _ _ upd_same, T.cl_Mesh, T.n_Mesh_preceding, (by show 1 < 1000; decide), ?_⟩
    have ep : ∀ X : Hp, (upd X p (.ins A.c_Mesh dx (putF "preceding" (.ref b) (putF "following" (.ref a) [])))) p = some (.ins A.c_Mesh dx (mflds a b)) := fun _ => upd_same
    walk_at "rd"
    refine ⟨p, _, dx, _, _, rfl, ep _, T.cl_Mesh, T.n_Mesh_following, mf_f a b, ?_⟩
    walk_at "rd"
    have ea : (upd (upd (upd (upd (upd Hk a (.lst (vns ns))) p (.ins A.c_Mesh dx (putF "following" (.ref a) []))) z (.lst [V.int 0])) b (.lst (vns (List.replicate ns.length 0)))) p (.ins A.c_Mesh dx (putF "preceding" (.ref b) (putF "following" (.ref a) [])))) a = some (.lst (vns ns)) := by
      rw [upd_ne pa.symm]
      exact s8 _ _ (by rw [upd_ne pa.symm]; exact upd_same)
    refine RD.goE (sq ea) (fun i σ H3 => ∃ (L : List Nat) (o3 o4 : Option V), σ = [some (.ref p), some (.ref r), some (.int (ns.length : Int)), o3, o4] ∧ L.length = ns.length ∧ (∀ j x : Nat, j < i → ns[j]? = some x → L[x]? = some j) ∧
        H3 p = some (.ins A.c_Mesh dx (mflds a b)) ∧ H3 a = some (.lst (vns ns)) ∧ H3 b = some (.lst (vns L)) ∧ SameX p H H3)
      ⟨List.replicate ns.length 0, none, none, rfl, List.length_replicate, fun j x hj => absurd hj (Nat.not_lt_zero _), upd_same, ea, by rw [upd_ne pb.symm, upd_same], ?_⟩ (fun i σ H3 _ ⟨L, o3, o4, _, _, _, _, e, _⟩ => sq e) ?_ ?_
    · exact (((((Same.x s4).trans (Same.x s5)).put).trans (Same.x s8))).put
    · rintro i x σ H3 tp hx ⟨L, o3, o4, rfl, hL, hj, e1, e2, e3, s9⟩ ntp
      obtain ⟨m, hm, rfl⟩ := of_vns hx
      have sT := RD.same_new (o := .tup [V.int ((i : Nat) : Int), vn m]) ntp
      refine RD.gtup2 (st upd_same) ?_
      walk_at "rd"
      refine ⟨p, _, dx, _, _, rfl, sT _ _ e1, T.cl_Mesh, T.n_Mesh_preceding, mf_p a b, ?_⟩
      walk_at "rd"
      have hml : m < L.length := by rw [hL]; exact hM.lt (List.mem_of_getElem? hm)
      refine RD.setL (sT _ _ e3) (by rw [vns_len]; exact ix_n hml) ?_
      have ebt : b ≠ tp := ne_of_none e3 ntp
      refine ⟨L.set m i, _, _, rfl, by rw [List.length_set]; exact hL, fun j x hji hjx => ?_, by rw [upd_ne pb]; exact sT _ _ e1, by rw [upd_ne ab]; exact sT _ _ e2, ?_, ?_⟩
      · by_cases e : j = i
        · subst e
          rw [hm] at hjx
          cases hjx
          rw [List.getElem?_set_self hml]
        · have hne : m ≠ x := fun z => by
            subst z
            have hjl : j < ns.length := (List.getElem?_eq_some_iff.mp hjx).1
            exact e ((List.getElem?_inj hjl hM.nodup).mp (hjx.trans hm.symm))
          rw [List.getElem?_set_ne hne]
          exact hj j x (by omega) hjx
      · rw [upd_same]
        show some (HO.lst ((vns L).set m (vn i))) = _
        unfold vns
        rw [List.map_set]
      · exact (s9.trans (Same.x sT)).mut nb0
    · rintro σ H3 ⟨L, o3, o4, rfl, hL, hj, e1, e2, e3, s9⟩
      rw [vns_len] at hj
      have eL : L = inv ns := inv_of hM hL fun j x hjx => hj j x (List.getElem?_eq_some_iff.mp hjx).1 hjx
      subst eL
      exact q H3 a b na0 nb0 ab ⟨⟨dx, e1⟩, e2, e3⟩ s9
end
end Pf

namespace Pf
open PySem PySem.Spec PyProof.Rows L2 MM
section
variable {P : Program} {w : World} {K : PySem.W.Frag} {mg : Str → Option Value} {base : Heap} {A : Ad}
theorem ok_Mesh_after (T : Txt K mg A) : FnOk P w K mg base CX0 1 A.f_Mesh_after A.d_Mesh_after ["self", "half"] (sp_after A) := by
  refine T.F_Mesh_after.ok sc_Mesh_after (fun vs H Q E h => ?_) (fun cdv Ar outer s H vs Q E hr h => ?_)
  · obtain ⟨p, a, b, ns, n, rfl, _⟩ := h
    rfl
  · obtain ⟨p, a, b, ns, n, rfl, ⟨⟨dx, h1⟩, h2, h3⟩, hn, q⟩ := h
    refine ⟨_, (pss_one (ps_ret (pe_ix (RD.k_ixL (K := K) rfl) (RD.k_fld (K := K) rfl (pv 0) rfl) (pv 1) (fun _ _ => rfl)))), ?_⟩
    show tRet _ _ [some (.ref p), some (vn n)] H
    walk_at "rd"
    refine ⟨p, _, dx, _, _, rfl, h1, T.cl_Mesh, T.n_Mesh_following, mf_f a b, ?_⟩
    walk_at "rd"
    exact RD.ixL (sq h2) (at_n (vns_at (fn_at hn))) q
end
end Pf

namespace Pf
open PySem PySem.Spec PyProof.Rows L2 MM
section
variable {P : Program} {w : World} {K : PySem.W.Frag} {mg : Str → Option Value} {base : Heap} {A : Ad}
theorem ok_Mesh_nexts (T : Txt K mg A) : FnOk P w K mg base CX0 1 A.f_Mesh_nexts A.d_Mesh_nexts ["self"] (sp_nexts A) := by
  refine T.F_Mesh_nexts.ok sc_Mesh_nexts (fun vs H Q E h => ?_) (fun cdv Ar outer s H vs Q E hr h => ?_)
  · obtain ⟨p, a, b, ns, rfl, _⟩ := h
    rfl
  · obtain ⟨p, a, b, ns, rfl, ⟨⟨dx, h1⟩, h2, h3⟩, q⟩ := h
    refine ⟨_, (pss_one (ps_ret (pe_callTy (RD.k_list (K := K) rfl) (by rfl) T.z_list (by decide +kernel) (pa_cons (RD.k_fld (K := K) rfl (pv 0) rfl) pa_nil)))), ?_⟩
    show tRet _ _ [some (.ref p)] H
    walk_at "rd"
    refine ⟨p, _, dx, _, _, rfl, h1, T.cl_Mesh, T.n_Mesh_following, mf_f a b, ?_⟩
    walk_at "rd"
    exact RD.list (sq h2) q
end
end Pf

namespace Pf
open PySem PySem.Spec PyProof.Rows L2 MM
def sp_mlen (A : Ad) : Sp := fun vs H Q _ => ∃ (p a b : Addr) (ns : List Nat), vs = [.ref p] ∧ MeshAt A H p a b ns ∧ Q (vn ns.length) H
def sp_mcont (A : Ad) : Sp := fun vs H Q _ => ∃ (p a b : Addr) (ns : List Nat) (z : Int), vs = [.ref p, .int z] ∧ MeshAt A H p a b ns ∧ Q (.bl (decide (0 ≤ z ∧ z < (ns.length : Int)))) H
def sp_meq (K : PySem.W.Frag) (A : Ad) : Sp := fun vs H Q _ => ∃ (p a b : Addr) (ns : List Nat) (y : V), vs = [.ref p, y] ∧ MeshAt A H p a b ns ∧
  ((∃ p2 a2 b2 ms, y = .ref p2 ∧ MeshAt A H p2 a2 b2 ms ∧ Q (.bl (decide (ns = ms))) H) ∨ (∃ t, TyX K H y t ∧ PySem.W.kitOne K t (.ref A.c_Mesh) = some false ∧ Q (.bl false) H))
theorem kit_self {K : PySem.W.Frag} {t : Value} : PySem.W.kitOne K t t = some true := by
  unfold PySem.W.kitOne
  rw [if_pos (by simp)]
theorem nf_self {K : PySem.W.Frag} {C : Addr} : PySem.W.notFirst K C (.ref C) = true := by
  unfold PySem.W.notFirst
  simp
section
variable {P : Program} {w : World} {K : PySem.W.Frag} {mg : Str → Option Value} {base : Heap} {A : Ad}
theorem mesh_ty (T : Txt K mg A) {H : Hp} {p a b : Addr} {ns : List Nat} (m : MeshAt A H p a b ns) : TyX K H (.ref p) (.ref A.c_Mesh) := by
  obtain ⟨dx, h⟩ := m.ob
  exact .base (.ins h T.cl_Mesh T.xa_Mesh T.oc_get T.oc_tak T.xm_Mesh)
theorem ok_Mesh_d_lend_ (T : Txt K mg A) : FnOk P w K mg base CX0 1 A.f_Mesh_d_lend_ A.d_Mesh_d_lend_ ["self"] (sp_mlen A) := by
  refine T.F_Mesh_d_lend_.ok sc_Mesh_d_lend_ (fun vs H Q E h => ?_) (fun cdv Ar outer s H vs Q E hr h => ?_)
  · obtain ⟨p, a, b, ns, rfl, _⟩ := h
    rfl
  · obtain ⟨p, a, b, ns, rfl, ⟨⟨dx, h1⟩, h2, h3⟩, q⟩ := h
    refine ⟨_, (pss_one (ps_ret (pe_callB (RD.k_len (K := K) rfl) (by rfl) T.z_len (by decide +kernel) (pa_cons (RD.k_fld (K := K) rfl (pv 0) rfl) pa_nil)))), ?_⟩
    show tRet _ _ [some (.ref p)] H
    walk_at "rd"
    refine ⟨p, _, dx, _, _, rfl, h1, T.cl_Mesh, T.n_Mesh_following, mf_f a b, ?_⟩
    walk_at "rd"
    refine RD.len (sq h2) ?_
    rw [vns_len]
    exact q
theorem ok_Mesh_d_containsd_ (T : Txt K mg A) : FnOk P w K mg base CX0 1 A.f_Mesh_d_containsd_ A.d_Mesh_d_containsd_ ["self", "half"] (sp_mcont A) := by
  refine T.F_Mesh_d_containsd_.ok sc_Mesh_d_containsd_ (fun vs H Q E h => ?_) (fun cdv Ar outer s H vs Q E hr h => ?_)
  · obtain ⟨p, a, b, ns, z, rfl, _⟩ := h
    rfl
  · obtain ⟨p, a, b, ns, z, rfl, ⟨⟨dx, h1⟩, h2, h3⟩, q⟩ := h
    refine ⟨_, (pss_one (ps_ret (pe_chain op_le op_lt pe_int (pv 1) (pe_callB (RD.k_len (K := K) rfl) (by rfl) T.z_len (by decide +kernel) (pa_cons (RD.k_fld (K := K) rfl (pv 0) rfl) pa_nil))))), ?_⟩
    show tRet _ _ [some (.ref p), some (.int z)] H
    walk_at "rd"
    refine RD.dec (fun e => ?_) (fun e => ?_)
    · walk_at "rd"
      refine ⟨p, _, dx, _, _, rfl, h1, T.cl_Mesh, T.n_Mesh_following, mf_f a b, ?_⟩
      walk_at "rd"
      refine RD.len (sq h2) ?_
      rw [vns_len]
      walk_at "rd"
      have e2 : decide (0 ≤ z ∧ z < (ns.length : Int)) = decide (z < (ns.length : Int)) := by simp [e]
      rw [← e2]
      exact q
    · have e2 : decide (0 ≤ z ∧ z < (ns.length : Int)) = false := decide_eq_false fun h => e h.1
      rw [e2] at q
      exact q
theorem ok_Mesh_d_eqd_ (T : Txt K mg A) : FnOk P w K mg base CX0 1 A.f_Mesh_d_eqd_ A.d_Mesh_d_eqd_ ["self", "other"] (sp_meq K A) := by
  refine T.F_Mesh_d_eqd_.ok sc_Mesh_d_eqd_ (fun vs H Q E h => ?_) (fun cdv Ar outer s H vs Q E hr h => ?_)
  · obtain ⟨p, a, b, ns, y, rfl, _⟩ := h
    rfl
  · obtain ⟨p, a, b, ns, y, rfl, m, hy⟩ := h
    refine ⟨_, (pss_one (ps_ret (pe_and (pe_callB (RD.k_isi (K := K) rfl) (by rfl) T.z_isinstance (by decide +kernel) (pa_cons (pv 1) (pa_cons (pe_glob (v := .ref A.c_Mesh) rfl T.g_Mesh rfl) pa_nil))) (pe_one (pe_cmpR (RD.k_eqD (K := K) rfl hr.units) (RD.k_fld (K := K) rfl (pv 0) rfl) (RD.k_fld (K := K) rfl (pv 1) rfl) (nomark _)))))), ?_⟩
    show tRet _ _ [some (.ref p), some (y)] H
    walk_at "rd"
    rcases hy with ⟨p2, a2, b2, ms, rfl, m2, q⟩ | ⟨t, ty, kt, q⟩
    · refine RD.isi (.own _) (mesh_ty T m2) kit_self ?_
      obtain ⟨⟨dx, h1⟩, h2, h3⟩ := m
      obtain ⟨⟨dy, g1⟩, g2, g3⟩ := m2
      walk_at "rd"
      refine ⟨p, _, dx, _, _, rfl, h1, T.cl_Mesh, T.n_Mesh_following, mf_f a b, ?_⟩
      walk_at "rd"
      refine ⟨p2, _, dy, _, _, rfl, g1, T.cl_Mesh, T.n_Mesh_following, mf_f a2 b2, ?_⟩
      refine RD.eqD (dp_N (sq h2)) (dp_N (sq g2)) (sh_dN _) (sh_dN _) ?_
      rw [eqv_dN]
      exact q
    · refine RD.isi (.own _) ty kt ?_
      walk_at "rd"
      exact q
theorem eq_mesh (T : Txt K mg A) {H : Hp} {Q : VK} {E : XK} {p a b p2 a2 b2 : Addr} {ns ms : List Nat} (m : MeshAt A H p a b ns) (m2 : MeshAt A H p2 a2 b2 ms) (q : Q (.bl (decide (ns = ms))) H) : RD.rEqOwn K A.c_Mesh (sp_meq K A) E (.ref p) (.ref p2) H Q := by
  obtain ⟨dx, h1⟩ := m.ob
  exact ⟨p, dx, _, _, rfl, h1, mesh_ty T m2, nf_self, p, a, b, ns, _, rfl, m, .inl ⟨p2, a2, b2, ms, rfl, m2, _, rfl, q⟩⟩
theorem eq_other {H : Hp} {Q : VK} {E : XK} {p a b : Addr} {ns : List Nat} {y : V} {t : Value} (m : MeshAt A H p a b ns) (ty : TyX K H y t) (nf : PySem.W.notFirst K A.c_Mesh t = true) (kt : PySem.W.kitOne K t (.ref A.c_Mesh) = some false) (q : Q (.bl false) H) : RD.rEqOwn K A.c_Mesh (sp_meq K A) E (.ref p) y H Q := by
  obtain ⟨dx, h1⟩ := m.ob
  exact ⟨p, dx, _, _, rfl, h1, ty, nf, p, a, b, ns, _, rfl, m, .inr ⟨t, ty, kt, _, rfl, q⟩⟩
theorem len_mesh {H : Hp} {Q : VK} {E : XK} {p a b : Addr} {ns : List Nat} (m : MeshAt A H p a b ns) (hl : ns.length ≤ 1000) (q : Q (vn ns.length) H) : RD.rLenOwn A.c_Mesh (sp_mlen A) E [.ref p] H Q := by
  obtain ⟨dx, h1⟩ := m.ob
  exact ⟨p, dx, _, rfl, h1, p, a, b, ns, rfl, m, _, rfl, by omega, by omega, q⟩
theorem in_mesh {H : Hp} {Q : VK} {E : XK} {p a b : Addr} {ns : List Nat} {z : Int} (m : MeshAt A H p a b ns) (q : Q (.bl (decide (0 ≤ z ∧ z < (ns.length : Int)))) H) : RD.rInOwn A.c_Mesh (sp_mcont A) E false (.int z) (.ref p) H Q := by
  obtain ⟨dx, h1⟩ := m.ob
  exact ⟨p, dx, _, rfl, h1, p, a, b, ns, z, rfl, m, _, rfl, q⟩
theorem nin_mesh {H : Hp} {Q : VK} {E : XK} {p a b : Addr} {ns : List Nat} {z : Int} (m : MeshAt A H p a b ns) (q : Q (.bl (!decide (0 ≤ z ∧ z < (ns.length : Int)))) H) : RD.rInOwn A.c_Mesh (sp_mcont A) E true (.int z) (.ref p) H Q := by
  obtain ⟨dx, h1⟩ := m.ob
  exact ⟨p, dx, _, rfl, h1, p, a, b, ns, z, rfl, m, _, rfl, q⟩
end
end Pf

namespace Pf
open PySem PySem.Spec PyProof.Rows L2 MM
/-- Mesh(r), r a right list -/
theorem mk_mesh {A : Ad} {H : Hp} {r : Addr} {ns : List Nat} {Q : VK} {E : XK} (hr : H r = some (.lst (vns ns))) (hM : IsMesh ns) (hl : ns.length ≤ 62)
    (q : ∀ (H' : Hp) (p a b : Addr), H p = none → H a = none → H b = none → Same H H' → MeshAt A H' p a b ns → Q (.ref p) H') :
    RD.MKE A.c_Mesh (sp_init A) [] E [.ref r] H Q := by
  intro x dx nx ndx ne
  have s0 : Same H (upd (upd H dx (.own x)) x (.ins A.c_Mesh dx [])) := RD.same_mut (RD.same_new ndx) nx
  refine ⟨x, dx, r, ns, rfl, upd_same, s0 _ _ hr, hM, hl, fun H' a b na nb _ m sx => ⟨rfl, ?_⟩⟩
  refine q H' x a b nx (s0.free na) (s0.free nb) (fun c o e => sx c o (s0 c o e) (ne_of_none e nx)) m
end Pf

namespace Pf
open PySem PySem.Spec PyProof.Rows L2
def sp_law (K : PySem.W.Frag) : Sp := fun vs H Q _ => ∃ (a : Addr) (ns : List Int), vs = [.ref a] ∧ SqL K H a (ns.map V.int) ∧ ns.length ≤ 63 ∧ ∀ H', Q (.bl true) H'
end Pf

namespace Pf
open PySem PySem.Spec PyProof.Rows L2 RD
theorem mvB {K : PySem.W.Frag} {C l : Addr} {v : V} {xs : List V} {H : Hp} {Q : VK} (hl : H l = some (.lst xs)) (q : ∀ a l2 H', Same H H' → ErrAt H' a C [("halves", .ref l2), ("mesh", v)] → H' l2 = some (.lst xs) → H l2 = none → Q (.ref a) H') :
    MVX C (sp_breaks K C) [v, .ref l] H Q := by
  refine ⟨(show 2 ≤ 1000 by decide), fun a na => ⟨a, l, v, xs, rfl, upd_same, by rw [upd_ne (ne_of_none hl na)]; exact hl, fun H' l2 e1 e2 keep nl2 => ⟨rfl, q a l2 H' (fun b o e => keep b o (ne_of_none e na) (by rw [upd_ne (ne_of_none e na)]; exact e)) e1 e2 ?_⟩⟩⟩
  have : l2 ≠ a := fun z => by rw [z, upd_same] at nl2; cases nl2
  rw [upd_ne this] at nl2
  exact nl2
theorem mnB {K : PySem.W.Frag} {C l : Addr} {v : V} {xs : List V} {H : Hp} {Q : VK} (hl : H l = some (.lst xs)) (q : ∀ a l2 H', Same H H' → ErrAt H' a C [("halves", .ref l2), ("mesh", v)] → H' l2 = some (.lst xs) → H l2 = none → Q (.ref a) H') :
    MKX C (sp_breaks K C) g2 [.ref l, v] H Q := (mvB hl q).2
theorem slW {z : Str} {lo hi : Option Int} {H : Hp} {Q : VK} (hz : z.length ≤ sizeLine) (q : ∀ word : Str, Q (.str word) H) : rSlS (.str z) lo hi H Q := ⟨z, rfl, hz, q _⟩
theorem tne {H : Hp} {t p : Addr} (tA : TapeAt H t) (n : H p = none) : p ≠ t := fun z => by
  obtain ⟨x, y, hA, _⟩ := tA
  rw [z, hA] at n
  cases n
theorem err_put {H : Hp} {l a C : Addr} {xs : List V} {o : HO} {fs : List (Str × V)} (hl : H l = some (.lst xs)) (h : ErrAt H a C fs) : ErrAt (upd H l o) a C fs := by
  obtain ⟨dd, h1, h2⟩ := h
  have n1 : a ≠ l := fun z => by
    rw [z, hl] at h1
    have h1 := Option.some.inj h1
    unfold exo at h1
    cases h1
  have n2 : dd ≠ l := fun z => by
    rw [z, hl] at h2
    have h2 := Option.some.inj h2
    unfold exd at h2
    cases h2
  exact ⟨dd, by rw [upd_ne n1]; exact h1, by rw [upd_ne n2]; exact h2⟩
section
variable {P : Program} {w : World} {K : PySem.W.Frag} {mg : Str → Option Value} {base : Heap} {A : Ad}
theorem ok_law (T : Txt K mg A) : FnOk P w K mg base CX0 4 A.f_law A.d_law ["_law_script"] (sp_law K) := by
  have G_l_tape := ok_l_tape (P := P) (w := w) (base := base) T
  have G_l_pick := ok_l_pick (P := P) (w := w) (base := base) T
  have G_Mesh_d_initd_ := ok_Mesh_d_initd_ (P := P) (w := w) (base := base) T
  have G_l_right := ok_l_right (P := P) (w := w) (base := base) T
  have G_UnknownName_d_initd_ := ok_UnknownName_d_initd_ (P := P) (w := w) (base := base) T
  have G_BadLine_d_initd_ := ok_BadLine_d_initd_ (P := P) (w := w) (base := base) T
  have G_FactFails_d_initd_ := ok_FactFails_d_initd_ (P := P) (w := w) (base := base) T
  have G_WrongKind_d_initd_ := ok_WrongKind_d_initd_ (P := P) (w := w) (base := base) T
  have G_Broken_d_initd_ := ok_Broken_d_initd_ (P := P) (w := w) (base := base) T
  have G_UnknownMark_d_initd_ := ok_UnknownMark_d_initd_ (P := P) (w := w) (base := base) T
  have G_UnknownDeed_d_initd_ := ok_UnknownDeed_d_initd_ (P := P) (w := w) (base := base) T
  have G_Breaks_d_initd_ := ok_Breaks_d_initd_ (P := P) (w := w) (base := base) T
  have G_Mesh_d_eqd_ := ok_Mesh_d_eqd_ (P := P) (w := w) (base := base) T
  refine T.F_law.ok sc_law (fun vs H Q E h => ?_) (fun cdv Ar outer s H vs Q E hr h => ?_)
  · obtain ⟨a, ns, rfl, _⟩ := h
    rfl
  · obtain ⟨a, zs, rfl, hS, hlen, q⟩ := h
    refine ⟨_, (pss_cons (ps_set (i := 1) sc_law.nd rfl (Or.inl rfl) (pe_call G_l_tape (hr.mono (by decide)) (by rfl) T.g_l_tape T.F_l_tape.kp T.b_l_tape .nil pass0 (pa_cons (pv 0) (pa_cons pe_int pa_nil))))
      (pss_cons (ps_set (i := 2) sc_law.nd rfl (Or.inl rfl) (pe_call G_l_pick (hr.mono (by decide)) (by rfl) T.g_l_pick T.F_l_pick.kp T.b_l_pick .nil pass0 (pa_cons (pv 1) (pa_cons (pe_op op_pow pe_int pe_int) pa_nil))))
      (pss_cons (ps_set (i := 3) sc_law.nd rfl (Or.inl rfl) (pe_slice sl_str pe_str po_none (po_some (pe_op op_add pe_int (pe_call G_l_pick (hr.mono (by decide)) (by rfl) T.g_l_pick T.F_l_pick.kp T.b_l_pick .nil pass0 (pa_cons (pv 1) (pa_cons pe_int pa_nil)))))))
      (pss_cons (ps_set (i := 4) sc_law.nd rfl (Or.inl rfl) (pe_make T.mk_Mesh G_Mesh_d_initd_ (hr.mono (by decide)) (by rfl) T.g_Mesh T.b_Mesh_d_initd_ .nil pass0 (pa_cons (pe_ix (RD.k_ixL (K := K) rfl) (pe_lst (pa_cons (pe_lst (pa_cons pe_int (pa_cons pe_int pa_nil))) (pa_cons (pe_lst (pa_cons pe_int (pa_cons pe_int pa_nil))) (pa_cons (pe_lst (pa_cons pe_int (pa_cons pe_int (pa_cons pe_int (pa_cons pe_int pa_nil))))) pa_nil)))) (pe_call G_l_pick (hr.mono (by decide)) (by rfl) T.g_l_pick T.F_l_pick.kp T.b_l_pick .nil pass0 (pa_cons (pv 1) (pa_cons pe_int pa_nil))) (fun _ _ => rfl)) pa_nil)))
      (pss_cons (ps_set (i := 5) sc_law.nd rfl (Or.inl rfl) (pe_slice (RD.k_slL (K := K) rfl) (pe_lst (pa_cons (pe_call G_l_pick (hr.mono (by decide)) (by rfl) T.g_l_pick T.F_l_pick.kp T.b_l_pick .nil pass0 (pa_cons (pv 1) (pa_cons pe_int pa_nil))) (pa_cons (pe_call G_l_pick (hr.mono (by decide)) (by rfl) T.g_l_pick T.F_l_pick.kp T.b_l_pick .nil pass0 (pa_cons (pv 1) (pa_cons pe_int pa_nil))) pa_nil))) po_none (po_some (pe_op op_add pe_int (pe_call G_l_pick (hr.mono (by decide)) (by rfl) T.g_l_pick T.F_l_pick.kp T.b_l_pick .nil pass0 (pa_cons (pv 1) (pa_cons pe_int pa_nil)))))))
      (pss_cons (ps_setLc (i := 6) (own := [("_law_spot", 11)]) (g := gName 11) (by rfl) sc_law.nd rfl rfl (sw_true rfl rfl rfl (by decide +kernel)) (RD.k_pil (K := K) rfl (pv 5)) (blkOk_by (own := [("_law_spot", 11)]) (N := ["_law_script", "_law_tape_here", "_law_number", "_law_word", "_law_shape", "_law_passed", "_law_spots", "_law_lines", "_law_k", "_law_names", "_law_broken", "_law_spot"]) (sc := defScope s_law) (by decide +kernel)) (fun _ _ _ _ _ => (pg_name (i := 11) sc_law.nd rfl (Or.inl rfl))) (fun _ _ _ _ _ => pts_nil) (fun _ _ _ _ _ => (pv 11)))
      (pss_cons (ps_if (PW.pt (pw_or (pt_not (pt_val (pe_call G_l_right (hr.mono (by decide)) (by rfl) T.g_l_right T.F_l_right.kp T.b_l_right .nil pass0 (pa_cons (RD.pe_x0 F.excBase_ValueError T.x_NotAMesh T.g_NotAMesh T.k_NotAMesh (by rfl)) (pa_cons pe_int pa_nil))))) (pw_or (pt_not (pt_val (pe_call G_l_right (hr.mono (by decide)) (by rfl) T.g_l_right T.F_l_right.kp T.b_l_right .nil pass0 (pa_cons (RD.pe_x0 F.excBase_ValueError T.x_NeverGiven T.g_NeverGiven T.k_NeverGiven (by rfl)) (pa_cons pe_int pa_nil))))) (pw_or1 (pt_not (pt_val (pe_call G_l_right (hr.mono (by decide)) (by rfl) T.g_l_right T.F_l_right.kp T.b_l_right .nil pass0 (pa_cons (RD.pe_x0 F.excBase_ValueError T.x_NothingToUndo T.g_NothingToUndo T.k_NothingToUndo (by rfl)) (pa_cons pe_int pa_nil)))))))))
      (pss_one (ps_ret pe_bl))
      pss_nil)
      (pss_cons (ps_set (i := 7) sc_law.nd rfl (Or.inl rfl) (pe_lst (pa_cons (RD.pe_xi T.oex_BadLine T.ini_BadLine T.tin_BadLine G_BadLine_d_initd_ (hr.mono (by decide)) T.b_BadLine_d_initd_ pass0 (by rfl) T.g_BadLine (pa_cons (pv 2) pa_nil)) (pa_cons (RD.pe_xk T.oex_BadLine T.ini_BadLine T.tin_BadLine G_BadLine_d_initd_ (hr.mono (by decide)) (RD.kb1 T.F_BadLine_d_initd_ (fun _ _ _ _ _ _ _ _ => rfl)) pass0 (by rfl) T.g_BadLine (pk_cons (pv 2) pk_nil)) (pa_cons (RD.pe_xi T.oex_UnknownName T.ini_UnknownName T.tin_UnknownName G_UnknownName_d_initd_ (hr.mono (by decide)) T.b_UnknownName_d_initd_ pass0 (by rfl) T.g_UnknownName (pa_cons (pv 2) (pa_cons (pv 3) pa_nil))) (pa_cons (RD.pe_xk T.oex_UnknownName T.ini_UnknownName T.tin_UnknownName G_UnknownName_d_initd_ (hr.mono (by decide)) (RD.kb2 T.F_UnknownName_d_initd_ (fun _ _ _ _ _ _ _ _ _ => rfl)) pass0 (by rfl) T.g_UnknownName (pk_cons (pv 3) (pk_cons (pv 2) pk_nil))) pa_nil))))))
      (pss_cons (ps_set (i := 7) sc_law.nd rfl (Or.inl rfl) (pe_op op_cat (pv 7) (pe_lst (pa_cons (RD.pe_xi T.oex_WrongKind T.ini_WrongKind T.tin_WrongKind G_WrongKind_d_initd_ (hr.mono (by decide)) T.b_WrongKind_d_initd_ pass0 (by rfl) T.g_WrongKind (pa_cons (pv 2) (pa_cons (pv 3) pa_nil))) (pa_cons (RD.pe_xk T.oex_WrongKind T.ini_WrongKind T.tin_WrongKind G_WrongKind_d_initd_ (hr.mono (by decide)) (RD.kb2 T.F_WrongKind_d_initd_ (fun _ _ _ _ _ _ _ _ _ => rfl)) pass0 (by rfl) T.g_WrongKind (pk_cons (pv 3) (pk_cons (pv 2) pk_nil))) (pa_cons (RD.pe_xi T.oex_FactFails T.ini_FactFails T.tin_FactFails G_FactFails_d_initd_ (hr.mono (by decide)) T.b_FactFails_d_initd_ pass0 (by rfl) T.g_FactFails (pa_cons (pv 2) pa_nil)) pa_nil))))))
      (pss_cons (ps_set (i := 7) sc_law.nd rfl (Or.inl rfl) (pe_op op_cat (pv 7) (pe_lst (pa_cons (RD.pe_xk T.oex_FactFails T.ini_FactFails T.tin_FactFails G_FactFails_d_initd_ (hr.mono (by decide)) (RD.kb1 T.F_FactFails_d_initd_ (fun _ _ _ _ _ _ _ _ => rfl)) pass0 (by rfl) T.g_FactFails (pk_cons (pv 2) pk_nil)) (pa_cons (RD.pe_xi T.oex_Broken T.ini_Broken T.tin_Broken G_Broken_d_initd_ (hr.mono (by decide)) T.b_Broken_d_initd_ pass0 (by rfl) T.g_Broken (pa_cons (pv 3) (pa_cons (pv 2) pa_nil))) (pa_cons (RD.pe_xk T.oex_Broken T.ini_Broken T.tin_Broken G_Broken_d_initd_ (hr.mono (by decide)) (RD.kb2 T.F_Broken_d_initd_ (fun _ _ _ _ _ _ _ _ _ => rfl)) pass0 (by rfl) T.g_Broken (pk_cons (pv 2) (pk_cons (pv 3) pk_nil))) pa_nil))))))
      (pss_cons (ps_for PassesOwn.never rfl (pi_range1 (by rfl) T.z_range (pa_cons pe_int pa_nil)) (pg_name (i := 8) sc_law.nd rfl (Or.inl rfl))
      (pss_one (ps_if (PW.pt (pw_or (pt_not (pt_val (pe_call G_l_right (hr.mono (by decide)) (by rfl) T.g_l_right T.F_l_right.kp T.b_l_right .nil pass0 (pa_cons (pe_ix (RD.k_ixL (K := K) rfl) (pv 7) (pv 8) (fun _ _ => rfl)) (pa_cons (pe_op op_add pe_int (pe_callTy RD.k_int (by rfl) T.z_int (by decide +kernel) (pa_cons (pe_op op_fdiv (pv 8) pe_int) pa_nil))) pa_nil))))) (pw_or1 (pt_cmpR op_ne (RD.pe_xv (K := K) rfl (pe_ix (RD.k_ixL (K := K) rfl) (pv 7) (pv 8) (fun _ _ => rfl))) (pv 2) (nomark _)))))
      (pss_one (ps_ret pe_bl))
      pss_nil)))
      (pss_cons (ps_for PassesOwn.never rfl (pi_range2 (by rfl) T.z_range (pa_cons pe_int (pa_cons pe_int pa_nil))) (pg_name (i := 8) sc_law.nd rfl (Or.inl rfl))
      (pss_one (ps_if (pt_cmpR op_ne (RD.pe_xv (K := K) rfl (pe_ix (RD.k_ixL (K := K) rfl) (pv 7) (pv 8) (fun _ _ => rfl))) (pv 3) (nomark _))
      (pss_one (ps_ret pe_bl))
      pss_nil)))
      (pss_cons (ps_set (i := 9) sc_law.nd rfl (Or.inl rfl) (pe_lst (pa_cons (RD.pe_xi T.oex_UnknownDeed T.ini_UnknownDeed T.tin_UnknownDeed G_UnknownDeed_d_initd_ (hr.mono (by decide)) T.b_UnknownDeed_d_initd_ pass0 (by rfl) T.g_UnknownDeed (pa_cons (pv 3) pa_nil)) (pa_cons (RD.pe_xk T.oex_UnknownDeed T.ini_UnknownDeed T.tin_UnknownDeed G_UnknownDeed_d_initd_ (hr.mono (by decide)) (RD.kb1 T.F_UnknownDeed_d_initd_ (fun _ _ _ _ _ _ _ _ => rfl)) pass0 (by rfl) T.g_UnknownDeed (pk_cons (pv 3) pk_nil)) (pa_cons (RD.pe_xi T.oex_UnknownMark T.ini_UnknownMark T.tin_UnknownMark G_UnknownMark_d_initd_ (hr.mono (by decide)) T.b_UnknownMark_d_initd_ pass0 (by rfl) T.g_UnknownMark (pa_cons (pv 3) pa_nil)) (pa_cons (RD.pe_xk T.oex_UnknownMark T.ini_UnknownMark T.tin_UnknownMark G_UnknownMark_d_initd_ (hr.mono (by decide)) (RD.kb1 T.F_UnknownMark_d_initd_ (fun _ _ _ _ _ _ _ _ => rfl)) pass0 (by rfl) T.g_UnknownMark (pk_cons (pv 3) pk_nil)) pa_nil))))))
      (pss_cons (ps_for PassesOwn.never rfl (pi_range1 (by rfl) T.z_range (pa_cons pe_int pa_nil)) (pg_name (i := 8) sc_law.nd rfl (Or.inl rfl))
      (pss_one (ps_if (PW.pt (pw_or (pt_not (pt_val (pe_call G_l_right (hr.mono (by decide)) (by rfl) T.g_l_right T.F_l_right.kp T.b_l_right .nil pass0 (pa_cons (pe_ix (RD.k_ixL (K := K) rfl) (pv 9) (pv 8) (fun _ _ => rfl)) (pa_cons (pe_op op_add pe_int (pe_callTy RD.k_int (by rfl) T.z_int (by decide +kernel) (pa_cons (pe_op op_fdiv (pv 8) pe_int) pa_nil))) pa_nil))))) (pw_or1 (pt_cmpR op_ne (RD.pe_xv (K := K) rfl (pe_ix (RD.k_ixL (K := K) rfl) (pv 9) (pv 8) (fun _ _ => rfl))) (pv 3) (nomark _)))))
      (pss_one (ps_ret pe_bl))
      pss_nil)))
      (pss_cons (ps_set (i := 10) sc_law.nd rfl (Or.inl rfl) (pe_lst (pa_cons (RD.pe_xi T.oex_Breaks T.ini_Breaks T.tin_Breaks G_Breaks_d_initd_ (hr.mono (by decide)) T.b_Breaks_d_initd_ pass0 (by rfl) T.g_Breaks (pa_cons (pv 4) (pa_cons (pv 5) pa_nil))) (pa_cons (RD.pe_xk T.oex_Breaks T.ini_Breaks T.tin_Breaks G_Breaks_d_initd_ (hr.mono (by decide)) (RD.kb2 T.F_Breaks_d_initd_ (fun _ _ _ _ _ _ _ _ _ => rfl)) pass0 (by rfl) T.g_Breaks (pk_cons (pv 5) (pk_cons (pv 4) pk_nil))) pa_nil))))
      (pss_cons (ps_expr (RD.k_bm (K := K) rfl PySem.F.plainAttrs_list PySem.F.slot_list_append PySem.F.type_list_append mt_append (pv 5) (pa_cons pe_int pa_nil)))
      (pss_cons (ps_for PassesOwn.never rfl (pi_range1 (by rfl) T.z_range (pa_cons pe_int pa_nil)) (pg_name (i := 8) sc_law.nd rfl (Or.inl rfl))
      (pss_one (ps_if (PW.pt (pw_or (pt_not (pt_val (pe_call G_l_right (hr.mono (by decide)) (by rfl) T.g_l_right T.F_l_right.kp T.b_l_right .nil pass0 (pa_cons (pe_ix (RD.k_ixL (K := K) rfl) (pv 10) (pv 8) (fun _ _ => rfl)) (pa_cons pe_int pa_nil))))) (pw_or (pt_not (pt_cmpR (RD.k_eqOwn (K := K) rfl (hr.mono (by decide)) G_Mesh_d_eqd_ T.m_Mesh_d_eqd_.at_ T.m_Mesh_d_eqd_.fn T.b_Mesh_d_eqd_ pass0) (RD.pe_xv (K := K) rfl (pe_ix (RD.k_ixL (K := K) rfl) (pv 10) (pv 8) (fun _ _ => rfl))) (pv 4) (nomark _))) (pw_or1 (pt_cmpR (RD.k_neD (K := K) rfl hr.units) (RD.pe_xv (K := K) rfl (pe_ix (RD.k_ixL (K := K) rfl) (pv 10) (pv 8) (fun _ _ => rfl))) (pv 6) (nomark _))))))
      (pss_one (ps_ret pe_bl))
      pss_nil)))
      (pss_one (ps_ret (pe_and (pe_cmpR op_eq (RD.pe_xv (K := K) rfl (pe_ix (RD.k_ixL (K := K) rfl) (pv 7) pe_int (fun _ _ => rfl))) (pv 3) (nomark _)) (pe_one (pe_cmpR op_eq (RD.pe_xv (K := K) rfl (pe_ix (RD.k_ixL (K := K) rfl) (pv 7) pe_int (fun _ _ => rfl))) (pv 3) (nomark _))))))))))))))))))))))), ?_⟩
    show tSeq _ _ _ [some (.ref a), none, none, none, none, none, none, none, none, none, none, none] H
    walk_at "rd"
    refine ⟨a, zs, 0, rfl, hS, by decide, fun H1 t0 s1 nt0 tp1 => ?_⟩
    walk_at "rd"
    refine RD.iC ⟨by decide, by decide, by decide⟩ ?_
    walk_at "rd"
    refine ⟨t0, _, rfl, tp1, by decide, by decide, fun num H2 hnum tp2 sx2 => ?_⟩
    walk_at "rd"
    refine ⟨t0, _, rfl, tp2, by decide, by decide, fun wl H3 hwl tp3 sx3 => ?_⟩
    walk_at "rd"
    refine slW (by decide) fun word => ?_
    walk_at "rd"
    refine ⟨szl (by simp), fun c1 n1 => ?_⟩
    have u1 := RD.same_new (o := .lst [V.int 1, V.int 0]) n1
    walk_at "rd"
    refine ⟨szl (by simp), fun c2 n2 => ?_⟩
    have u2 := RD.same_new (o := .lst [V.int 0, V.int 1]) n2
    walk_at "rd"
    refine ⟨szl (by simp), fun c3 n3 => ?_⟩
    have u3 := RD.same_new (o := .lst [V.int 2, V.int 3, V.int 1, V.int 0]) n3
    walk_at "rd"
    refine ⟨szl (by simp), fun c4 n4 => ?_⟩
    have u4 := RD.same_new (o := .lst [V.ref c1, V.ref c2, V.ref c3]) n4
    have e1 := u4 _ _ (u3 _ _ (u2 _ _ (upd_same (H := H3) (a := c1) (o := .lst [V.int 1, V.int 0]))))
    have e2 := u4 _ _ (u3 _ _ (upd_same (a := c2) (o := .lst [V.int 0, V.int 1])))
    have e3 := u4 _ _ (upd_same (a := c3) (o := .lst [V.int 2, V.int 3, V.int 1, V.int 0]))
    have e4 := upd_same (H := upd (upd (upd H3 c1 (.lst [V.int 1, V.int 0])) c2 (.lst [V.int 0, V.int 1])) c3 (.lst [V.int 2, V.int 3, V.int 1, V.int 0])) (a := c4) (o := .lst [V.ref c1, V.ref c2, V.ref c3])
    have tp4 := tp3.same (((u1.trans u2).trans u3).trans u4)
    generalize upd (upd (upd (upd H3 c1 (.lst [V.int 1, V.int 0])) c2 (.lst [V.int 0, V.int 1])) c3 (.lst [V.int 2, V.int 3, V.int 1, V.int 0])) c4 (.lst [V.ref c1, V.ref c2, V.ref c3]) = H4 at e1 e2 e3 e4 tp4 ⊢
    have t1 : c1 ≠ t0 := tne tp3 n1
    have t2 : c2 ≠ t0 := tne (tp3.same u1) n2
    have t3 : c3 ≠ t0 := tne (tp3.same (u1.trans u2)) n3
    have t4 : c4 ≠ t0 := tne (tp3.same ((u1.trans u2).trans u3)) n4
    walk_at "rd"
    refine ⟨t0, _, rfl, tp4, by decide, by decide, fun v H5 hv tp5 sx5 => ?_⟩
    obtain ⟨ca, ns, hca, eca, hM, hl⟩ : ∃ (ca : Addr) (ns : List Nat), [V.ref c1, V.ref c2, V.ref c3][v]? = some (V.ref ca) ∧ H5 ca = some (.lst (vns ns)) ∧ MM.IsMesh ns ∧ ns.length ≤ 62 := by
      have : v = 0 ∨ v = 1 ∨ v = 2 := by omega
      rcases this with rfl | rfl | rfl
      · exact ⟨c1, [1, 0], rfl, sx5 _ _ e1 t1, ⟨List.isPerm_iff.mp rfl, rfl⟩, by decide⟩
      · exact ⟨c2, [0, 1], rfl, sx5 _ _ e2 t2, ⟨List.isPerm_iff.mp rfl, rfl⟩, by decide⟩
      · exact ⟨c3, [2, 3, 1, 0], rfl, sx5 _ _ e3 t3, ⟨List.isPerm_iff.mp rfl, rfl⟩, by decide⟩
    refine RD.ixL (sq (sx5 _ _ e4 t4)) (at_n hca) ?_
    walk_at "rd"
    refine mk_mesh eca hM hl fun H6 p a1 b1 np na1 nb1 s6 m6 => ?_
    have pt : p ≠ t0 := tne tp5 np
    have at0 : a1 ≠ t0 := tne tp5 na1
    have bt : b1 ≠ t0 := tne tp5 nb1
    have tp6 := tp5.same s6
    walk_at "rd"
    refine ⟨t0, _, rfl, tp6, by decide, by decide, fun x H7 hx tp7 sx7 => ?_⟩
    have m7 := m6.sameX sx7 pt at0 bt
    walk_at "rd"
    refine ⟨t0, _, rfl, tp7, by decide, by decide, fun y H8 hy tp8 sx8 => ?_⟩
    have m8 := m7.sameX sx8 pt at0 bt
    walk_at "rd"
    refine ⟨szl (by simp), fun l0 nl0 => ?_⟩
    have u5 := RD.same_new (o := .lst [vn x, vn y]) nl0
    have tp9 := tp8.same u5
    have l0t : l0 ≠ t0 := tne tp8 nl0
    walk_at "rd"
    refine ⟨t0, _, rfl, tp9, by decide, by decide, fun c H9 hc tp10 sx9 => ?_⟩
    have m9 := (m8.same u5).sameX sx9 pt at0 bt
    have el0 := sx9 _ _ upd_same l0t
    walk_at "rd"
    refine RD.slL (sq el0) fun l nl => ?_
    have ecut : cutV [vn x, vn y] none (some (1 + (c : Int))) = vns ([x, y].take (1 + c)) := by
      rw [show (1 + (c : Int)) = ((1 + c : Nat) : Int) by omega, cut_to]
      show List.take (1 + c) (vns [x, y]) = _
      exact (List.map_take ..).symm
    have hsp : ([x, y].take (1 + c)).length ≤ 2 := by rw [List.length_take]; exact Nat.min_le_right _ _
    rw [ecut]
    generalize [x, y].take (1 + c) = sp at hsp
    have pl' : p ≠ l := by
      obtain ⟨dx, h⟩ := m9.ob
      exact ne_of_none h nl
    have al' : a1 ≠ l := ne_of_none m9.fo nl
    have bl' : b1 ≠ l := ne_of_none m9.pr nl
    have u6 := RD.same_new (o := .lst (vns sp)) nl
    have e6 : (upd H9 l (.lst (vns sp))) l = some (.lst (vns sp)) := upd_same
    have m10 := m9.same u6
    generalize upd H9 l (.lst (vns sp)) = H10 at u6 e6 m10 ⊢
    walk_at "rd"
    refine RD.lcL (K := K) (sq e6) (by rw [vns_len]; exact szl (by omega)) (fun _ => true) (fun v => v) (fun i v H1 Q' R' hv s1 kT kF => ?_) (fun H11 sl nsl s11 esl => ?_)
    · walk_at "wp"
      walk_at "rd"
      refine ⟨rfl, ?_⟩
      walk_at "rd"
      exact kT rfl _ (Same.refl _)
    rw [RD.pick_all (fun _ => rfl), List.map_id'] at esl
    have e11 := s11 _ _ e6
    have m11 := m10.same s11
    have lsl : l ≠ sl := ne_of_none e6 nsl
    clear e6 m10 m9 m8 m7 m6 u6 u5 u4 u3 u2 u1 e1 e2 e3 e4 el0 eca s11 sx2 sx3 sx5 sx7 sx8 sx9 s6 s1 tp1 tp2 tp3 tp4 tp5 tp6 tp7 tp8 tp9 tp10 hca nl nsl nl0 n1 n2 n3 n4
    walk_at "rd"
    intro x0 nx0
    have w0 := RD.same_new (o := exo x0 A.c_NotAMesh none) nx0
    walk_at "rd"
    refine ⟨x0, 0, rfl, by decide, .inl upd_same, fun G0 z0 => ?_⟩
    walk_at "rn"
    intro x1 nx1
    have w1 := RD.same_new (o := exo x1 A.c_NeverGiven none) nx1
    walk_at "rd"
    refine ⟨x1, 6, rfl, by decide, .inl upd_same, fun G1 z1 => ?_⟩
    walk_at "rn"
    intro x2 nx2
    have w2 := RD.same_new (o := exo x2 A.c_NothingToUndo none) nx2
    walk_at "rd"
    refine ⟨x2, 10, rfl, by decide, .inl upd_same, fun G2 z2 => ?_⟩
    have g2' := ((w0.trans z0).trans (w1.trans z1)).trans (w2.trans z2)
    have e12 := g2' _ _ e11
    have es12 := g2' _ _ esl
    have m12 := m11.same g2'
    clear w0 w1 w2 z0 z1 z2 g2' e11 esl m11 nx0 nx1 nx2
    walk_at "rn"
    refine RD.mkV ?_
    walk_at "rd"
    refine mv1 fun a1 K1 r1 er1 => ?_
    walk_at "rd"
    refine RD.mkK ?_
    walk_at "rd"
    refine mn1 fun a2 K2 r2 er2 => ?_
    walk_at "rd"
    refine RD.mkV ?_
    walk_at "rd"
    refine mv2 fun a3 K3 r3 er3 => ?_
    walk_at "rd"
    refine RD.mkK ?_
    walk_at "rd"
    refine mn2 fun a4 K4 r4 er4 => ?_
    walk_at "rd"
    refine ⟨szl (by simp), fun L1 nL1 => ?_⟩
    have v1 := RD.same_new (o := .lst [V.ref a1, V.ref a2, V.ref a3, V.ref a4]) nL1
    have eL : (upd _ L1 (.lst [V.ref a1, V.ref a2, V.ref a3, V.ref a4])) L1 = some (.lst ([a1, a2, a3, a4].map V.ref)) := upd_same (H := K4)
    generalize hJ1 : upd K4 L1 (.lst [V.ref a1, V.ref a2, V.ref a3, V.ref a4]) = J1 at v1 eL ⊢
    clear hJ1
    walk_at "rd"
    refine RD.mkV ?_
    walk_at "rd"
    refine mv2 fun a5 K5 r5 er5 => ?_
    have eL := r5 _ _ eL
    walk_at "rd"
    refine RD.mkK ?_
    walk_at "rd"
    refine mn2 fun a6 K6 r6 er6 => ?_
    have eL := r6 _ _ eL
    walk_at "rd"
    refine RD.mkV ?_
    walk_at "rd"
    refine mv1 fun a7 K7 r7 er7 => ?_
    have eL := r7 _ _ eL
    walk_at "rd"
    refine ⟨szl (by simp), fun L2 nL2 => ?_⟩
    have v2 := RD.same_new (o := .lst [V.ref a5, V.ref a6, V.ref a7]) nL2
    refine RD.cat (v2 _ _ eL) upd_same (szl (by simp)) fun M2 nM2 => ?_
    have y2 := v2.trans (RD.same_new (o := .lst ([a1, a2, a3, a4].map V.ref ++ [V.ref a5, V.ref a6, V.ref a7])) nM2)
    have eM : (upd (upd K7 L2 (.lst [V.ref a5, V.ref a6, V.ref a7])) M2 (.lst ([a1, a2, a3, a4].map V.ref ++ [V.ref a5, V.ref a6, V.ref a7]))) M2 = some (.lst ([a1, a2, a3, a4, a5, a6, a7].map V.ref)) := upd_same
    generalize upd (upd K7 L2 (.lst [V.ref a5, V.ref a6, V.ref a7])) M2 (.lst ([a1, a2, a3, a4].map V.ref ++ [V.ref a5, V.ref a6, V.ref a7])) = J2 at y2 eM ⊢
    have eL := eM
    clear eM
    walk_at "rd"
    refine RD.mkK ?_
    walk_at "rd"
    refine mn1 fun a8 K8 r8 er8 => ?_
    have eL := r8 _ _ eL
    walk_at "rd"
    refine RD.mkV ?_
    walk_at "rd"
    refine mv2 fun a9 K9 r9 er9 => ?_
    have eL := r9 _ _ eL
    walk_at "rd"
    refine RD.mkK ?_
    walk_at "rd"
    refine mn2 fun a10 K10 r10 er10 => ?_
    have eL := r10 _ _ eL
    walk_at "rd"
    refine ⟨szl (by simp), fun L3 nL3 => ?_⟩
    have v3 := RD.same_new (o := .lst [V.ref a8, V.ref a9, V.ref a10]) nL3
    refine RD.cat (v3 _ _ eL) upd_same (szl (by simp)) fun M3 nM3 => ?_
    have y3 := v3.trans (RD.same_new (o := .lst ([a1, a2, a3, a4, a5, a6, a7].map V.ref ++ [V.ref a8, V.ref a9, V.ref a10])) nM3)
    have eM : (upd (upd K10 L3 (.lst [V.ref a8, V.ref a9, V.ref a10])) M3 (.lst ([a1, a2, a3, a4, a5, a6, a7].map V.ref ++ [V.ref a8, V.ref a9, V.ref a10]))) M3 = some (.lst ([a1, a2, a3, a4, a5, a6, a7, a8, a9, a10].map V.ref)) := upd_same
    generalize upd (upd K10 L3 (.lst [V.ref a8, V.ref a9, V.ref a10])) M3 (.lst ([a1, a2, a3, a4, a5, a6, a7].map V.ref ++ [V.ref a8, V.ref a9, V.ref a10])) = J3 at y3 eM ⊢
    have eL := eM
    clear eM
    walk_at "rd"
    have q10 := y3
    have z_r10 := r10.trans y3
    have z_r9 := r9.trans z_r10
    have z_r8 := r8.trans z_r9
    have z_y2 := y2.trans z_r8
    have z_r7 := r7.trans z_y2
    have z_r6 := r6.trans z_r7
    have z_r5 := r5.trans z_r6
    have z_v1 := v1.trans z_r5
    have z_r4 := r4.trans z_v1
    have z_r3 := r3.trans z_r4
    have z_r2 := r2.trans z_r3
    have E1 := er1.same z_r2
    have E2 := er2.same z_r3
    have E3 := er3.same z_r4
    have E4 := er4.same z_v1
    have E5 := er5.same z_r6
    have E6 := er6.same z_r7
    have E7 := er7.same z_y2
    have E8 := er8.same z_r9
    have E9 := er9.same z_r10
    have E10 := er10.same y3
    have tb : ∀ k, k < 10 → ∃ (ak : Addr) (fs : List (Str × V)), (List.map V.ref [a1, a2, a3, a4, a5, a6, a7, a8, a9, a10])[k]? = some (V.ref ak) ∧ ErrAt J3 ak (eC A (1 + k / 2)) fs ∧ fs.lookup ("line" : Str) = some (vn num) ∧ PySem.W.findIn K (.ref (eC A (1 + k / 2))) "line" = some none ∧ (2 ≤ k → k < 6 → fs.lookup ("name" : Str) = some (V.str word) ∧ PySem.W.findIn K (.ref (eC A (1 + k / 2))) "name" = some none) := fun k hk => by
      have hk : k = 0 ∨ k = 1 ∨ k = 2 ∨ k = 3 ∨ k = 4 ∨ k = 5 ∨ k = 6 ∨ k = 7 ∨ k = 8 ∨ k = 9 := by omega
      rcases hk with rfl | rfl | rfl | rfl | rfl | rfl | rfl | rfl | rfl | rfl
      · exact ⟨a1, _, rfl, E1, rfl, T.na_BadLine_line, fun h1 _ => absurd h1 (by omega)⟩
      · exact ⟨a2, _, rfl, E2, rfl, T.na_BadLine_line, fun h1 _ => absurd h1 (by omega)⟩
      · exact ⟨a3, _, rfl, E3, rfl, T.na_UnknownName_line, fun _ _ => ⟨rfl, T.na_UnknownName_name⟩⟩
      · exact ⟨a4, _, rfl, E4, rfl, T.na_UnknownName_line, fun _ _ => ⟨rfl, T.na_UnknownName_name⟩⟩
      · exact ⟨a5, _, rfl, E5, rfl, T.na_WrongKind_line, fun _ _ => ⟨rfl, T.na_WrongKind_name⟩⟩
      · exact ⟨a6, _, rfl, E6, rfl, T.na_WrongKind_line, fun _ _ => ⟨rfl, T.na_WrongKind_name⟩⟩
      · exact ⟨a7, _, rfl, E7, rfl, T.na_FactFails_line, fun h1 h2 => absurd h2 (by omega)⟩
      · exact ⟨a8, _, rfl, E8, rfl, T.na_FactFails_line, fun h1 h2 => absurd h2 (by omega)⟩
      · exact ⟨a9, _, rfl, E9, rfl, T.na_Broken_line, fun h1 h2 => absurd h2 (by omega)⟩
      · exact ⟨a10, _, rfl, E10, rfl, T.na_Broken_line, fun h1 h2 => absurd h2 (by omega)⟩
    have g3 := m12.same (r1.trans z_r2)
    clear E1 E2 E3 E4 E5 E6 E7 E8 er1 er2 er3 er4 er5 er6 er7 er8 er9 er10
    refine RD.goR (n := 10) (by decide) (by decide) (by decide) (fun i σ G => ∃ o8, σ = [some (.ref a), some (.ref t0), some (vn num), some (.str word), some (.ref p), some (.ref l), some (.ref sl), some (.ref M3), o8, none, none, none] ∧ Same J3 G) ⟨_, rfl, Same.refl _⟩ ?_ ?_
    · rintro i σ G hi ⟨o8, rfl, sG⟩
      obtain ⟨ak, fs, hat, er, hline, hna, _⟩ := tb i hi
      have er := er.same sG
      walk_at "rd"
      refine RD.ixL (sq (sG _ _ eL)) (at_n hat) ?_
      walk_at "rd"
      refine RD.iC ⟨by decide, by decide⟩ ?_
      walk_at "rd"
      have e : (1 + ((i : Int) / 2)) = ((1 + i / 2 : Nat) : Int) := by omega
      rw [e]
      refine ⟨ak, 1 + i / 2, rfl, by omega, .inr ⟨fs, er⟩, fun G2 s2 => ?_⟩
      walk_at "rn"
      refine RD.xv ?_
      walk_at "rd"
      refine RD.ixL (sq ((sG.trans s2) _ _ eL)) (at_n hat) ?_
      refine ⟨ak, _, fs, _, rfl, T.xfI _ (by omega), hna, er.same s2, hline, ?_⟩
      walk_at "rd"
      refine RD.ndF rfl ?_
      walk_at "rd"
      exact ⟨_, rfl, sG.trans s2⟩
    rintro σ G ⟨o8, rfl, sG⟩
    walk_at "rd"
    refine RD.goR2 (n := 4) (by decide) (by decide) (fun i σ G => ∃ o8, σ = [some (.ref a), some (.ref t0), some (vn num), some (.str word), some (.ref p), some (.ref l), some (.ref sl), some (.ref M3), o8, none, none, none] ∧ Same J3 G) ⟨_, rfl, sG⟩ ?_ ?_
    · rintro i σ G hi ⟨o8, rfl, sG⟩
      obtain ⟨ak, fs, hat, er, _, _, hnm⟩ := tb (2 + i) (by omega)
      obtain ⟨hname, hna⟩ := hnm (by omega) (by omega)
      have er := er.same sG
      have e : (2 + (i : Int)) = ((2 + i : Nat) : Int) := by omega
      rw [e]
      walk_at "rd"
      refine RD.xv ?_
      walk_at "rd"
      refine RD.ixL (sq (sG _ _ eL)) (at_n hat) ?_
      refine ⟨ak, _, fs, _, rfl, T.xfI _ (by omega), hna, er, hname, ?_⟩
      walk_at "rd"
      refine RD.ndF rfl ?_
      walk_at "rd"
      exact ⟨_, rfl, sG⟩
    rintro σ G ⟨o8, rfl, sG⟩
    walk_at "rd"
    refine RD.mkV ?_
    walk_at "rd"
    refine mv1 fun d1 N1 x1 f1 => ?_
    walk_at "rd"
    refine RD.mkK ?_
    walk_at "rd"
    refine mn1 fun d2 N2 x2 f2 => ?_
    walk_at "rd"
    refine RD.mkV ?_
    walk_at "rd"
    refine mv1 fun d3 N3 x3 f3 => ?_
    walk_at "rd"
    refine RD.mkK ?_
    walk_at "rd"
    refine mn1 fun d4 N4 x4 f4 => ?_
    walk_at "rd"
    refine ⟨szl (by simp), fun D nD => ?_⟩
    have x5 := RD.same_new (o := .lst [V.ref d1, V.ref d2, V.ref d3, V.ref d4]) nD
    have eD : (upd N4 D (.lst [V.ref d1, V.ref d2, V.ref d3, V.ref d4])) D = some (.lst ([d1, d2, d3, d4].map V.ref)) := upd_same
    generalize upd N4 D (.lst [V.ref d1, V.ref d2, V.ref d3, V.ref d4]) = N5 at x5 eD ⊢
    have F4 := f4.same x5
    have F3 := f3.same (x4.trans x5)
    have F2 := f2.same (x3.trans (x4.trans x5))
    have F1 := f1.same (x2.trans (x3.trans (x4.trans x5)))
    have sN := sG.trans (x1.trans (x2.trans (x3.trans (x4.trans x5))))
    have td : ∀ k, k < 4 → ∃ (ak : Addr) (fs : List (Str × V)), (List.map V.ref [d1, d2, d3, d4])[k]? = some (V.ref ak) ∧ ErrAt N5 ak (eC A (8 + k / 2)) fs ∧ fs.lookup ("name" : Str) = some (V.str word) ∧ PySem.W.findIn K (.ref (eC A (8 + k / 2))) "name" = some none := fun k hk => by
      have hk : k = 0 ∨ k = 1 ∨ k = 2 ∨ k = 3 := by omega
      rcases hk with rfl | rfl | rfl | rfl
      · exact ⟨d1, _, rfl, F1, rfl, T.na_UnknownDeed_name⟩
      · exact ⟨d2, _, rfl, F2, rfl, T.na_UnknownDeed_name⟩
      · exact ⟨d3, _, rfl, F3, rfl, T.na_UnknownMark_name⟩
      · exact ⟨d4, _, rfl, F4, rfl, T.na_UnknownMark_name⟩
    walk_at "rd"
    refine RD.goR (n := 4) (by decide) (by decide) (by decide) (fun i σ G => ∃ o8, σ = [some (.ref a), some (.ref t0), some (vn num), some (.str word), some (.ref p), some (.ref l), some (.ref sl), some (.ref M3), o8, some (.ref D), none, none] ∧ Same N5 G) ⟨_, rfl, Same.refl _⟩ ?_ ?_
    · rintro i σ G hi ⟨o8, rfl, sG⟩
      obtain ⟨ak, fs, hat, er, hname, hna⟩ := td i hi
      have er := er.same sG
      walk_at "rd"
      refine RD.ixL (sq (sG _ _ eD)) (at_n hat) ?_
      walk_at "rd"
      refine RD.iC ⟨by decide, by decide⟩ ?_
      walk_at "rd"
      have e : (8 + ((i : Int) / 2)) = ((8 + i / 2 : Nat) : Int) := by omega
      rw [e]
      refine ⟨ak, 8 + i / 2, rfl, by omega, .inr ⟨fs, er⟩, fun G2 s2 => ?_⟩
      walk_at "rn"
      refine RD.xv ?_
      walk_at "rd"
      refine RD.ixL (sq ((sG.trans s2) _ _ eD)) (at_n hat) ?_
      refine ⟨ak, _, fs, _, rfl, T.xfI _ (by omega), hna, er.same s2, hname, ?_⟩
      walk_at "rd"
      refine RD.ndF rfl ?_
      walk_at "rd"
      exact ⟨_, rfl, sG.trans s2⟩
    rintro σ G ⟨o8, rfl, sG2⟩
    walk_at "rd"
    have tot := (r1.trans z_r2).trans (sN.trans sG2)
    have e13 := tot _ _ e12
    have es13 := tot _ _ es12
    have m13 := m12.same tot
    have eL13 := (sN.trans sG2) _ _ eL
    have E9' := E9.same (sN.trans sG2)
    have E10' := E10.same (sN.trans sG2)
    refine RD.mkV ?_
    walk_at "rd"
    refine mvB e13 fun b2 h1 N6 y6 k1 kh1 nh1 => ?_
    walk_at "rd"
    refine RD.mkK ?_
    walk_at "rd"
    refine mnB (y6 _ _ e13) fun b3 h2 N7 y7 k2 kh2 nh2 => ?_
    walk_at "rd"
    refine ⟨szl (by simp), fun B nB => ?_⟩
    have y8 := RD.same_new (o := .lst [V.ref b2, V.ref b3]) nB
    have eB : (upd N7 B (.lst [V.ref b2, V.ref b3])) B = some (.lst ([b2, b3].map V.ref)) := upd_same
    generalize upd N7 B (.lst [V.ref b2, V.ref b3]) = N8 at y8 eB ⊢
    have y68 := y6.trans (y7.trans y8)
    have e14 := y68 _ _ e13
    have es14 := y68 _ _ es13
    have m14 := m13.same y68
    have eL14 := y68 _ _ eL13
    have E9'' := E9'.same y68
    have E10'' := E10'.same y68
    have k1' := k1.same (y7.trans y8)
    have k2' := k2.same y8
    have kh1' := (y7.trans y8) _ _ kh1
    have kh2' := y8 _ _ kh2
    have l1 : h1 ≠ l := (ne_of_none e13 nh1).symm
    have l2 : h2 ≠ l := (ne_of_none (y6 _ _ e13) nh2).symm
    have lB : B ≠ l := (ne_of_none (y7 _ _ (y6 _ _ e13)) nB).symm
    have lM : M3 ≠ l := fun z => by
      rw [z, e14] at eL14
      have := congrArg List.length (HO.lst.inj (Option.some.inj eL14))
      rw [vns_len] at this
      simp at this
      omega
    walk_at "rd"
    refine ⟨RD.tyL (K := K) (sq e14), ?_⟩
    walk_at "rd"
    refine RD.app e14 (by rw [vns_len]; exact szt (by omega)) ?_
    have sx : SameX l N8 (upd N8 l (.lst (vns sp ++ [V.int 9]))) := SameX.put (SameX.refl _ _)
    have m15 := m14.sameX sx pl' al' bl'
    have es15 := sx _ _ es14 lsl.symm
    have eL15 := sx _ _ eL14 lM
    have eB15 := sx _ _ eB lB
    have kh1x := sx _ _ kh1' l1
    have kh2x := sx _ _ kh2' l2
    have k1x := err_put (o := .lst (vns sp ++ [V.int 9])) e14 k1'
    have k2x := err_put (o := .lst (vns sp ++ [V.int 9])) e14 k2'
    have E9x := err_put (o := .lst (vns sp ++ [V.int 9])) e14 E9''
    have E10x := err_put (o := .lst (vns sp ++ [V.int 9])) e14 E10''
    generalize upd N8 l (.lst (vns sp ++ [V.int 9])) = N9 at m15 es15 eL15 eB15 kh1x kh2x k1x k2x E9x E10x ⊢
    have tf : ∀ k, k < 2 → ∃ ak hk : Addr, (List.map V.ref [b2, b3])[k]? = some (V.ref ak) ∧ ErrAt N9 ak A.c_Breaks [("halves", .ref hk), ("mesh", .ref p)] ∧ N9 hk = some (.lst (vns sp)) := fun k hk => by
      have hk : k = 0 ∨ k = 1 := by omega
      rcases hk with rfl | rfl
      · exact ⟨b2, h1, rfl, k1x, kh1x⟩
      · exact ⟨b3, h2, rfl, k2x, kh2x⟩
    walk_at "rd"
    refine RD.goR (n := 2) (by decide) (by decide) (by decide) (fun i σ G => ∃ o8, σ = [some (.ref a), some (.ref t0), some (vn num), some (.str word), some (.ref p), some (.ref l), some (.ref sl), some (.ref M3), o8, some (.ref D), some (.ref B), none] ∧ Same N9 G) ⟨_, rfl, Same.refl _⟩ ?_ ?_
    · rintro i σ G hi ⟨o8, rfl, sG⟩
      obtain ⟨ak, hk, hat, er, ehk⟩ := tf i hi
      have er := er.same sG
      walk_at "rd"
      refine RD.ixL (sq (sG _ _ eB15)) (at_n hat) ?_
      walk_at "rd"
      refine ⟨ak, 7, rfl, by decide, .inr ⟨_, er⟩, fun G2 s2 => ?_⟩
      have sG2 := sG.trans s2
      have m16 := m15.same sG2
      obtain ⟨dx, hob⟩ := m16.ob
      walk_at "rn"
      refine RD.xv ?_
      walk_at "rd"
      refine RD.ixL (sq (sG2 _ _ eB15)) (at_n hat) ?_
      refine ⟨ak, _, _, _, rfl, T.xf_Breaks, T.na_Breaks_mesh, er.same s2, rfl, ?_⟩
      walk_at "rd"
      refine ⟨p, dx, _, _, rfl, hob, mesh_ty T m16, nf_self, p, _, _, ns, _, rfl, m16, .inl ⟨p, _, _, ns, rfl, m16, _, rfl, ?_⟩⟩
      rw [decide_eq_true rfl]
      walk_at "rn"
      refine RD.xv ?_
      walk_at "rd"
      refine RD.ixL (sq (sG2 _ _ eB15)) (at_n hat) ?_
      refine ⟨ak, _, _, _, rfl, T.xf_Breaks, T.na_Breaks_halves, er.same s2, rfl, ?_⟩
      walk_at "rd"
      refine RD.neD (dp_N (sq (sG2 _ _ ehk))) (dp_N (sq (sG2 _ _ es15))) (sh_dN _) (sh_dN _) ?_
      rw [eqv_dN]
      walk_at "rd"
      refine RD.ndF rfl ?_
      walk_at "rd"
      exact ⟨_, rfl, sG2⟩
    rintro σ G ⟨o8, rfl, sG3⟩
    walk_at "rd"
    refine RD.xv ?_
    walk_at "rd"
    refine RD.ixL (sq (sG3 _ _ eL15)) (v := .ref a9) rfl ?_
    refine ⟨a9, A.c_Broken, _, _, rfl, T.xf_Broken, T.na_Broken_fault, E9x.same sG3, rfl, ?_⟩
    walk_at "rd"
    refine RD.decT rfl ?_
    refine RD.xv ?_
    walk_at "rd"
    refine RD.ixL (sq (sG3 _ _ eL15)) (v := .ref a10) rfl ?_
    refine ⟨a10, A.c_Broken, _, _, rfl, T.xf_Broken, T.na_Broken_fault, E10x.same sG3, rfl, ?_⟩
    walk_at "rd"
    rw [decide_eq_true rfl]
    exact q _
end
end Pf

namespace Pf
open PySem PySem.Spec PyProof.Rows L2
theorem all_mk {l : PySem.W.OpenLaw} {w : World} {K : PySem.W.Frag} {h : Heap} {mg : Str → Option Value} {fa f1 f2 f3 f4 f5 f6 f7 f8 f9 f10 f11 f12 f13 f14 f15 f16 f17 f18 f19 f20 C_MeshError C_NotAMesh C_BadLine C_UnknownName C_WrongKind C_FactFails C_Broken C_NeverGiven C_Breaks C_UnknownDeed C_UnknownMark C_NothingToUndo C_Mesh : Addr} (X : K.In h) (G : h.Ns mainGlobals mg) (hfa : mg "law" = some (.ref fa))
    {od1 an1 : Option Addr} {sl1 : Array (Option Value)} {oc1 kV1 dc1 pm1 cd1 ct1 : Value}
    {od2 an2 : Option Addr} {sl2 : Array (Option Value)} {oc2 kV2 dc2 pm2 cd2 ct2 : Value}
    {od3 an3 : Option Addr} {sl3 : Array (Option Value)} {oc3 kV3 dc3 pm3 cd3 ct3 : Value}
    {od4 an4 : Option Addr} {sl4 : Array (Option Value)} {oc4 kV4 dc4 pm4 cd4 ct4 : Value}
    {od5 an5 : Option Addr} {sl5 : Array (Option Value)} {oc5 kV5 dc5 pm5 cd5 ct5 : Value}
    {od6 an6 : Option Addr} {sl6 : Array (Option Value)} {oc6 kV6 dc6 pm6 cd6 ct6 : Value}
    {od7 an7 : Option Addr} {sl7 : Array (Option Value)} {oc7 kV7 dc7 pm7 cd7 ct7 : Value}
    {od8 an8 : Option Addr} {sl8 : Array (Option Value)} {oc8 kV8 dc8 pm8 cd8 ct8 : Value}
    {od9 an9 : Option Addr} {sl9 : Array (Option Value)} {oc9 kV9 dc9 pm9 cd9 ct9 : Value}
    {od10 an10 : Option Addr} {sl10 : Array (Option Value)} {oc10 kV10 dc10 pm10 cd10 ct10 : Value}
    {od11 an11 : Option Addr} {sl11 : Array (Option Value)} {oc11 kV11 dc11 pm11 cd11 ct11 : Value}
    {od12 an12 : Option Addr} {sl12 : Array (Option Value)} {oc12 kV12 dc12 pm12 cd12 ct12 : Value}
    {od13 an13 : Option Addr} {sl13 : Array (Option Value)} {oc13 kV13 dc13 pm13 cd13 ct13 : Value}
    {od14 an14 : Option Addr} {sl14 : Array (Option Value)} {oc14 kV14 dc14 pm14 cd14 ct14 : Value}
    {od15 an15 : Option Addr} {sl15 : Array (Option Value)} {oc15 kV15 dc15 pm15 cd15 ct15 : Value}
    {od16 an16 : Option Addr} {sl16 : Array (Option Value)} {oc16 kV16 dc16 pm16 cd16 ct16 : Value}
    {od17 an17 : Option Addr} {sl17 : Array (Option Value)} {oc17 kV17 dc17 pm17 cd17 ct17 : Value}
    {od18 an18 : Option Addr} {sl18 : Array (Option Value)} {oc18 kV18 dc18 pm18 cd18 ct18 : Value}
    {od19 an19 : Option Addr} {sl19 : Array (Option Value)} {oc19 kV19 dc19 pm19 cd19 ct19 : Value}
    {od20 an20 : Option Addr} {sl20 : Array (Option Value)} {oc20 kV20 dc20 pm20 cd20 ct20 : Value}
    (aC_MeshError : PySem.W.nsIn K mainGlobals "MeshError" = some (some (.ref C_MeshError)))
    (aC_NotAMesh : PySem.W.nsIn K mainGlobals "NotAMesh" = some (some (.ref C_NotAMesh)))
    (aC_BadLine : PySem.W.nsIn K mainGlobals "BadLine" = some (some (.ref C_BadLine)))
    (aC_UnknownName : PySem.W.nsIn K mainGlobals "UnknownName" = some (some (.ref C_UnknownName)))
    (aC_WrongKind : PySem.W.nsIn K mainGlobals "WrongKind" = some (some (.ref C_WrongKind)))
    (aC_FactFails : PySem.W.nsIn K mainGlobals "FactFails" = some (some (.ref C_FactFails)))
    (aC_Broken : PySem.W.nsIn K mainGlobals "Broken" = some (some (.ref C_Broken)))
    (aC_NeverGiven : PySem.W.nsIn K mainGlobals "NeverGiven" = some (some (.ref C_NeverGiven)))
    (aC_Breaks : PySem.W.nsIn K mainGlobals "Breaks" = some (some (.ref C_Breaks)))
    (aC_UnknownDeed : PySem.W.nsIn K mainGlobals "UnknownDeed" = some (some (.ref C_UnknownDeed)))
    (aC_UnknownMark : PySem.W.nsIn K mainGlobals "UnknownMark" = some (some (.ref C_UnknownMark)))
    (aC_NothingToUndo : PySem.W.nsIn K mainGlobals "NothingToUndo" = some (some (.ref C_NothingToUndo)))
    (aC_Mesh : PySem.W.nsIn K mainGlobals "Mesh" = some (some (.ref C_Mesh)))
    (a1 : PySem.W.findIn K (.ref C_BadLine) "__init__" = some (some (.ref f1)))
    (i1 : PySem.W.isFn K (.ref f1) = true)
    (l1 : K.lookup f1 = some ⟨oc1, od1, .func (PySem.W.fnOf "__init__" "BadLine.__init__" (defArgs s_BadLine_d_initd_) (defBody s_BadLine_d_initd_) (defScope s_BadLine_d_initd_) .none kV1 dc1 pm1 an1 cd1 ct1), sl1⟩)
    (c1 : PySem.W.codeIn K cd1 "BadLine.__init__" = true)
    (k1 : PySem.W.keepIn K (.ref f1) = true)
    (a2 : PySem.W.findIn K (.ref C_UnknownName) "__init__" = some (some (.ref f2)))
    (i2 : PySem.W.isFn K (.ref f2) = true)
    (l2 : K.lookup f2 = some ⟨oc2, od2, .func (PySem.W.fnOf "__init__" "UnknownName.__init__" (defArgs s_UnknownName_d_initd_) (defBody s_UnknownName_d_initd_) (defScope s_UnknownName_d_initd_) .none kV2 dc2 pm2 an2 cd2 ct2), sl2⟩)
    (c2 : PySem.W.codeIn K cd2 "UnknownName.__init__" = true)
    (k2 : PySem.W.keepIn K (.ref f2) = true)
    (a3 : PySem.W.findIn K (.ref C_WrongKind) "__init__" = some (some (.ref f3)))
    (i3 : PySem.W.isFn K (.ref f3) = true)
    (l3 : K.lookup f3 = some ⟨oc3, od3, .func (PySem.W.fnOf "__init__" "WrongKind.__init__" (defArgs s_WrongKind_d_initd_) (defBody s_WrongKind_d_initd_) (defScope s_WrongKind_d_initd_) .none kV3 dc3 pm3 an3 cd3 ct3), sl3⟩)
    (c3 : PySem.W.codeIn K cd3 "WrongKind.__init__" = true)
    (k3 : PySem.W.keepIn K (.ref f3) = true)
    (a4 : PySem.W.findIn K (.ref C_FactFails) "__init__" = some (some (.ref f4)))
    (i4 : PySem.W.isFn K (.ref f4) = true)
    (l4 : K.lookup f4 = some ⟨oc4, od4, .func (PySem.W.fnOf "__init__" "FactFails.__init__" (defArgs s_FactFails_d_initd_) (defBody s_FactFails_d_initd_) (defScope s_FactFails_d_initd_) .none kV4 dc4 pm4 an4 cd4 ct4), sl4⟩)
    (c4 : PySem.W.codeIn K cd4 "FactFails.__init__" = true)
    (k4 : PySem.W.keepIn K (.ref f4) = true)
    (a5 : PySem.W.findIn K (.ref C_Broken) "__init__" = some (some (.ref f5)))
    (i5 : PySem.W.isFn K (.ref f5) = true)
    (l5 : K.lookup f5 = some ⟨oc5, od5, .func (PySem.W.fnOf "__init__" "Broken.__init__" (defArgs s_Broken_d_initd_) (defBody s_Broken_d_initd_) (defScope s_Broken_d_initd_) .none kV5 dc5 pm5 an5 cd5 ct5), sl5⟩)
    (c5 : PySem.W.codeIn K cd5 "Broken.__init__" = true)
    (k5 : PySem.W.keepIn K (.ref f5) = true)
    (a6 : PySem.W.findIn K (.ref C_Breaks) "__init__" = some (some (.ref f6)))
    (i6 : PySem.W.isFn K (.ref f6) = true)
    (l6 : K.lookup f6 = some ⟨oc6, od6, .func (PySem.W.fnOf "__init__" "Breaks.__init__" (defArgs s_Breaks_d_initd_) (defBody s_Breaks_d_initd_) (defScope s_Breaks_d_initd_) .none kV6 dc6 pm6 an6 cd6 ct6), sl6⟩)
    (c6 : PySem.W.codeIn K cd6 "Breaks.__init__" = true)
    (k6 : PySem.W.keepIn K (.ref f6) = true)
    (a7 : PySem.W.findIn K (.ref C_UnknownDeed) "__init__" = some (some (.ref f7)))
    (i7 : PySem.W.isFn K (.ref f7) = true)
    (l7 : K.lookup f7 = some ⟨oc7, od7, .func (PySem.W.fnOf "__init__" "UnknownDeed.__init__" (defArgs s_UnknownDeed_d_initd_) (defBody s_UnknownDeed_d_initd_) (defScope s_UnknownDeed_d_initd_) .none kV7 dc7 pm7 an7 cd7 ct7), sl7⟩)
    (c7 : PySem.W.codeIn K cd7 "UnknownDeed.__init__" = true)
    (k7 : PySem.W.keepIn K (.ref f7) = true)
    (a8 : PySem.W.findIn K (.ref C_UnknownMark) "__init__" = some (some (.ref f8)))
    (i8 : PySem.W.isFn K (.ref f8) = true)
    (l8 : K.lookup f8 = some ⟨oc8, od8, .func (PySem.W.fnOf "__init__" "UnknownMark.__init__" (defArgs s_UnknownMark_d_initd_) (defBody s_UnknownMark_d_initd_) (defScope s_UnknownMark_d_initd_) .none kV8 dc8 pm8 an8 cd8 ct8), sl8⟩)
    (c8 : PySem.W.codeIn K cd8 "UnknownMark.__init__" = true)
    (k8 : PySem.W.keepIn K (.ref f8) = true)
    (a9 : PySem.W.nsIn K mainGlobals "are_integers" = some (some (.ref f9)))
    (l9 : K.lookup f9 = some ⟨oc9, od9, .func (PySem.W.fnOf "are_integers" "are_integers" (defArgs s_are_integers) (defBody s_are_integers) (defScope s_are_integers) .none kV9 dc9 pm9 an9 cd9 ct9), sl9⟩)
    (c9 : PySem.W.codeIn K cd9 "are_integers" = true)
    (k9 : PySem.W.keepIn K (.ref f9) = true)
    (a10 : PySem.W.findIn K (.ref C_Mesh) "__init__" = some (some (.ref f10)))
    (i10 : PySem.W.isFn K (.ref f10) = true)
    (l10 : K.lookup f10 = some ⟨oc10, od10, .func (PySem.W.fnOf "__init__" "Mesh.__init__" (defArgs s_Mesh_d_initd_) (defBody s_Mesh_d_initd_) (defScope s_Mesh_d_initd_) .none kV10 dc10 pm10 an10 cd10 ct10), sl10⟩)
    (c10 : PySem.W.codeIn K cd10 "Mesh.__init__" = true)
    (k10 : PySem.W.keepIn K (.ref f10) = true)
    (a11 : PySem.W.findIn K (.ref C_Mesh) "__len__" = some (some (.ref f11)))
    (i11 : PySem.W.isFn K (.ref f11) = true)
    (l11 : K.lookup f11 = some ⟨oc11, od11, .func (PySem.W.fnOf "__len__" "Mesh.__len__" (defArgs s_Mesh_d_lend_) (defBody s_Mesh_d_lend_) (defScope s_Mesh_d_lend_) .none kV11 dc11 pm11 an11 cd11 ct11), sl11⟩)
    (c11 : PySem.W.codeIn K cd11 "Mesh.__len__" = true)
    (k11 : PySem.W.keepIn K (.ref f11) = true)
    (a12 : PySem.W.findIn K (.ref C_Mesh) "__contains__" = some (some (.ref f12)))
    (i12 : PySem.W.isFn K (.ref f12) = true)
    (l12 : K.lookup f12 = some ⟨oc12, od12, .func (PySem.W.fnOf "__contains__" "Mesh.__contains__" (defArgs s_Mesh_d_containsd_) (defBody s_Mesh_d_containsd_) (defScope s_Mesh_d_containsd_) .none kV12 dc12 pm12 an12 cd12 ct12), sl12⟩)
    (c12 : PySem.W.codeIn K cd12 "Mesh.__contains__" = true)
    (k12 : PySem.W.keepIn K (.ref f12) = true)
    (a13 : PySem.W.findIn K (.ref C_Mesh) "__eq__" = some (some (.ref f13)))
    (i13 : PySem.W.isFn K (.ref f13) = true)
    (l13 : K.lookup f13 = some ⟨oc13, od13, .func (PySem.W.fnOf "__eq__" "Mesh.__eq__" (defArgs s_Mesh_d_eqd_) (defBody s_Mesh_d_eqd_) (defScope s_Mesh_d_eqd_) .none kV13 dc13 pm13 an13 cd13 ct13), sl13⟩)
    (c13 : PySem.W.codeIn K cd13 "Mesh.__eq__" = true)
    (k13 : PySem.W.keepIn K (.ref f13) = true)
    (a14 : PySem.W.findIn K (.ref C_Mesh) "after" = some (some (.ref f14)))
    (i14 : PySem.W.isFn K (.ref f14) = true)
    (l14 : K.lookup f14 = some ⟨oc14, od14, .func (PySem.W.fnOf "after" "Mesh.after" (defArgs s_Mesh_after) (defBody s_Mesh_after) (defScope s_Mesh_after) .none kV14 dc14 pm14 an14 cd14 ct14), sl14⟩)
    (c14 : PySem.W.codeIn K cd14 "Mesh.after" = true)
    (k14 : PySem.W.keepIn K (.ref f14) = true)
    (a15 : PySem.W.findIn K (.ref C_Mesh) "nexts" = some (some (.ref f15)))
    (i15 : PySem.W.isFn K (.ref f15) = true)
    (l15 : K.lookup f15 = some ⟨oc15, od15, .func (PySem.W.fnOf "nexts" "Mesh.nexts" (defArgs s_Mesh_nexts) (defBody s_Mesh_nexts) (defScope s_Mesh_nexts) .none kV15 dc15 pm15 an15 cd15 ct15), sl15⟩)
    (c15 : PySem.W.codeIn K cd15 "Mesh.nexts" = true)
    (k15 : PySem.W.keepIn K (.ref f15) = true)
    (a16 : PySem.W.nsIn K mainGlobals "_law_tape" = some (some (.ref f16)))
    (l16 : K.lookup f16 = some ⟨oc16, od16, .func (PySem.W.fnOf "_law_tape" "_law_tape" (defArgs s_l_tape) (defBody s_l_tape) (defScope s_l_tape) .none kV16 dc16 pm16 an16 cd16 ct16), sl16⟩)
    (c16 : PySem.W.codeIn K cd16 "_law_tape" = true)
    (k16 : PySem.W.keepIn K (.ref f16) = true)
    (a17 : PySem.W.nsIn K mainGlobals "_law_pick" = some (some (.ref f17)))
    (l17 : K.lookup f17 = some ⟨oc17, od17, .func (PySem.W.fnOf "_law_pick" "_law_pick" (defArgs s_l_pick) (defBody s_l_pick) (defScope s_l_pick) .none kV17 dc17 pm17 an17 cd17 ct17), sl17⟩)
    (c17 : PySem.W.codeIn K cd17 "_law_pick" = true)
    (k17 : PySem.W.keepIn K (.ref f17) = true)
    (a18 : PySem.W.nsIn K mainGlobals "_law_kinds" = some (some (.ref f18)))
    (l18 : K.lookup f18 = some ⟨oc18, od18, .func (PySem.W.fnOf "_law_kinds" "_law_kinds" (defArgs s_l_kinds) (defBody s_l_kinds) (defScope s_l_kinds) .none kV18 dc18 pm18 an18 cd18 ct18), sl18⟩)
    (c18 : PySem.W.codeIn K cd18 "_law_kinds" = true)
    (k18 : PySem.W.keepIn K (.ref f18) = true)
    (a19 : PySem.W.nsIn K mainGlobals "_law_right" = some (some (.ref f19)))
    (l19 : K.lookup f19 = some ⟨oc19, od19, .func (PySem.W.fnOf "_law_right" "_law_right" (defArgs s_l_right) (defBody s_l_right) (defScope s_l_right) .none kV19 dc19 pm19 an19 cd19 ct19), sl19⟩)
    (c19 : PySem.W.codeIn K cd19 "_law_right" = true)
    (k19 : PySem.W.keepIn K (.ref f19) = true)
    (a20 : PySem.W.nsIn K mainGlobals "law" = some (some (.ref f20)))
    (l20 : K.lookup f20 = some ⟨oc20, od20, .func (PySem.W.fnOf "law" "law" (defArgs s_law) (defBody s_law) (defScope s_law) .none kV20 dc20 pm20 an20 cd20 ct20), sl20⟩)
    (c20 : PySem.W.codeIn K cd20 "law" = true)
    (k20 : PySem.W.keepIn K (.ref f20) = true)
    (hx_NotAMesh : PySem.W.excIn K C_NotAMesh [.type "ValueError", .type "Exception", .type "BaseException", .type "object"] "ValueError.__new__" = true)
    (hk_NotAMesh : PySem.W.keepIn K (.ref C_NotAMesh) = true)
    (hs_NotAMesh : PySem.W.subIn K (.ref C_NotAMesh) (.type "BaseException") = some true)
    (ht_NotAMesh : PySem.W.typeIn K (.ref C_NotAMesh) = some (.type "type"))
    (hi_NotAMesh : PySem.W.isClsIn K C_NotAMesh = true)
    (hss_NotAMesh : PySem.W.subIn K (.ref C_NotAMesh) (.ref C_NotAMesh) = some true)
    (hxg_NotAMesh : PySem.W.findIn K (.ref C_NotAMesh) "__getattribute__" = some (some (.builtin "BaseException.__getattribute__")))
    (hxk_NotAMesh : PySem.W.findIn K (.ref C_NotAMesh) "__getattr__" = some none)
    (hxd_NotAMesh : PySem.W.hasDictIn K C_NotAMesh = true)
    (hxa_NotAMesh : PySem.W.findIn K (.ref C_NotAMesh) "__class__" = some (some (.builtin "object.__class__")))
    (hxm_NotAMesh : PySem.W.mroIn K C_NotAMesh (.type "object") = some true)
    (hki_NotAMesh_NotAMesh : PySem.W.kitOne K (.ref C_NotAMesh) (.ref C_NotAMesh) = some true)
    (hki_NotAMesh_BadLine : PySem.W.kitOne K (.ref C_NotAMesh) (.ref C_BadLine) = some false)
    (hki_NotAMesh_UnknownName : PySem.W.kitOne K (.ref C_NotAMesh) (.ref C_UnknownName) = some false)
    (hki_NotAMesh_WrongKind : PySem.W.kitOne K (.ref C_NotAMesh) (.ref C_WrongKind) = some false)
    (hki_NotAMesh_FactFails : PySem.W.kitOne K (.ref C_NotAMesh) (.ref C_FactFails) = some false)
    (hki_NotAMesh_Broken : PySem.W.kitOne K (.ref C_NotAMesh) (.ref C_Broken) = some false)
    (hki_NotAMesh_NeverGiven : PySem.W.kitOne K (.ref C_NotAMesh) (.ref C_NeverGiven) = some false)
    (hki_NotAMesh_Breaks : PySem.W.kitOne K (.ref C_NotAMesh) (.ref C_Breaks) = some false)
    (hki_NotAMesh_UnknownDeed : PySem.W.kitOne K (.ref C_NotAMesh) (.ref C_UnknownDeed) = some false)
    (hki_NotAMesh_UnknownMark : PySem.W.kitOne K (.ref C_NotAMesh) (.ref C_UnknownMark) = some false)
    (hki_NotAMesh_NothingToUndo : PySem.W.kitOne K (.ref C_NotAMesh) (.ref C_NothingToUndo) = some false)
    (hki_NotAMesh_MeshError : PySem.W.kitOne K (.ref C_NotAMesh) (.ref C_MeshError) = some true)
    (hki_NotAMesh_ValueError : PySem.W.kitOne K (.ref C_NotAMesh) (.type "ValueError") = some true)
    (hk_BadLine : PySem.W.keepIn K (.ref C_BadLine) = true)
    (hs_BadLine : PySem.W.subIn K (.ref C_BadLine) (.type "BaseException") = some true)
    (ht_BadLine : PySem.W.typeIn K (.ref C_BadLine) = some (.type "type"))
    (hi_BadLine : PySem.W.isClsIn K C_BadLine = true)
    (hss_BadLine : PySem.W.subIn K (.ref C_BadLine) (.ref C_BadLine) = some true)
    (hxg_BadLine : PySem.W.findIn K (.ref C_BadLine) "__getattribute__" = some (some (.builtin "BaseException.__getattribute__")))
    (hxk_BadLine : PySem.W.findIn K (.ref C_BadLine) "__getattr__" = some none)
    (hxd_BadLine : PySem.W.hasDictIn K C_BadLine = true)
    (hxa_BadLine : PySem.W.findIn K (.ref C_BadLine) "__class__" = some (some (.builtin "object.__class__")))
    (hxm_BadLine : PySem.W.mroIn K C_BadLine (.type "object") = some true)
    (hox_BadLine : RD.oexB K C_BadLine = true)
    (hsa_BadLine : PySem.W.findIn K (.ref C_BadLine) "__setattr__" = some (some (.builtin "object.__setattr__")))
    (hini_BadLine : PySem.W.findIn K (.ref C_BadLine) "__init__" = some (some (.ref f1)))
    (htin_BadLine : PySem.W.typeIn K (.ref f1) = some (.type "function"))
    (hna_BadLine_line : PySem.W.findIn K (.ref C_BadLine) "line" = some none)
    (hki_BadLine_NotAMesh : PySem.W.kitOne K (.ref C_BadLine) (.ref C_NotAMesh) = some false)
    (hki_BadLine_BadLine : PySem.W.kitOne K (.ref C_BadLine) (.ref C_BadLine) = some true)
    (hki_BadLine_UnknownName : PySem.W.kitOne K (.ref C_BadLine) (.ref C_UnknownName) = some false)
    (hki_BadLine_WrongKind : PySem.W.kitOne K (.ref C_BadLine) (.ref C_WrongKind) = some false)
    (hki_BadLine_FactFails : PySem.W.kitOne K (.ref C_BadLine) (.ref C_FactFails) = some false)
    (hki_BadLine_Broken : PySem.W.kitOne K (.ref C_BadLine) (.ref C_Broken) = some false)
    (hki_BadLine_NeverGiven : PySem.W.kitOne K (.ref C_BadLine) (.ref C_NeverGiven) = some false)
    (hki_BadLine_Breaks : PySem.W.kitOne K (.ref C_BadLine) (.ref C_Breaks) = some false)
    (hki_BadLine_UnknownDeed : PySem.W.kitOne K (.ref C_BadLine) (.ref C_UnknownDeed) = some false)
    (hki_BadLine_UnknownMark : PySem.W.kitOne K (.ref C_BadLine) (.ref C_UnknownMark) = some false)
    (hki_BadLine_NothingToUndo : PySem.W.kitOne K (.ref C_BadLine) (.ref C_NothingToUndo) = some false)
    (hki_BadLine_MeshError : PySem.W.kitOne K (.ref C_BadLine) (.ref C_MeshError) = some true)
    (hki_BadLine_ValueError : PySem.W.kitOne K (.ref C_BadLine) (.type "ValueError") = some true)
    (hk_UnknownName : PySem.W.keepIn K (.ref C_UnknownName) = true)
    (hs_UnknownName : PySem.W.subIn K (.ref C_UnknownName) (.type "BaseException") = some true)
    (ht_UnknownName : PySem.W.typeIn K (.ref C_UnknownName) = some (.type "type"))
    (hi_UnknownName : PySem.W.isClsIn K C_UnknownName = true)
    (hss_UnknownName : PySem.W.subIn K (.ref C_UnknownName) (.ref C_UnknownName) = some true)
    (hxg_UnknownName : PySem.W.findIn K (.ref C_UnknownName) "__getattribute__" = some (some (.builtin "BaseException.__getattribute__")))
    (hxk_UnknownName : PySem.W.findIn K (.ref C_UnknownName) "__getattr__" = some none)
    (hxd_UnknownName : PySem.W.hasDictIn K C_UnknownName = true)
    (hxa_UnknownName : PySem.W.findIn K (.ref C_UnknownName) "__class__" = some (some (.builtin "object.__class__")))
    (hxm_UnknownName : PySem.W.mroIn K C_UnknownName (.type "object") = some true)
    (hox_UnknownName : RD.oexB K C_UnknownName = true)
    (hsa_UnknownName : PySem.W.findIn K (.ref C_UnknownName) "__setattr__" = some (some (.builtin "object.__setattr__")))
    (hini_UnknownName : PySem.W.findIn K (.ref C_UnknownName) "__init__" = some (some (.ref f2)))
    (htin_UnknownName : PySem.W.typeIn K (.ref f2) = some (.type "function"))
    (hna_UnknownName_line : PySem.W.findIn K (.ref C_UnknownName) "line" = some none)
    (hna_UnknownName_name : PySem.W.findIn K (.ref C_UnknownName) "name" = some none)
    (hki_UnknownName_NotAMesh : PySem.W.kitOne K (.ref C_UnknownName) (.ref C_NotAMesh) = some false)
    (hki_UnknownName_BadLine : PySem.W.kitOne K (.ref C_UnknownName) (.ref C_BadLine) = some false)
    (hki_UnknownName_UnknownName : PySem.W.kitOne K (.ref C_UnknownName) (.ref C_UnknownName) = some true)
    (hki_UnknownName_WrongKind : PySem.W.kitOne K (.ref C_UnknownName) (.ref C_WrongKind) = some false)
    (hki_UnknownName_FactFails : PySem.W.kitOne K (.ref C_UnknownName) (.ref C_FactFails) = some false)
    (hki_UnknownName_Broken : PySem.W.kitOne K (.ref C_UnknownName) (.ref C_Broken) = some false)
    (hki_UnknownName_NeverGiven : PySem.W.kitOne K (.ref C_UnknownName) (.ref C_NeverGiven) = some false)
    (hki_UnknownName_Breaks : PySem.W.kitOne K (.ref C_UnknownName) (.ref C_Breaks) = some false)
    (hki_UnknownName_UnknownDeed : PySem.W.kitOne K (.ref C_UnknownName) (.ref C_UnknownDeed) = some false)
    (hki_UnknownName_UnknownMark : PySem.W.kitOne K (.ref C_UnknownName) (.ref C_UnknownMark) = some false)
    (hki_UnknownName_NothingToUndo : PySem.W.kitOne K (.ref C_UnknownName) (.ref C_NothingToUndo) = some false)
    (hki_UnknownName_MeshError : PySem.W.kitOne K (.ref C_UnknownName) (.ref C_MeshError) = some true)
    (hki_UnknownName_ValueError : PySem.W.kitOne K (.ref C_UnknownName) (.type "ValueError") = some true)
    (hk_WrongKind : PySem.W.keepIn K (.ref C_WrongKind) = true)
    (hs_WrongKind : PySem.W.subIn K (.ref C_WrongKind) (.type "BaseException") = some true)
    (ht_WrongKind : PySem.W.typeIn K (.ref C_WrongKind) = some (.type "type"))
    (hi_WrongKind : PySem.W.isClsIn K C_WrongKind = true)
    (hss_WrongKind : PySem.W.subIn K (.ref C_WrongKind) (.ref C_WrongKind) = some true)
    (hxg_WrongKind : PySem.W.findIn K (.ref C_WrongKind) "__getattribute__" = some (some (.builtin "BaseException.__getattribute__")))
    (hxk_WrongKind : PySem.W.findIn K (.ref C_WrongKind) "__getattr__" = some none)
    (hxd_WrongKind : PySem.W.hasDictIn K C_WrongKind = true)
    (hxa_WrongKind : PySem.W.findIn K (.ref C_WrongKind) "__class__" = some (some (.builtin "object.__class__")))
    (hxm_WrongKind : PySem.W.mroIn K C_WrongKind (.type "object") = some true)
    (hox_WrongKind : RD.oexB K C_WrongKind = true)
    (hsa_WrongKind : PySem.W.findIn K (.ref C_WrongKind) "__setattr__" = some (some (.builtin "object.__setattr__")))
    (hini_WrongKind : PySem.W.findIn K (.ref C_WrongKind) "__init__" = some (some (.ref f3)))
    (htin_WrongKind : PySem.W.typeIn K (.ref f3) = some (.type "function"))
    (hna_WrongKind_line : PySem.W.findIn K (.ref C_WrongKind) "line" = some none)
    (hna_WrongKind_name : PySem.W.findIn K (.ref C_WrongKind) "name" = some none)
    (hki_WrongKind_NotAMesh : PySem.W.kitOne K (.ref C_WrongKind) (.ref C_NotAMesh) = some false)
    (hki_WrongKind_BadLine : PySem.W.kitOne K (.ref C_WrongKind) (.ref C_BadLine) = some false)
    (hki_WrongKind_UnknownName : PySem.W.kitOne K (.ref C_WrongKind) (.ref C_UnknownName) = some false)
    (hki_WrongKind_WrongKind : PySem.W.kitOne K (.ref C_WrongKind) (.ref C_WrongKind) = some true)
    (hki_WrongKind_FactFails : PySem.W.kitOne K (.ref C_WrongKind) (.ref C_FactFails) = some false)
    (hki_WrongKind_Broken : PySem.W.kitOne K (.ref C_WrongKind) (.ref C_Broken) = some false)
    (hki_WrongKind_NeverGiven : PySem.W.kitOne K (.ref C_WrongKind) (.ref C_NeverGiven) = some false)
    (hki_WrongKind_Breaks : PySem.W.kitOne K (.ref C_WrongKind) (.ref C_Breaks) = some false)
    (hki_WrongKind_UnknownDeed : PySem.W.kitOne K (.ref C_WrongKind) (.ref C_UnknownDeed) = some false)
    (hki_WrongKind_UnknownMark : PySem.W.kitOne K (.ref C_WrongKind) (.ref C_UnknownMark) = some false)
    (hki_WrongKind_NothingToUndo : PySem.W.kitOne K (.ref C_WrongKind) (.ref C_NothingToUndo) = some false)
    (hki_WrongKind_MeshError : PySem.W.kitOne K (.ref C_WrongKind) (.ref C_MeshError) = some true)
    (hki_WrongKind_ValueError : PySem.W.kitOne K (.ref C_WrongKind) (.type "ValueError") = some true)
    (hk_FactFails : PySem.W.keepIn K (.ref C_FactFails) = true)
    (hs_FactFails : PySem.W.subIn K (.ref C_FactFails) (.type "BaseException") = some true)
    (ht_FactFails : PySem.W.typeIn K (.ref C_FactFails) = some (.type "type"))
    (hi_FactFails : PySem.W.isClsIn K C_FactFails = true)
    (hss_FactFails : PySem.W.subIn K (.ref C_FactFails) (.ref C_FactFails) = some true)
    (hxg_FactFails : PySem.W.findIn K (.ref C_FactFails) "__getattribute__" = some (some (.builtin "BaseException.__getattribute__")))
    (hxk_FactFails : PySem.W.findIn K (.ref C_FactFails) "__getattr__" = some none)
    (hxd_FactFails : PySem.W.hasDictIn K C_FactFails = true)
    (hxa_FactFails : PySem.W.findIn K (.ref C_FactFails) "__class__" = some (some (.builtin "object.__class__")))
    (hxm_FactFails : PySem.W.mroIn K C_FactFails (.type "object") = some true)
    (hox_FactFails : RD.oexB K C_FactFails = true)
    (hsa_FactFails : PySem.W.findIn K (.ref C_FactFails) "__setattr__" = some (some (.builtin "object.__setattr__")))
    (hini_FactFails : PySem.W.findIn K (.ref C_FactFails) "__init__" = some (some (.ref f4)))
    (htin_FactFails : PySem.W.typeIn K (.ref f4) = some (.type "function"))
    (hna_FactFails_line : PySem.W.findIn K (.ref C_FactFails) "line" = some none)
    (hki_FactFails_NotAMesh : PySem.W.kitOne K (.ref C_FactFails) (.ref C_NotAMesh) = some false)
    (hki_FactFails_BadLine : PySem.W.kitOne K (.ref C_FactFails) (.ref C_BadLine) = some false)
    (hki_FactFails_UnknownName : PySem.W.kitOne K (.ref C_FactFails) (.ref C_UnknownName) = some false)
    (hki_FactFails_WrongKind : PySem.W.kitOne K (.ref C_FactFails) (.ref C_WrongKind) = some false)
    (hki_FactFails_FactFails : PySem.W.kitOne K (.ref C_FactFails) (.ref C_FactFails) = some true)
    (hki_FactFails_Broken : PySem.W.kitOne K (.ref C_FactFails) (.ref C_Broken) = some false)
    (hki_FactFails_NeverGiven : PySem.W.kitOne K (.ref C_FactFails) (.ref C_NeverGiven) = some false)
    (hki_FactFails_Breaks : PySem.W.kitOne K (.ref C_FactFails) (.ref C_Breaks) = some false)
    (hki_FactFails_UnknownDeed : PySem.W.kitOne K (.ref C_FactFails) (.ref C_UnknownDeed) = some false)
    (hki_FactFails_UnknownMark : PySem.W.kitOne K (.ref C_FactFails) (.ref C_UnknownMark) = some false)
    (hki_FactFails_NothingToUndo : PySem.W.kitOne K (.ref C_FactFails) (.ref C_NothingToUndo) = some false)
    (hki_FactFails_MeshError : PySem.W.kitOne K (.ref C_FactFails) (.ref C_MeshError) = some true)
    (hki_FactFails_ValueError : PySem.W.kitOne K (.ref C_FactFails) (.type "ValueError") = some true)
    (hk_Broken : PySem.W.keepIn K (.ref C_Broken) = true)
    (hs_Broken : PySem.W.subIn K (.ref C_Broken) (.type "BaseException") = some true)
    (ht_Broken : PySem.W.typeIn K (.ref C_Broken) = some (.type "type"))
    (hi_Broken : PySem.W.isClsIn K C_Broken = true)
    (hss_Broken : PySem.W.subIn K (.ref C_Broken) (.ref C_Broken) = some true)
    (hxg_Broken : PySem.W.findIn K (.ref C_Broken) "__getattribute__" = some (some (.builtin "BaseException.__getattribute__")))
    (hxk_Broken : PySem.W.findIn K (.ref C_Broken) "__getattr__" = some none)
    (hxd_Broken : PySem.W.hasDictIn K C_Broken = true)
    (hxa_Broken : PySem.W.findIn K (.ref C_Broken) "__class__" = some (some (.builtin "object.__class__")))
    (hxm_Broken : PySem.W.mroIn K C_Broken (.type "object") = some true)
    (hox_Broken : RD.oexB K C_Broken = true)
    (hsa_Broken : PySem.W.findIn K (.ref C_Broken) "__setattr__" = some (some (.builtin "object.__setattr__")))
    (hini_Broken : PySem.W.findIn K (.ref C_Broken) "__init__" = some (some (.ref f5)))
    (htin_Broken : PySem.W.typeIn K (.ref f5) = some (.type "function"))
    (hna_Broken_fault : PySem.W.findIn K (.ref C_Broken) "fault" = some none)
    (hna_Broken_line : PySem.W.findIn K (.ref C_Broken) "line" = some none)
    (hki_Broken_NotAMesh : PySem.W.kitOne K (.ref C_Broken) (.ref C_NotAMesh) = some false)
    (hki_Broken_BadLine : PySem.W.kitOne K (.ref C_Broken) (.ref C_BadLine) = some false)
    (hki_Broken_UnknownName : PySem.W.kitOne K (.ref C_Broken) (.ref C_UnknownName) = some false)
    (hki_Broken_WrongKind : PySem.W.kitOne K (.ref C_Broken) (.ref C_WrongKind) = some false)
    (hki_Broken_FactFails : PySem.W.kitOne K (.ref C_Broken) (.ref C_FactFails) = some false)
    (hki_Broken_Broken : PySem.W.kitOne K (.ref C_Broken) (.ref C_Broken) = some true)
    (hki_Broken_NeverGiven : PySem.W.kitOne K (.ref C_Broken) (.ref C_NeverGiven) = some false)
    (hki_Broken_Breaks : PySem.W.kitOne K (.ref C_Broken) (.ref C_Breaks) = some false)
    (hki_Broken_UnknownDeed : PySem.W.kitOne K (.ref C_Broken) (.ref C_UnknownDeed) = some false)
    (hki_Broken_UnknownMark : PySem.W.kitOne K (.ref C_Broken) (.ref C_UnknownMark) = some false)
    (hki_Broken_NothingToUndo : PySem.W.kitOne K (.ref C_Broken) (.ref C_NothingToUndo) = some false)
    (hki_Broken_MeshError : PySem.W.kitOne K (.ref C_Broken) (.ref C_MeshError) = some true)
    (hki_Broken_ValueError : PySem.W.kitOne K (.ref C_Broken) (.type "ValueError") = some true)
    (hx_NeverGiven : PySem.W.excIn K C_NeverGiven [.type "ValueError", .type "Exception", .type "BaseException", .type "object"] "ValueError.__new__" = true)
    (hk_NeverGiven : PySem.W.keepIn K (.ref C_NeverGiven) = true)
    (hs_NeverGiven : PySem.W.subIn K (.ref C_NeverGiven) (.type "BaseException") = some true)
    (ht_NeverGiven : PySem.W.typeIn K (.ref C_NeverGiven) = some (.type "type"))
    (hi_NeverGiven : PySem.W.isClsIn K C_NeverGiven = true)
    (hss_NeverGiven : PySem.W.subIn K (.ref C_NeverGiven) (.ref C_NeverGiven) = some true)
    (hxg_NeverGiven : PySem.W.findIn K (.ref C_NeverGiven) "__getattribute__" = some (some (.builtin "BaseException.__getattribute__")))
    (hxk_NeverGiven : PySem.W.findIn K (.ref C_NeverGiven) "__getattr__" = some none)
    (hxd_NeverGiven : PySem.W.hasDictIn K C_NeverGiven = true)
    (hxa_NeverGiven : PySem.W.findIn K (.ref C_NeverGiven) "__class__" = some (some (.builtin "object.__class__")))
    (hxm_NeverGiven : PySem.W.mroIn K C_NeverGiven (.type "object") = some true)
    (hki_NeverGiven_NotAMesh : PySem.W.kitOne K (.ref C_NeverGiven) (.ref C_NotAMesh) = some false)
    (hki_NeverGiven_BadLine : PySem.W.kitOne K (.ref C_NeverGiven) (.ref C_BadLine) = some false)
    (hki_NeverGiven_UnknownName : PySem.W.kitOne K (.ref C_NeverGiven) (.ref C_UnknownName) = some false)
    (hki_NeverGiven_WrongKind : PySem.W.kitOne K (.ref C_NeverGiven) (.ref C_WrongKind) = some false)
    (hki_NeverGiven_FactFails : PySem.W.kitOne K (.ref C_NeverGiven) (.ref C_FactFails) = some false)
    (hki_NeverGiven_Broken : PySem.W.kitOne K (.ref C_NeverGiven) (.ref C_Broken) = some false)
    (hki_NeverGiven_NeverGiven : PySem.W.kitOne K (.ref C_NeverGiven) (.ref C_NeverGiven) = some true)
    (hki_NeverGiven_Breaks : PySem.W.kitOne K (.ref C_NeverGiven) (.ref C_Breaks) = some false)
    (hki_NeverGiven_UnknownDeed : PySem.W.kitOne K (.ref C_NeverGiven) (.ref C_UnknownDeed) = some false)
    (hki_NeverGiven_UnknownMark : PySem.W.kitOne K (.ref C_NeverGiven) (.ref C_UnknownMark) = some false)
    (hki_NeverGiven_NothingToUndo : PySem.W.kitOne K (.ref C_NeverGiven) (.ref C_NothingToUndo) = some false)
    (hki_NeverGiven_MeshError : PySem.W.kitOne K (.ref C_NeverGiven) (.ref C_MeshError) = some true)
    (hki_NeverGiven_ValueError : PySem.W.kitOne K (.ref C_NeverGiven) (.type "ValueError") = some true)
    (hk_Breaks : PySem.W.keepIn K (.ref C_Breaks) = true)
    (hs_Breaks : PySem.W.subIn K (.ref C_Breaks) (.type "BaseException") = some true)
    (ht_Breaks : PySem.W.typeIn K (.ref C_Breaks) = some (.type "type"))
    (hi_Breaks : PySem.W.isClsIn K C_Breaks = true)
    (hss_Breaks : PySem.W.subIn K (.ref C_Breaks) (.ref C_Breaks) = some true)
    (hxg_Breaks : PySem.W.findIn K (.ref C_Breaks) "__getattribute__" = some (some (.builtin "BaseException.__getattribute__")))
    (hxk_Breaks : PySem.W.findIn K (.ref C_Breaks) "__getattr__" = some none)
    (hxd_Breaks : PySem.W.hasDictIn K C_Breaks = true)
    (hxa_Breaks : PySem.W.findIn K (.ref C_Breaks) "__class__" = some (some (.builtin "object.__class__")))
    (hxm_Breaks : PySem.W.mroIn K C_Breaks (.type "object") = some true)
    (hox_Breaks : RD.oexB K C_Breaks = true)
    (hsa_Breaks : PySem.W.findIn K (.ref C_Breaks) "__setattr__" = some (some (.builtin "object.__setattr__")))
    (hini_Breaks : PySem.W.findIn K (.ref C_Breaks) "__init__" = some (some (.ref f6)))
    (htin_Breaks : PySem.W.typeIn K (.ref f6) = some (.type "function"))
    (hna_Breaks_mesh : PySem.W.findIn K (.ref C_Breaks) "mesh" = some none)
    (hna_Breaks_halves : PySem.W.findIn K (.ref C_Breaks) "halves" = some none)
    (hki_Breaks_NotAMesh : PySem.W.kitOne K (.ref C_Breaks) (.ref C_NotAMesh) = some false)
    (hki_Breaks_BadLine : PySem.W.kitOne K (.ref C_Breaks) (.ref C_BadLine) = some false)
    (hki_Breaks_UnknownName : PySem.W.kitOne K (.ref C_Breaks) (.ref C_UnknownName) = some false)
    (hki_Breaks_WrongKind : PySem.W.kitOne K (.ref C_Breaks) (.ref C_WrongKind) = some false)
    (hki_Breaks_FactFails : PySem.W.kitOne K (.ref C_Breaks) (.ref C_FactFails) = some false)
    (hki_Breaks_Broken : PySem.W.kitOne K (.ref C_Breaks) (.ref C_Broken) = some false)
    (hki_Breaks_NeverGiven : PySem.W.kitOne K (.ref C_Breaks) (.ref C_NeverGiven) = some false)
    (hki_Breaks_Breaks : PySem.W.kitOne K (.ref C_Breaks) (.ref C_Breaks) = some true)
    (hki_Breaks_UnknownDeed : PySem.W.kitOne K (.ref C_Breaks) (.ref C_UnknownDeed) = some false)
    (hki_Breaks_UnknownMark : PySem.W.kitOne K (.ref C_Breaks) (.ref C_UnknownMark) = some false)
    (hki_Breaks_NothingToUndo : PySem.W.kitOne K (.ref C_Breaks) (.ref C_NothingToUndo) = some false)
    (hki_Breaks_MeshError : PySem.W.kitOne K (.ref C_Breaks) (.ref C_MeshError) = some true)
    (hki_Breaks_ValueError : PySem.W.kitOne K (.ref C_Breaks) (.type "ValueError") = some true)
    (hk_UnknownDeed : PySem.W.keepIn K (.ref C_UnknownDeed) = true)
    (hs_UnknownDeed : PySem.W.subIn K (.ref C_UnknownDeed) (.type "BaseException") = some true)
    (ht_UnknownDeed : PySem.W.typeIn K (.ref C_UnknownDeed) = some (.type "type"))
    (hi_UnknownDeed : PySem.W.isClsIn K C_UnknownDeed = true)
    (hss_UnknownDeed : PySem.W.subIn K (.ref C_UnknownDeed) (.ref C_UnknownDeed) = some true)
    (hxg_UnknownDeed : PySem.W.findIn K (.ref C_UnknownDeed) "__getattribute__" = some (some (.builtin "BaseException.__getattribute__")))
    (hxk_UnknownDeed : PySem.W.findIn K (.ref C_UnknownDeed) "__getattr__" = some none)
    (hxd_UnknownDeed : PySem.W.hasDictIn K C_UnknownDeed = true)
    (hxa_UnknownDeed : PySem.W.findIn K (.ref C_UnknownDeed) "__class__" = some (some (.builtin "object.__class__")))
    (hxm_UnknownDeed : PySem.W.mroIn K C_UnknownDeed (.type "object") = some true)
    (hox_UnknownDeed : RD.oexB K C_UnknownDeed = true)
    (hsa_UnknownDeed : PySem.W.findIn K (.ref C_UnknownDeed) "__setattr__" = some (some (.builtin "object.__setattr__")))
    (hini_UnknownDeed : PySem.W.findIn K (.ref C_UnknownDeed) "__init__" = some (some (.ref f7)))
    (htin_UnknownDeed : PySem.W.typeIn K (.ref f7) = some (.type "function"))
    (hna_UnknownDeed_name : PySem.W.findIn K (.ref C_UnknownDeed) "name" = some none)
    (hki_UnknownDeed_NotAMesh : PySem.W.kitOne K (.ref C_UnknownDeed) (.ref C_NotAMesh) = some false)
    (hki_UnknownDeed_BadLine : PySem.W.kitOne K (.ref C_UnknownDeed) (.ref C_BadLine) = some false)
    (hki_UnknownDeed_UnknownName : PySem.W.kitOne K (.ref C_UnknownDeed) (.ref C_UnknownName) = some false)
    (hki_UnknownDeed_WrongKind : PySem.W.kitOne K (.ref C_UnknownDeed) (.ref C_WrongKind) = some false)
    (hki_UnknownDeed_FactFails : PySem.W.kitOne K (.ref C_UnknownDeed) (.ref C_FactFails) = some false)
    (hki_UnknownDeed_Broken : PySem.W.kitOne K (.ref C_UnknownDeed) (.ref C_Broken) = some false)
    (hki_UnknownDeed_NeverGiven : PySem.W.kitOne K (.ref C_UnknownDeed) (.ref C_NeverGiven) = some false)
    (hki_UnknownDeed_Breaks : PySem.W.kitOne K (.ref C_UnknownDeed) (.ref C_Breaks) = some false)
    (hki_UnknownDeed_UnknownDeed : PySem.W.kitOne K (.ref C_UnknownDeed) (.ref C_UnknownDeed) = some true)
    (hki_UnknownDeed_UnknownMark : PySem.W.kitOne K (.ref C_UnknownDeed) (.ref C_UnknownMark) = some false)
    (hki_UnknownDeed_NothingToUndo : PySem.W.kitOne K (.ref C_UnknownDeed) (.ref C_NothingToUndo) = some false)
    (hki_UnknownDeed_MeshError : PySem.W.kitOne K (.ref C_UnknownDeed) (.ref C_MeshError) = some true)
    (hki_UnknownDeed_ValueError : PySem.W.kitOne K (.ref C_UnknownDeed) (.type "ValueError") = some true)
    (hk_UnknownMark : PySem.W.keepIn K (.ref C_UnknownMark) = true)
    (hs_UnknownMark : PySem.W.subIn K (.ref C_UnknownMark) (.type "BaseException") = some true)
    (ht_UnknownMark : PySem.W.typeIn K (.ref C_UnknownMark) = some (.type "type"))
    (hi_UnknownMark : PySem.W.isClsIn K C_UnknownMark = true)
    (hss_UnknownMark : PySem.W.subIn K (.ref C_UnknownMark) (.ref C_UnknownMark) = some true)
    (hxg_UnknownMark : PySem.W.findIn K (.ref C_UnknownMark) "__getattribute__" = some (some (.builtin "BaseException.__getattribute__")))
    (hxk_UnknownMark : PySem.W.findIn K (.ref C_UnknownMark) "__getattr__" = some none)
    (hxd_UnknownMark : PySem.W.hasDictIn K C_UnknownMark = true)
    (hxa_UnknownMark : PySem.W.findIn K (.ref C_UnknownMark) "__class__" = some (some (.builtin "object.__class__")))
    (hxm_UnknownMark : PySem.W.mroIn K C_UnknownMark (.type "object") = some true)
    (hox_UnknownMark : RD.oexB K C_UnknownMark = true)
    (hsa_UnknownMark : PySem.W.findIn K (.ref C_UnknownMark) "__setattr__" = some (some (.builtin "object.__setattr__")))
    (hini_UnknownMark : PySem.W.findIn K (.ref C_UnknownMark) "__init__" = some (some (.ref f8)))
    (htin_UnknownMark : PySem.W.typeIn K (.ref f8) = some (.type "function"))
    (hna_UnknownMark_name : PySem.W.findIn K (.ref C_UnknownMark) "name" = some none)
    (hki_UnknownMark_NotAMesh : PySem.W.kitOne K (.ref C_UnknownMark) (.ref C_NotAMesh) = some false)
    (hki_UnknownMark_BadLine : PySem.W.kitOne K (.ref C_UnknownMark) (.ref C_BadLine) = some false)
    (hki_UnknownMark_UnknownName : PySem.W.kitOne K (.ref C_UnknownMark) (.ref C_UnknownName) = some false)
    (hki_UnknownMark_WrongKind : PySem.W.kitOne K (.ref C_UnknownMark) (.ref C_WrongKind) = some false)
    (hki_UnknownMark_FactFails : PySem.W.kitOne K (.ref C_UnknownMark) (.ref C_FactFails) = some false)
    (hki_UnknownMark_Broken : PySem.W.kitOne K (.ref C_UnknownMark) (.ref C_Broken) = some false)
    (hki_UnknownMark_NeverGiven : PySem.W.kitOne K (.ref C_UnknownMark) (.ref C_NeverGiven) = some false)
    (hki_UnknownMark_Breaks : PySem.W.kitOne K (.ref C_UnknownMark) (.ref C_Breaks) = some false)
    (hki_UnknownMark_UnknownDeed : PySem.W.kitOne K (.ref C_UnknownMark) (.ref C_UnknownDeed) = some false)
    (hki_UnknownMark_UnknownMark : PySem.W.kitOne K (.ref C_UnknownMark) (.ref C_UnknownMark) = some true)
    (hki_UnknownMark_NothingToUndo : PySem.W.kitOne K (.ref C_UnknownMark) (.ref C_NothingToUndo) = some false)
    (hki_UnknownMark_MeshError : PySem.W.kitOne K (.ref C_UnknownMark) (.ref C_MeshError) = some true)
    (hki_UnknownMark_ValueError : PySem.W.kitOne K (.ref C_UnknownMark) (.type "ValueError") = some true)
    (hx_NothingToUndo : PySem.W.excIn K C_NothingToUndo [.type "ValueError", .type "Exception", .type "BaseException", .type "object"] "ValueError.__new__" = true)
    (hk_NothingToUndo : PySem.W.keepIn K (.ref C_NothingToUndo) = true)
    (hs_NothingToUndo : PySem.W.subIn K (.ref C_NothingToUndo) (.type "BaseException") = some true)
    (ht_NothingToUndo : PySem.W.typeIn K (.ref C_NothingToUndo) = some (.type "type"))
    (hi_NothingToUndo : PySem.W.isClsIn K C_NothingToUndo = true)
    (hss_NothingToUndo : PySem.W.subIn K (.ref C_NothingToUndo) (.ref C_NothingToUndo) = some true)
    (hxg_NothingToUndo : PySem.W.findIn K (.ref C_NothingToUndo) "__getattribute__" = some (some (.builtin "BaseException.__getattribute__")))
    (hxk_NothingToUndo : PySem.W.findIn K (.ref C_NothingToUndo) "__getattr__" = some none)
    (hxd_NothingToUndo : PySem.W.hasDictIn K C_NothingToUndo = true)
    (hxa_NothingToUndo : PySem.W.findIn K (.ref C_NothingToUndo) "__class__" = some (some (.builtin "object.__class__")))
    (hxm_NothingToUndo : PySem.W.mroIn K C_NothingToUndo (.type "object") = some true)
    (hki_NothingToUndo_NotAMesh : PySem.W.kitOne K (.ref C_NothingToUndo) (.ref C_NotAMesh) = some false)
    (hki_NothingToUndo_BadLine : PySem.W.kitOne K (.ref C_NothingToUndo) (.ref C_BadLine) = some false)
    (hki_NothingToUndo_UnknownName : PySem.W.kitOne K (.ref C_NothingToUndo) (.ref C_UnknownName) = some false)
    (hki_NothingToUndo_WrongKind : PySem.W.kitOne K (.ref C_NothingToUndo) (.ref C_WrongKind) = some false)
    (hki_NothingToUndo_FactFails : PySem.W.kitOne K (.ref C_NothingToUndo) (.ref C_FactFails) = some false)
    (hki_NothingToUndo_Broken : PySem.W.kitOne K (.ref C_NothingToUndo) (.ref C_Broken) = some false)
    (hki_NothingToUndo_NeverGiven : PySem.W.kitOne K (.ref C_NothingToUndo) (.ref C_NeverGiven) = some false)
    (hki_NothingToUndo_Breaks : PySem.W.kitOne K (.ref C_NothingToUndo) (.ref C_Breaks) = some false)
    (hki_NothingToUndo_UnknownDeed : PySem.W.kitOne K (.ref C_NothingToUndo) (.ref C_UnknownDeed) = some false)
    (hki_NothingToUndo_UnknownMark : PySem.W.kitOne K (.ref C_NothingToUndo) (.ref C_UnknownMark) = some false)
    (hki_NothingToUndo_NothingToUndo : PySem.W.kitOne K (.ref C_NothingToUndo) (.ref C_NothingToUndo) = some true)
    (hki_NothingToUndo_MeshError : PySem.W.kitOne K (.ref C_NothingToUndo) (.ref C_MeshError) = some true)
    (hki_NothingToUndo_ValueError : PySem.W.kitOne K (.ref C_NothingToUndo) (.type "ValueError") = some true)
    (pg_Mesh : PySem.W.plainGet K C_Mesh Str.empty = true)
    (hd_Mesh : PySem.W.hasDictIn K C_Mesh = true)
    (po_Mesh : PySem.W.plainOver K C_Mesh = true)
    (sa_Mesh : PySem.W.findIn K (.ref C_Mesh) "__setattr__" = some (some (.builtin "object.__setattr__")))
    (mk_Mesh : PySem.W.makesIn K C_Mesh = true)
    (kc_Mesh : PySem.W.keepIn K (.ref C_Mesh) = true)
    (hn_Mesh_following : PySem.W.findIn K (.ref C_Mesh) "following" = some none)
    (hn_Mesh_preceding : PySem.W.findIn K (.ref C_Mesh) "preceding" = some none)
    (hnf_list : PySem.W.notFirst K C_Mesh (.type "list") = true)
    (hnf_int : PySem.W.notFirst K C_Mesh (.type "int") = true)
    (hxa_Mesh : PySem.W.findIn K (.ref C_Mesh) "__class__" = some (some (.builtin "object.__class__")))
    (hxm_Mesh : PySem.W.mroIn K C_Mesh (.type "object") = some true)
    (hki_list_Mesh : PySem.W.kitOne K (.type "list") (.ref C_Mesh) = some false)
    (hki_int_Mesh : PySem.W.kitOne K (.type "int") (.ref C_Mesh) = some false)
    (hz_ValueError : PySem.W.nsIn K mainGlobals "ValueError" = some none)
    (hz_abs : PySem.W.nsIn K mainGlobals "abs" = some none)
    (hz_all : PySem.W.nsIn K mainGlobals "all" = some none)
    (hz_bool : PySem.W.nsIn K mainGlobals "bool" = some none)
    (hz_enumerate : PySem.W.nsIn K mainGlobals "enumerate" = some none)
    (hz_int : PySem.W.nsIn K mainGlobals "int" = some none)
    (hz_isinstance : PySem.W.nsIn K mainGlobals "isinstance" = some none)
    (hz_len : PySem.W.nsIn K mainGlobals "len" = some none)
    (hz_list : PySem.W.nsIn K mainGlobals "list" = some none)
    (hz_range : PySem.W.nsIn K mainGlobals "range" = some none)
    (hz_sorted : PySem.W.nsIn K mainGlobals "sorted" = some none)
    (hoc_get : PySem.W.specialIn K (.builtin "object.__class__") "__get__" = some (some (.builtin "getset_descriptor.__get__")))
    (hoc_tak : PySem.W.takesIn K (.builtin "object.__class__") = some true)
    : ∃ fd : FuncData, (∀ (s : Shared) (v : Value), BindsTo s fd ⟨[v], []⟩ [("_law_script", v)]) ∧ ∀ base : Heap, K.In base → base.Ns mainGlobals mg → FnOk l.prog w K mg base CX0 4 fa fd ["_law_script"] (sp_law K) := by
  have e := hfa.symm.trans (PySem.W.mg_of X G a20)
  cases e
  let A : Ad := ⟨f1, (PySem.W.fnOf "__init__" "BadLine.__init__" (defArgs s_BadLine_d_initd_) (defBody s_BadLine_d_initd_) (defScope s_BadLine_d_initd_) .none kV1 dc1 pm1 an1 cd1 ct1), f2, (PySem.W.fnOf "__init__" "UnknownName.__init__" (defArgs s_UnknownName_d_initd_) (defBody s_UnknownName_d_initd_) (defScope s_UnknownName_d_initd_) .none kV2 dc2 pm2 an2 cd2 ct2), f3, (PySem.W.fnOf "__init__" "WrongKind.__init__" (defArgs s_WrongKind_d_initd_) (defBody s_WrongKind_d_initd_) (defScope s_WrongKind_d_initd_) .none kV3 dc3 pm3 an3 cd3 ct3), f4, (PySem.W.fnOf "__init__" "FactFails.__init__" (defArgs s_FactFails_d_initd_) (defBody s_FactFails_d_initd_) (defScope s_FactFails_d_initd_) .none kV4 dc4 pm4 an4 cd4 ct4), f5, (PySem.W.fnOf "__init__" "Broken.__init__" (defArgs s_Broken_d_initd_) (defBody s_Broken_d_initd_) (defScope s_Broken_d_initd_) .none kV5 dc5 pm5 an5 cd5 ct5), f6, (PySem.W.fnOf "__init__" "Breaks.__init__" (defArgs s_Breaks_d_initd_) (defBody s_Breaks_d_initd_) (defScope s_Breaks_d_initd_) .none kV6 dc6 pm6 an6 cd6 ct6), f7, (PySem.W.fnOf "__init__" "UnknownDeed.__init__" (defArgs s_UnknownDeed_d_initd_) (defBody s_UnknownDeed_d_initd_) (defScope s_UnknownDeed_d_initd_) .none kV7 dc7 pm7 an7 cd7 ct7), f8, (PySem.W.fnOf "__init__" "UnknownMark.__init__" (defArgs s_UnknownMark_d_initd_) (defBody s_UnknownMark_d_initd_) (defScope s_UnknownMark_d_initd_) .none kV8 dc8 pm8 an8 cd8 ct8), f9, (PySem.W.fnOf "are_integers" "are_integers" (defArgs s_are_integers) (defBody s_are_integers) (defScope s_are_integers) .none kV9 dc9 pm9 an9 cd9 ct9), f10, (PySem.W.fnOf "__init__" "Mesh.__init__" (defArgs s_Mesh_d_initd_) (defBody s_Mesh_d_initd_) (defScope s_Mesh_d_initd_) .none kV10 dc10 pm10 an10 cd10 ct10), f11, (PySem.W.fnOf "__len__" "Mesh.__len__" (defArgs s_Mesh_d_lend_) (defBody s_Mesh_d_lend_) (defScope s_Mesh_d_lend_) .none kV11 dc11 pm11 an11 cd11 ct11), f12, (PySem.W.fnOf "__contains__" "Mesh.__contains__" (defArgs s_Mesh_d_containsd_) (defBody s_Mesh_d_containsd_) (defScope s_Mesh_d_containsd_) .none kV12 dc12 pm12 an12 cd12 ct12), f13, (PySem.W.fnOf "__eq__" "Mesh.__eq__" (defArgs s_Mesh_d_eqd_) (defBody s_Mesh_d_eqd_) (defScope s_Mesh_d_eqd_) .none kV13 dc13 pm13 an13 cd13 ct13), f14, (PySem.W.fnOf "after" "Mesh.after" (defArgs s_Mesh_after) (defBody s_Mesh_after) (defScope s_Mesh_after) .none kV14 dc14 pm14 an14 cd14 ct14), f15, (PySem.W.fnOf "nexts" "Mesh.nexts" (defArgs s_Mesh_nexts) (defBody s_Mesh_nexts) (defScope s_Mesh_nexts) .none kV15 dc15 pm15 an15 cd15 ct15), f16, (PySem.W.fnOf "_law_tape" "_law_tape" (defArgs s_l_tape) (defBody s_l_tape) (defScope s_l_tape) .none kV16 dc16 pm16 an16 cd16 ct16), f17, (PySem.W.fnOf "_law_pick" "_law_pick" (defArgs s_l_pick) (defBody s_l_pick) (defScope s_l_pick) .none kV17 dc17 pm17 an17 cd17 ct17), f18, (PySem.W.fnOf "_law_kinds" "_law_kinds" (defArgs s_l_kinds) (defBody s_l_kinds) (defScope s_l_kinds) .none kV18 dc18 pm18 an18 cd18 ct18), f19, (PySem.W.fnOf "_law_right" "_law_right" (defArgs s_l_right) (defBody s_l_right) (defScope s_l_right) .none kV19 dc19 pm19 an19 cd19 ct19), fa, (PySem.W.fnOf "law" "law" (defArgs s_law) (defBody s_law) (defScope s_law) .none kV20 dc20 pm20 an20 cd20 ct20), C_MeshError, C_NotAMesh, C_BadLine, C_UnknownName, C_WrongKind, C_FactFails, C_Broken, C_NeverGiven, C_Breaks, C_UnknownDeed, C_UnknownMark, C_NothingToUndo, C_Mesh⟩
  have T : Txt K mg A := ⟨fun_mk (st := s_BadLine_d_initd_) l1 c1 k1,
    (fun_mk (st := s_BadLine_d_initd_) l1 c1 k1).binds (ps := ["self", "line"]) fun _ _ _ _ _ _ us hl => match us, hl with | [_, _], _ => rfl,
    fun_mk (st := s_UnknownName_d_initd_) l2 c2 k2,
    (fun_mk (st := s_UnknownName_d_initd_) l2 c2 k2).binds (ps := ["self", "line", "name"]) fun _ _ _ _ _ _ us hl => match us, hl with | [_, _, _], _ => rfl,
    fun_mk (st := s_WrongKind_d_initd_) l3 c3 k3,
    (fun_mk (st := s_WrongKind_d_initd_) l3 c3 k3).binds (ps := ["self", "line", "name"]) fun _ _ _ _ _ _ us hl => match us, hl with | [_, _, _], _ => rfl,
    fun_mk (st := s_FactFails_d_initd_) l4 c4 k4,
    (fun_mk (st := s_FactFails_d_initd_) l4 c4 k4).binds (ps := ["self", "line"]) fun _ _ _ _ _ _ us hl => match us, hl with | [_, _], _ => rfl,
    fun_mk (st := s_Broken_d_initd_) l5 c5 k5,
    (fun_mk (st := s_Broken_d_initd_) l5 c5 k5).binds (ps := ["self", "fault", "line"]) fun _ _ _ _ _ _ us hl => match us, hl with | [_, _, _], _ => rfl,
    fun_mk (st := s_Breaks_d_initd_) l6 c6 k6,
    (fun_mk (st := s_Breaks_d_initd_) l6 c6 k6).binds (ps := ["self", "mesh", "halves"]) fun _ _ _ _ _ _ us hl => match us, hl with | [_, _, _], _ => rfl,
    fun_mk (st := s_UnknownDeed_d_initd_) l7 c7 k7,
    (fun_mk (st := s_UnknownDeed_d_initd_) l7 c7 k7).binds (ps := ["self", "name"]) fun _ _ _ _ _ _ us hl => match us, hl with | [_, _], _ => rfl,
    fun_mk (st := s_UnknownMark_d_initd_) l8 c8 k8,
    (fun_mk (st := s_UnknownMark_d_initd_) l8 c8 k8).binds (ps := ["self", "name"]) fun _ _ _ _ _ _ us hl => match us, hl with | [_, _], _ => rfl,
    fun_mk (st := s_are_integers) l9 c9 k9,
    (fun_mk (st := s_are_integers) l9 c9 k9).binds (ps := ["values"]) fun _ _ _ _ _ _ us hl => match us, hl with | [_], _ => rfl,
    PySem.W.mg_of X G a9,
    fun_mk (st := s_Mesh_d_initd_) l10 c10 k10,
    (fun_mk (st := s_Mesh_d_initd_) l10 c10 k10).binds (ps := ["self", "nexts"]) fun _ _ _ _ _ _ us hl => match us, hl with | [_, _], _ => rfl,
    ⟨a10, i10, k10⟩,
    fun_mk (st := s_Mesh_d_lend_) l11 c11 k11,
    (fun_mk (st := s_Mesh_d_lend_) l11 c11 k11).binds (ps := ["self"]) fun _ _ _ _ _ _ us hl => match us, hl with | [_], _ => rfl,
    ⟨a11, i11, k11⟩,
    fun_mk (st := s_Mesh_d_containsd_) l12 c12 k12,
    (fun_mk (st := s_Mesh_d_containsd_) l12 c12 k12).binds (ps := ["self", "half"]) fun _ _ _ _ _ _ us hl => match us, hl with | [_, _], _ => rfl,
    ⟨a12, i12, k12⟩,
    fun_mk (st := s_Mesh_d_eqd_) l13 c13 k13,
    (fun_mk (st := s_Mesh_d_eqd_) l13 c13 k13).binds (ps := ["self", "other"]) fun _ _ _ _ _ _ us hl => match us, hl with | [_, _], _ => rfl,
    ⟨a13, i13, k13⟩,
    fun_mk (st := s_Mesh_after) l14 c14 k14,
    (fun_mk (st := s_Mesh_after) l14 c14 k14).binds (ps := ["self", "half"]) fun _ _ _ _ _ _ us hl => match us, hl with | [_, _], _ => rfl,
    ⟨a14, i14, k14⟩,
    fun_mk (st := s_Mesh_nexts) l15 c15 k15,
    (fun_mk (st := s_Mesh_nexts) l15 c15 k15).binds (ps := ["self"]) fun _ _ _ _ _ _ us hl => match us, hl with | [_], _ => rfl,
    ⟨a15, i15, k15⟩,
    fun_mk (st := s_l_tape) l16 c16 k16,
    (fun_mk (st := s_l_tape) l16 c16 k16).binds (ps := ["_law_script", "_law_k"]) fun _ _ _ _ _ _ us hl => match us, hl with | [_, _], _ => rfl,
    PySem.W.mg_of X G a16,
    fun_mk (st := s_l_pick) l17 c17 k17,
    (fun_mk (st := s_l_pick) l17 c17 k17).binds (ps := ["_law_tape_here", "_law_many"]) fun _ _ _ _ _ _ us hl => match us, hl with | [_, _], _ => rfl,
    PySem.W.mg_of X G a17,
    fun_mk (st := s_l_kinds) l18 c18 k18,
    (fun_mk (st := s_l_kinds) l18 c18 k18).binds (ps := ["_law_e"]) fun _ _ _ _ _ _ us hl => match us, hl with | [_], _ => rfl,
    PySem.W.mg_of X G a18,
    fun_mk (st := s_l_right) l19 c19 k19,
    (fun_mk (st := s_l_right) l19 c19 k19).binds (ps := ["_law_e", "_law_at"]) fun _ _ _ _ _ _ us hl => match us, hl with | [_, _], _ => rfl,
    PySem.W.mg_of X G a19,
    fun_mk (st := s_law) l20 c20 k20,
    (fun_mk (st := s_law) l20 c20 k20).binds (ps := ["_law_script"]) fun _ _ _ _ _ _ us hl => match us, hl with | [_], _ => rfl,
    PySem.W.mg_of X G a20,
    PySem.W.mg_of X G aC_MeshError,
    PySem.W.mg_of X G aC_NotAMesh,
    hx_NotAMesh,
    hk_NotAMesh,
    hs_NotAMesh,
    ht_NotAMesh,
    hi_NotAMesh,
    hss_NotAMesh,
    hxg_NotAMesh,
    hxk_NotAMesh,
    hxd_NotAMesh,
    hxa_NotAMesh,
    hxm_NotAMesh,
    hki_NotAMesh_NotAMesh,
    hki_NotAMesh_BadLine,
    hki_NotAMesh_UnknownName,
    hki_NotAMesh_WrongKind,
    hki_NotAMesh_FactFails,
    hki_NotAMesh_Broken,
    hki_NotAMesh_NeverGiven,
    hki_NotAMesh_Breaks,
    hki_NotAMesh_UnknownDeed,
    hki_NotAMesh_UnknownMark,
    hki_NotAMesh_NothingToUndo,
    hki_NotAMesh_MeshError,
    hki_NotAMesh_ValueError,
    PySem.W.mg_of X G aC_BadLine,
    hk_BadLine,
    hs_BadLine,
    ht_BadLine,
    hi_BadLine,
    hss_BadLine,
    hxg_BadLine,
    hxk_BadLine,
    hxd_BadLine,
    hxa_BadLine,
    hxm_BadLine,
    hox_BadLine,
    hsa_BadLine,
    hini_BadLine,
    htin_BadLine,
    hna_BadLine_line,
    hki_BadLine_NotAMesh,
    hki_BadLine_BadLine,
    hki_BadLine_UnknownName,
    hki_BadLine_WrongKind,
    hki_BadLine_FactFails,
    hki_BadLine_Broken,
    hki_BadLine_NeverGiven,
    hki_BadLine_Breaks,
    hki_BadLine_UnknownDeed,
    hki_BadLine_UnknownMark,
    hki_BadLine_NothingToUndo,
    hki_BadLine_MeshError,
    hki_BadLine_ValueError,
    PySem.W.mg_of X G aC_UnknownName,
    hk_UnknownName,
    hs_UnknownName,
    ht_UnknownName,
    hi_UnknownName,
    hss_UnknownName,
    hxg_UnknownName,
    hxk_UnknownName,
    hxd_UnknownName,
    hxa_UnknownName,
    hxm_UnknownName,
    hox_UnknownName,
    hsa_UnknownName,
    hini_UnknownName,
    htin_UnknownName,
    hna_UnknownName_line,
    hna_UnknownName_name,
    hki_UnknownName_NotAMesh,
    hki_UnknownName_BadLine,
    hki_UnknownName_UnknownName,
    hki_UnknownName_WrongKind,
    hki_UnknownName_FactFails,
    hki_UnknownName_Broken,
    hki_UnknownName_NeverGiven,
    hki_UnknownName_Breaks,
    hki_UnknownName_UnknownDeed,
    hki_UnknownName_UnknownMark,
    hki_UnknownName_NothingToUndo,
    hki_UnknownName_MeshError,
    hki_UnknownName_ValueError,
    PySem.W.mg_of X G aC_WrongKind,
    hk_WrongKind,
    hs_WrongKind,
    ht_WrongKind,
    hi_WrongKind,
    hss_WrongKind,
    hxg_WrongKind,
    hxk_WrongKind,
    hxd_WrongKind,
    hxa_WrongKind,
    hxm_WrongKind,
    hox_WrongKind,
    hsa_WrongKind,
    hini_WrongKind,
    htin_WrongKind,
    hna_WrongKind_line,
    hna_WrongKind_name,
    hki_WrongKind_NotAMesh,
    hki_WrongKind_BadLine,
    hki_WrongKind_UnknownName,
    hki_WrongKind_WrongKind,
    hki_WrongKind_FactFails,
    hki_WrongKind_Broken,
    hki_WrongKind_NeverGiven,
    hki_WrongKind_Breaks,
    hki_WrongKind_UnknownDeed,
    hki_WrongKind_UnknownMark,
    hki_WrongKind_NothingToUndo,
    hki_WrongKind_MeshError,
    hki_WrongKind_ValueError,
    PySem.W.mg_of X G aC_FactFails,
    hk_FactFails,
    hs_FactFails,
    ht_FactFails,
    hi_FactFails,
    hss_FactFails,
    hxg_FactFails,
    hxk_FactFails,
    hxd_FactFails,
    hxa_FactFails,
    hxm_FactFails,
    hox_FactFails,
    hsa_FactFails,
    hini_FactFails,
    htin_FactFails,
    hna_FactFails_line,
    hki_FactFails_NotAMesh,
    hki_FactFails_BadLine,
    hki_FactFails_UnknownName,
    hki_FactFails_WrongKind,
    hki_FactFails_FactFails,
    hki_FactFails_Broken,
    hki_FactFails_NeverGiven,
    hki_FactFails_Breaks,
    hki_FactFails_UnknownDeed,
    hki_FactFails_UnknownMark,
    hki_FactFails_NothingToUndo,
    hki_FactFails_MeshError,
    hki_FactFails_ValueError,
    PySem.W.mg_of X G aC_Broken,
    hk_Broken,
    hs_Broken,
    ht_Broken,
    hi_Broken,
    hss_Broken,
    hxg_Broken,
    hxk_Broken,
    hxd_Broken,
    hxa_Broken,
    hxm_Broken,
    hox_Broken,
    hsa_Broken,
    hini_Broken,
    htin_Broken,
    hna_Broken_fault,
    hna_Broken_line,
    hki_Broken_NotAMesh,
    hki_Broken_BadLine,
    hki_Broken_UnknownName,
    hki_Broken_WrongKind,
    hki_Broken_FactFails,
    hki_Broken_Broken,
    hki_Broken_NeverGiven,
    hki_Broken_Breaks,
    hki_Broken_UnknownDeed,
    hki_Broken_UnknownMark,
    hki_Broken_NothingToUndo,
    hki_Broken_MeshError,
    hki_Broken_ValueError,
    PySem.W.mg_of X G aC_NeverGiven,
    hx_NeverGiven,
    hk_NeverGiven,
    hs_NeverGiven,
    ht_NeverGiven,
    hi_NeverGiven,
    hss_NeverGiven,
    hxg_NeverGiven,
    hxk_NeverGiven,
    hxd_NeverGiven,
    hxa_NeverGiven,
    hxm_NeverGiven,
    hki_NeverGiven_NotAMesh,
    hki_NeverGiven_BadLine,
    hki_NeverGiven_UnknownName,
    hki_NeverGiven_WrongKind,
    hki_NeverGiven_FactFails,
    hki_NeverGiven_Broken,
    hki_NeverGiven_NeverGiven,
    hki_NeverGiven_Breaks,
    hki_NeverGiven_UnknownDeed,
    hki_NeverGiven_UnknownMark,
    hki_NeverGiven_NothingToUndo,
    hki_NeverGiven_MeshError,
    hki_NeverGiven_ValueError,
    PySem.W.mg_of X G aC_Breaks,
    hk_Breaks,
    hs_Breaks,
    ht_Breaks,
    hi_Breaks,
    hss_Breaks,
    hxg_Breaks,
    hxk_Breaks,
    hxd_Breaks,
    hxa_Breaks,
    hxm_Breaks,
    hox_Breaks,
    hsa_Breaks,
    hini_Breaks,
    htin_Breaks,
    hna_Breaks_mesh,
    hna_Breaks_halves,
    hki_Breaks_NotAMesh,
    hki_Breaks_BadLine,
    hki_Breaks_UnknownName,
    hki_Breaks_WrongKind,
    hki_Breaks_FactFails,
    hki_Breaks_Broken,
    hki_Breaks_NeverGiven,
    hki_Breaks_Breaks,
    hki_Breaks_UnknownDeed,
    hki_Breaks_UnknownMark,
    hki_Breaks_NothingToUndo,
    hki_Breaks_MeshError,
    hki_Breaks_ValueError,
    PySem.W.mg_of X G aC_UnknownDeed,
    hk_UnknownDeed,
    hs_UnknownDeed,
    ht_UnknownDeed,
    hi_UnknownDeed,
    hss_UnknownDeed,
    hxg_UnknownDeed,
    hxk_UnknownDeed,
    hxd_UnknownDeed,
    hxa_UnknownDeed,
    hxm_UnknownDeed,
    hox_UnknownDeed,
    hsa_UnknownDeed,
    hini_UnknownDeed,
    htin_UnknownDeed,
    hna_UnknownDeed_name,
    hki_UnknownDeed_NotAMesh,
    hki_UnknownDeed_BadLine,
    hki_UnknownDeed_UnknownName,
    hki_UnknownDeed_WrongKind,
    hki_UnknownDeed_FactFails,
    hki_UnknownDeed_Broken,
    hki_UnknownDeed_NeverGiven,
    hki_UnknownDeed_Breaks,
    hki_UnknownDeed_UnknownDeed,
    hki_UnknownDeed_UnknownMark,
    hki_UnknownDeed_NothingToUndo,
    hki_UnknownDeed_MeshError,
    hki_UnknownDeed_ValueError,
    PySem.W.mg_of X G aC_UnknownMark,
    hk_UnknownMark,
    hs_UnknownMark,
    ht_UnknownMark,
    hi_UnknownMark,
    hss_UnknownMark,
    hxg_UnknownMark,
    hxk_UnknownMark,
    hxd_UnknownMark,
    hxa_UnknownMark,
    hxm_UnknownMark,
    hox_UnknownMark,
    hsa_UnknownMark,
    hini_UnknownMark,
    htin_UnknownMark,
    hna_UnknownMark_name,
    hki_UnknownMark_NotAMesh,
    hki_UnknownMark_BadLine,
    hki_UnknownMark_UnknownName,
    hki_UnknownMark_WrongKind,
    hki_UnknownMark_FactFails,
    hki_UnknownMark_Broken,
    hki_UnknownMark_NeverGiven,
    hki_UnknownMark_Breaks,
    hki_UnknownMark_UnknownDeed,
    hki_UnknownMark_UnknownMark,
    hki_UnknownMark_NothingToUndo,
    hki_UnknownMark_MeshError,
    hki_UnknownMark_ValueError,
    PySem.W.mg_of X G aC_NothingToUndo,
    hx_NothingToUndo,
    hk_NothingToUndo,
    hs_NothingToUndo,
    ht_NothingToUndo,
    hi_NothingToUndo,
    hss_NothingToUndo,
    hxg_NothingToUndo,
    hxk_NothingToUndo,
    hxd_NothingToUndo,
    hxa_NothingToUndo,
    hxm_NothingToUndo,
    hki_NothingToUndo_NotAMesh,
    hki_NothingToUndo_BadLine,
    hki_NothingToUndo_UnknownName,
    hki_NothingToUndo_WrongKind,
    hki_NothingToUndo_FactFails,
    hki_NothingToUndo_Broken,
    hki_NothingToUndo_NeverGiven,
    hki_NothingToUndo_Breaks,
    hki_NothingToUndo_UnknownDeed,
    hki_NothingToUndo_UnknownMark,
    hki_NothingToUndo_NothingToUndo,
    hki_NothingToUndo_MeshError,
    hki_NothingToUndo_ValueError,
    PySem.W.mg_of X G aC_Mesh,
    ⟨pg_Mesh, hd_Mesh, po_Mesh, sa_Mesh⟩,
    ⟨mk_Mesh, a10, i10, kc_Mesh⟩,
    hn_Mesh_following,
    hn_Mesh_preceding,
    hnf_list,
    hnf_int,
    hxa_Mesh,
    hxm_Mesh,
    hki_list_Mesh,
    hki_int_Mesh,
    PySem.W.mg_none_of X G hz_ValueError,
    PySem.W.mg_none_of X G hz_abs,
    PySem.W.mg_none_of X G hz_all,
    PySem.W.mg_none_of X G hz_bool,
    PySem.W.mg_none_of X G hz_enumerate,
    PySem.W.mg_none_of X G hz_int,
    PySem.W.mg_none_of X G hz_isinstance,
    PySem.W.mg_none_of X G hz_len,
    PySem.W.mg_none_of X G hz_list,
    PySem.W.mg_none_of X G hz_range,
    PySem.W.mg_none_of X G hz_sorted,
    hoc_get,
    hoc_tak⟩
  exact ⟨A.d_law, fun s v => .of_eq rfl, fun base _ _ => ok_law (A := A) T⟩
end Pf
open PySem PySem.W PyProof.Rows
set_option maxRecDepth 100000 in
set_option maxHeartbeats 0 in
theorem PySem.Challenge.cw_halfmeshes_k15_error_classes_holds : PySem.Challenge.rw_halfmeshes_k15_error_classes.Holds := by
  w_on; o_law; k_head; (case hw => w_witness2)
  k_fill
  refine L2.walk_of (l := PySem.Challenge.rw_halfmeshes_k15_error_classes) (n := 63) (k := 4) (x := "_law_script") (CX := fun _ => L2.CX0) (sp := fun w => Pf.sp_law _) rfl (by decide) rfl ⟨rfl, by decide, by decide⟩ (fun w h Y => PySem.W.kIn_of Y) ?F (fun _ _ a ns hl _ hS => ⟨a, ns, rfl, hS, hl, fun _ => rfl⟩) (fun _ _ _ _ _ h => h)
  case F =>
    intro w mg fa h KX G hmg
    refine' Pf.all_mk KX G hmg ?aC_MeshError ?aC_NotAMesh ?aC_BadLine ?aC_UnknownName ?aC_WrongKind ?aC_FactFails ?aC_Broken ?aC_NeverGiven ?aC_Breaks ?aC_UnknownDeed ?aC_UnknownMark ?aC_NothingToUndo ?aC_Mesh ?a1 ?i1 ?l1 ?c1 ?k1 ?a2 ?i2 ?l2 ?c2 ?k2 ?a3 ?i3 ?l3 ?c3 ?k3 ?a4 ?i4 ?l4 ?c4 ?k4 ?a5 ?i5 ?l5 ?c5 ?k5 ?a6 ?i6 ?l6 ?c6 ?k6 ?a7 ?i7 ?l7 ?c7 ?k7 ?a8 ?i8 ?l8 ?c8 ?k8 ?a9 ?l9 ?c9 ?k9 ?a10 ?i10 ?l10 ?c10 ?k10 ?a11 ?i11 ?l11 ?c11 ?k11 ?a12 ?i12 ?l12 ?c12 ?k12 ?a13 ?i13 ?l13 ?c13 ?k13 ?a14 ?i14 ?l14 ?c14 ?k14 ?a15 ?i15 ?l15 ?c15 ?k15 ?a16 ?l16 ?c16 ?k16 ?a17 ?l17 ?c17 ?k17 ?a18 ?l18 ?c18 ?k18 ?a19 ?l19 ?c19 ?k19 ?a20 ?l20 ?c20 ?k20 ?hx_NotAMesh ?hk_NotAMesh ?hs_NotAMesh ?ht_NotAMesh ?hi_NotAMesh ?hss_NotAMesh ?hxg_NotAMesh ?hxk_NotAMesh ?hxd_NotAMesh ?hxa_NotAMesh ?hxm_NotAMesh ?hki_NotAMesh_NotAMesh ?hki_NotAMesh_BadLine ?hki_NotAMesh_UnknownName ?hki_NotAMesh_WrongKind ?hki_NotAMesh_FactFails ?hki_NotAMesh_Broken ?hki_NotAMesh_NeverGiven ?hki_NotAMesh_Breaks ?hki_NotAMesh_UnknownDeed ?hki_NotAMesh_UnknownMark ?hki_NotAMesh_NothingToUndo ?hki_NotAMesh_MeshError ?hki_NotAMesh_ValueError ?hk_BadLine ?hs_BadLine ?ht_BadLine ?hi_BadLine ?hss_BadLine ?hxg_BadLine ?hxk_BadLine ?hxd_BadLine ?hxa_BadLine ?hxm_BadLine ?hox_BadLine ?hsa_BadLine ?hini_BadLine ?htin_BadLine ?hna_BadLine_line ?hki_BadLine_NotAMesh ?hki_BadLine_BadLine ?hki_BadLine_UnknownName ?hki_BadLine_WrongKind ?hki_BadLine_FactFails ?hki_BadLine_Broken ?hki_BadLine_NeverGiven ?hki_BadLine_Breaks ?hki_BadLine_UnknownDeed ?hki_BadLine_UnknownMark ?hki_BadLine_NothingToUndo ?hki_BadLine_MeshError ?hki_BadLine_ValueError ?hk_UnknownName ?hs_UnknownName ?ht_UnknownName ?hi_UnknownName ?hss_UnknownName ?hxg_UnknownName ?hxk_UnknownName ?hxd_UnknownName ?hxa_UnknownName ?hxm_UnknownName ?hox_UnknownName ?hsa_UnknownName ?hini_UnknownName ?htin_UnknownName ?hna_UnknownName_line ?hna_UnknownName_name ?hki_UnknownName_NotAMesh ?hki_UnknownName_BadLine ?hki_UnknownName_UnknownName ?hki_UnknownName_WrongKind ?hki_UnknownName_FactFails ?hki_UnknownName_Broken ?hki_UnknownName_NeverGiven ?hki_UnknownName_Breaks ?hki_UnknownName_UnknownDeed ?hki_UnknownName_UnknownMark ?hki_UnknownName_NothingToUndo ?hki_UnknownName_MeshError ?hki_UnknownName_ValueError ?hk_WrongKind ?hs_WrongKind ?ht_WrongKind ?hi_WrongKind ?hss_WrongKind ?hxg_WrongKind ?hxk_WrongKind ?hxd_WrongKind ?hxa_WrongKind ?hxm_WrongKind ?hox_WrongKind ?hsa_WrongKind ?hini_WrongKind ?htin_WrongKind ?hna_WrongKind_line ?hna_WrongKind_name ?hki_WrongKind_NotAMesh ?hki_WrongKind_BadLine ?hki_WrongKind_UnknownName ?hki_WrongKind_WrongKind ?hki_WrongKind_FactFails ?hki_WrongKind_Broken ?hki_WrongKind_NeverGiven ?hki_WrongKind_Breaks ?hki_WrongKind_UnknownDeed ?hki_WrongKind_UnknownMark ?hki_WrongKind_NothingToUndo ?hki_WrongKind_MeshError ?hki_WrongKind_ValueError ?hk_FactFails ?hs_FactFails ?ht_FactFails ?hi_FactFails ?hss_FactFails ?hxg_FactFails ?hxk_FactFails ?hxd_FactFails ?hxa_FactFails ?hxm_FactFails ?hox_FactFails ?hsa_FactFails ?hini_FactFails ?htin_FactFails ?hna_FactFails_line ?hki_FactFails_NotAMesh ?hki_FactFails_BadLine ?hki_FactFails_UnknownName ?hki_FactFails_WrongKind ?hki_FactFails_FactFails ?hki_FactFails_Broken ?hki_FactFails_NeverGiven ?hki_FactFails_Breaks ?hki_FactFails_UnknownDeed ?hki_FactFails_UnknownMark ?hki_FactFails_NothingToUndo ?hki_FactFails_MeshError ?hki_FactFails_ValueError ?hk_Broken ?hs_Broken ?ht_Broken ?hi_Broken ?hss_Broken ?hxg_Broken ?hxk_Broken ?hxd_Broken ?hxa_Broken ?hxm_Broken ?hox_Broken ?hsa_Broken ?hini_Broken ?htin_Broken ?hna_Broken_fault ?hna_Broken_line ?hki_Broken_NotAMesh ?hki_Broken_BadLine ?hki_Broken_UnknownName ?hki_Broken_WrongKind ?hki_Broken_FactFails ?hki_Broken_Broken ?hki_Broken_NeverGiven ?hki_Broken_Breaks ?hki_Broken_UnknownDeed ?hki_Broken_UnknownMark ?hki_Broken_NothingToUndo ?hki_Broken_MeshError ?hki_Broken_ValueError ?hx_NeverGiven ?hk_NeverGiven ?hs_NeverGiven ?ht_NeverGiven ?hi_NeverGiven ?hss_NeverGiven ?hxg_NeverGiven ?hxk_NeverGiven ?hxd_NeverGiven ?hxa_NeverGiven ?hxm_NeverGiven ?hki_NeverGiven_NotAMesh ?hki_NeverGiven_BadLine ?hki_NeverGiven_UnknownName ?hki_NeverGiven_WrongKind ?hki_NeverGiven_FactFails ?hki_NeverGiven_Broken ?hki_NeverGiven_NeverGiven ?hki_NeverGiven_Breaks ?hki_NeverGiven_UnknownDeed ?hki_NeverGiven_UnknownMark ?hki_NeverGiven_NothingToUndo ?hki_NeverGiven_MeshError ?hki_NeverGiven_ValueError ?hk_Breaks ?hs_Breaks ?ht_Breaks ?hi_Breaks ?hss_Breaks ?hxg_Breaks ?hxk_Breaks ?hxd_Breaks ?hxa_Breaks ?hxm_Breaks ?hox_Breaks ?hsa_Breaks ?hini_Breaks ?htin_Breaks ?hna_Breaks_mesh ?hna_Breaks_halves ?hki_Breaks_NotAMesh ?hki_Breaks_BadLine ?hki_Breaks_UnknownName ?hki_Breaks_WrongKind ?hki_Breaks_FactFails ?hki_Breaks_Broken ?hki_Breaks_NeverGiven ?hki_Breaks_Breaks ?hki_Breaks_UnknownDeed ?hki_Breaks_UnknownMark ?hki_Breaks_NothingToUndo ?hki_Breaks_MeshError ?hki_Breaks_ValueError ?hk_UnknownDeed ?hs_UnknownDeed ?ht_UnknownDeed ?hi_UnknownDeed ?hss_UnknownDeed ?hxg_UnknownDeed ?hxk_UnknownDeed ?hxd_UnknownDeed ?hxa_UnknownDeed ?hxm_UnknownDeed ?hox_UnknownDeed ?hsa_UnknownDeed ?hini_UnknownDeed ?htin_UnknownDeed ?hna_UnknownDeed_name ?hki_UnknownDeed_NotAMesh ?hki_UnknownDeed_BadLine ?hki_UnknownDeed_UnknownName ?hki_UnknownDeed_WrongKind ?hki_UnknownDeed_FactFails ?hki_UnknownDeed_Broken ?hki_UnknownDeed_NeverGiven ?hki_UnknownDeed_Breaks ?hki_UnknownDeed_UnknownDeed ?hki_UnknownDeed_UnknownMark ?hki_UnknownDeed_NothingToUndo ?hki_UnknownDeed_MeshError ?hki_UnknownDeed_ValueError ?hk_UnknownMark ?hs_UnknownMark ?ht_UnknownMark ?hi_UnknownMark ?hss_UnknownMark ?hxg_UnknownMark ?hxk_UnknownMark ?hxd_UnknownMark ?hxa_UnknownMark ?hxm_UnknownMark ?hox_UnknownMark ?hsa_UnknownMark ?hini_UnknownMark ?htin_UnknownMark ?hna_UnknownMark_name ?hki_UnknownMark_NotAMesh ?hki_UnknownMark_BadLine ?hki_UnknownMark_UnknownName ?hki_UnknownMark_WrongKind ?hki_UnknownMark_FactFails ?hki_UnknownMark_Broken ?hki_UnknownMark_NeverGiven ?hki_UnknownMark_Breaks ?hki_UnknownMark_UnknownDeed ?hki_UnknownMark_UnknownMark ?hki_UnknownMark_NothingToUndo ?hki_UnknownMark_MeshError ?hki_UnknownMark_ValueError ?hx_NothingToUndo ?hk_NothingToUndo ?hs_NothingToUndo ?ht_NothingToUndo ?hi_NothingToUndo ?hss_NothingToUndo ?hxg_NothingToUndo ?hxk_NothingToUndo ?hxd_NothingToUndo ?hxa_NothingToUndo ?hxm_NothingToUndo ?hki_NothingToUndo_NotAMesh ?hki_NothingToUndo_BadLine ?hki_NothingToUndo_UnknownName ?hki_NothingToUndo_WrongKind ?hki_NothingToUndo_FactFails ?hki_NothingToUndo_Broken ?hki_NothingToUndo_NeverGiven ?hki_NothingToUndo_Breaks ?hki_NothingToUndo_UnknownDeed ?hki_NothingToUndo_UnknownMark ?hki_NothingToUndo_NothingToUndo ?hki_NothingToUndo_MeshError ?hki_NothingToUndo_ValueError ?pg_Mesh ?hd_Mesh ?po_Mesh ?sa_Mesh ?mk_Mesh ?kc_Mesh ?hn_Mesh_following ?hn_Mesh_preceding ?hnf_list ?hnf_int ?hxa_Mesh ?hxm_Mesh ?hki_list_Mesh ?hki_int_Mesh ?hz_ValueError ?hz_abs ?hz_all ?hz_bool ?hz_enumerate ?hz_int ?hz_isinstance ?hz_len ?hz_list ?hz_range ?hz_sorted ?hoc_get ?hoc_tak
    (case aC_MeshError => k_is)
    (case aC_NotAMesh => k_is)
    (case aC_BadLine => k_is)
    (case aC_UnknownName => k_is)
    (case aC_WrongKind => k_is)
    (case aC_FactFails => k_is)
    (case aC_Broken => k_is)
    (case aC_NeverGiven => k_is)
    (case aC_Breaks => k_is)
    (case aC_UnknownDeed => k_is)
    (case aC_UnknownMark => k_is)
    (case aC_NothingToUndo => k_is)
    (case aC_Mesh => k_is)
    (case a1 => k_is)
    (case i1 => k_is)
    (case l1 => k_is)
    (case c1 => k_is)
    (case k1 => k_is)
    (case a2 => k_is)
    (case i2 => k_is)
    (case l2 => k_is)
    (case c2 => k_is)
    (case k2 => k_is)
    (case a3 => k_is)
    (case i3 => k_is)
    (case l3 => k_is)
    (case c3 => k_is)
    (case k3 => k_is)
    (case a4 => k_is)
    (case i4 => k_is)
    (case l4 => k_is)
    (case c4 => k_is)
    (case k4 => k_is)
    (case a5 => k_is)
    (case i5 => k_is)
    (case l5 => k_is)
    (case c5 => k_is)
    (case k5 => k_is)
    (case a6 => k_is)
    (case i6 => k_is)
    (case l6 => k_is)
    (case c6 => k_is)
    (case k6 => k_is)
    (case a7 => k_is)
    (case i7 => k_is)
    (case l7 => k_is)
    (case c7 => k_is)
    (case k7 => k_is)
    (case a8 => k_is)
    (case i8 => k_is)
    (case l8 => k_is)
    (case c8 => k_is)
    (case k8 => k_is)
    (case a9 => k_is)
    (case l9 => k_is)
    (case c9 => k_is)
    (case k9 => k_is)
    (case a10 => k_is)
    (case i10 => k_is)
    (case l10 => k_is)
    (case c10 => k_is)
    (case k10 => k_is)
    (case a11 => k_is)
    (case i11 => k_is)
    (case l11 => k_is)
    (case c11 => k_is)
    (case k11 => k_is)
    (case a12 => k_is)
    (case i12 => k_is)
    (case l12 => k_is)
    (case c12 => k_is)
    (case k12 => k_is)
    (case a13 => k_is)
    (case i13 => k_is)
    (case l13 => k_is)
    (case c13 => k_is)
    (case k13 => k_is)
    (case a14 => k_is)
    (case i14 => k_is)
    (case l14 => k_is)
    (case c14 => k_is)
    (case k14 => k_is)
    (case a15 => k_is)
    (case i15 => k_is)
    (case l15 => k_is)
    (case c15 => k_is)
    (case k15 => k_is)
    (case a16 => k_is)
    (case l16 => k_is)
    (case c16 => k_is)
    (case k16 => k_is)
    (case a17 => k_is)
    (case l17 => k_is)
    (case c17 => k_is)
    (case k17 => k_is)
    (case a18 => k_is)
    (case l18 => k_is)
    (case c18 => k_is)
    (case k18 => k_is)
    (case a19 => k_is)
    (case l19 => k_is)
    (case c19 => k_is)
    (case k19 => k_is)
    (case a20 => k_is)
    (case l20 => k_is)
    (case c20 => k_is)
    (case k20 => k_is)
    (case hx_NotAMesh => first | k_exc | k_is)
    (case hk_NotAMesh => first | rfl | k_is)
    (case hs_NotAMesh => first | rfl | k_is)
    (case ht_NotAMesh => first | rfl | k_is)
    (case hi_NotAMesh => first | rfl | k_is)
    (case hss_NotAMesh => first | rfl | k_is)
    (case hxg_NotAMesh => first | rfl | k_is)
    (case hxk_NotAMesh => first | rfl | k_is)
    (case hxd_NotAMesh => first | rfl | k_is)
    (case hxa_NotAMesh => first | rfl | k_is)
    (case hxm_NotAMesh => first | rfl | k_is)
    (case hki_NotAMesh_NotAMesh => first | rfl | k_is)
    (case hki_NotAMesh_BadLine => first | rfl | k_is)
    (case hki_NotAMesh_UnknownName => first | rfl | k_is)
    (case hki_NotAMesh_WrongKind => first | rfl | k_is)
    (case hki_NotAMesh_FactFails => first | rfl | k_is)
    (case hki_NotAMesh_Broken => first | rfl | k_is)
    (case hki_NotAMesh_NeverGiven => first | rfl | k_is)
    (case hki_NotAMesh_Breaks => first | rfl | k_is)
    (case hki_NotAMesh_UnknownDeed => first | rfl | k_is)
    (case hki_NotAMesh_UnknownMark => first | rfl | k_is)
    (case hki_NotAMesh_NothingToUndo => first | rfl | k_is)
    (case hki_NotAMesh_MeshError => first | rfl | k_is)
    (case hki_NotAMesh_ValueError => first | rfl | k_is)
    (case hk_BadLine => first | rfl | k_is)
    (case hs_BadLine => first | rfl | k_is)
    (case ht_BadLine => first | rfl | k_is)
    (case hi_BadLine => first | rfl | k_is)
    (case hss_BadLine => first | rfl | k_is)
    (case hxg_BadLine => first | rfl | k_is)
    (case hxk_BadLine => first | rfl | k_is)
    (case hxd_BadLine => first | rfl | k_is)
    (case hxa_BadLine => first | rfl | k_is)
    (case hxm_BadLine => first | rfl | k_is)
    (case hox_BadLine => first | rfl | k_is)
    (case hsa_BadLine => first | rfl | k_is)
    (case hini_BadLine => first | rfl | k_is)
    (case htin_BadLine => first | rfl | k_is)
    (case hna_BadLine_line => first | rfl | k_is)
    (case hki_BadLine_NotAMesh => first | rfl | k_is)
    (case hki_BadLine_BadLine => first | rfl | k_is)
    (case hki_BadLine_UnknownName => first | rfl | k_is)
    (case hki_BadLine_WrongKind => first | rfl | k_is)
    (case hki_BadLine_FactFails => first | rfl | k_is)
    (case hki_BadLine_Broken => first | rfl | k_is)
    (case hki_BadLine_NeverGiven => first | rfl | k_is)
    (case hki_BadLine_Breaks => first | rfl | k_is)
    (case hki_BadLine_UnknownDeed => first | rfl | k_is)
    (case hki_BadLine_UnknownMark => first | rfl | k_is)
    (case hki_BadLine_NothingToUndo => first | rfl | k_is)
    (case hki_BadLine_MeshError => first | rfl | k_is)
    (case hki_BadLine_ValueError => first | rfl | k_is)
    (case hk_UnknownName => first | rfl | k_is)
    (case hs_UnknownName => first | rfl | k_is)
    (case ht_UnknownName => first | rfl | k_is)
    (case hi_UnknownName => first | rfl | k_is)
    (case hss_UnknownName => first | rfl | k_is)
    (case hxg_UnknownName => first | rfl | k_is)
    (case hxk_UnknownName => first | rfl | k_is)
    (case hxd_UnknownName => first | rfl | k_is)
    (case hxa_UnknownName => first | rfl | k_is)
    (case hxm_UnknownName => first | rfl | k_is)
    (case hox_UnknownName => first | rfl | k_is)
    (case hsa_UnknownName => first | rfl | k_is)
    (case hini_UnknownName => first | rfl | k_is)
    (case htin_UnknownName => first | rfl | k_is)
    (case hna_UnknownName_line => first | rfl | k_is)
    (case hna_UnknownName_name => first | rfl | k_is)
    (case hki_UnknownName_NotAMesh => first | rfl | k_is)
    (case hki_UnknownName_BadLine => first | rfl | k_is)
    (case hki_UnknownName_UnknownName => first | rfl | k_is)
    (case hki_UnknownName_WrongKind => first | rfl | k_is)
    (case hki_UnknownName_FactFails => first | rfl | k_is)
    (case hki_UnknownName_Broken => first | rfl | k_is)
    (case hki_UnknownName_NeverGiven => first | rfl | k_is)
    (case hki_UnknownName_Breaks => first | rfl | k_is)
    (case hki_UnknownName_UnknownDeed => first | rfl | k_is)
    (case hki_UnknownName_UnknownMark => first | rfl | k_is)
    (case hki_UnknownName_NothingToUndo => first | rfl | k_is)
    (case hki_UnknownName_MeshError => first | rfl | k_is)
    (case hki_UnknownName_ValueError => first | rfl | k_is)
    (case hk_WrongKind => first | rfl | k_is)
    (case hs_WrongKind => first | rfl | k_is)
    (case ht_WrongKind => first | rfl | k_is)
    (case hi_WrongKind => first | rfl | k_is)
    (case hss_WrongKind => first | rfl | k_is)
    (case hxg_WrongKind => first | rfl | k_is)
    (case hxk_WrongKind => first | rfl | k_is)
    (case hxd_WrongKind => first | rfl | k_is)
    (case hxa_WrongKind => first | rfl | k_is)
    (case hxm_WrongKind => first | rfl | k_is)
    (case hox_WrongKind => first | rfl | k_is)
    (case hsa_WrongKind => first | rfl | k_is)
    (case hini_WrongKind => first | rfl | k_is)
    (case htin_WrongKind => first | rfl | k_is)
    (case hna_WrongKind_line => first | rfl | k_is)
    (case hna_WrongKind_name => first | rfl | k_is)
    (case hki_WrongKind_NotAMesh => first | rfl | k_is)
    (case hki_WrongKind_BadLine => first | rfl | k_is)
    (case hki_WrongKind_UnknownName => first | rfl | k_is)
    (case hki_WrongKind_WrongKind => first | rfl | k_is)
    (case hki_WrongKind_FactFails => first | rfl | k_is)
    (case hki_WrongKind_Broken => first | rfl | k_is)
    (case hki_WrongKind_NeverGiven => first | rfl | k_is)
    (case hki_WrongKind_Breaks => first | rfl | k_is)
    (case hki_WrongKind_UnknownDeed => first | rfl | k_is)
    (case hki_WrongKind_UnknownMark => first | rfl | k_is)
    (case hki_WrongKind_NothingToUndo => first | rfl | k_is)
    (case hki_WrongKind_MeshError => first | rfl | k_is)
    (case hki_WrongKind_ValueError => first | rfl | k_is)
    (case hk_FactFails => first | rfl | k_is)
    (case hs_FactFails => first | rfl | k_is)
    (case ht_FactFails => first | rfl | k_is)
    (case hi_FactFails => first | rfl | k_is)
    (case hss_FactFails => first | rfl | k_is)
    (case hxg_FactFails => first | rfl | k_is)
    (case hxk_FactFails => first | rfl | k_is)
    (case hxd_FactFails => first | rfl | k_is)
    (case hxa_FactFails => first | rfl | k_is)
    (case hxm_FactFails => first | rfl | k_is)
    (case hox_FactFails => first | rfl | k_is)
    (case hsa_FactFails => first | rfl | k_is)
    (case hini_FactFails => first | rfl | k_is)
    (case htin_FactFails => first | rfl | k_is)
    (case hna_FactFails_line => first | rfl | k_is)
    (case hki_FactFails_NotAMesh => first | rfl | k_is)
    (case hki_FactFails_BadLine => first | rfl | k_is)
    (case hki_FactFails_UnknownName => first | rfl | k_is)
    (case hki_FactFails_WrongKind => first | rfl | k_is)
    (case hki_FactFails_FactFails => first | rfl | k_is)
    (case hki_FactFails_Broken => first | rfl | k_is)
    (case hki_FactFails_NeverGiven => first | rfl | k_is)
    (case hki_FactFails_Breaks => first | rfl | k_is)
    (case hki_FactFails_UnknownDeed => first | rfl | k_is)
    (case hki_FactFails_UnknownMark => first | rfl | k_is)
    (case hki_FactFails_NothingToUndo => first | rfl | k_is)
    (case hki_FactFails_MeshError => first | rfl | k_is)
    (case hki_FactFails_ValueError => first | rfl | k_is)
    (case hk_Broken => first | rfl | k_is)
    (case hs_Broken => first | rfl | k_is)
    (case ht_Broken => first | rfl | k_is)
    (case hi_Broken => first | rfl | k_is)
    (case hss_Broken => first | rfl | k_is)
    (case hxg_Broken => first | rfl | k_is)
    (case hxk_Broken => first | rfl | k_is)
    (case hxd_Broken => first | rfl | k_is)
    (case hxa_Broken => first | rfl | k_is)
    (case hxm_Broken => first | rfl | k_is)
    (case hox_Broken => first | rfl | k_is)
    (case hsa_Broken => first | rfl | k_is)
    (case hini_Broken => first | rfl | k_is)
    (case htin_Broken => first | rfl | k_is)
    (case hna_Broken_fault => first | rfl | k_is)
    (case hna_Broken_line => first | rfl | k_is)
    (case hki_Broken_NotAMesh => first | rfl | k_is)
    (case hki_Broken_BadLine => first | rfl | k_is)
    (case hki_Broken_UnknownName => first | rfl | k_is)
    (case hki_Broken_WrongKind => first | rfl | k_is)
    (case hki_Broken_FactFails => first | rfl | k_is)
    (case hki_Broken_Broken => first | rfl | k_is)
    (case hki_Broken_NeverGiven => first | rfl | k_is)
    (case hki_Broken_Breaks => first | rfl | k_is)
    (case hki_Broken_UnknownDeed => first | rfl | k_is)
    (case hki_Broken_UnknownMark => first | rfl | k_is)
    (case hki_Broken_NothingToUndo => first | rfl | k_is)
    (case hki_Broken_MeshError => first | rfl | k_is)
    (case hki_Broken_ValueError => first | rfl | k_is)
    (case hx_NeverGiven => first | k_exc | k_is)
    (case hk_NeverGiven => first | rfl | k_is)
    (case hs_NeverGiven => first | rfl | k_is)
    (case ht_NeverGiven => first | rfl | k_is)
    (case hi_NeverGiven => first | rfl | k_is)
    (case hss_NeverGiven => first | rfl | k_is)
    (case hxg_NeverGiven => first | rfl | k_is)
    (case hxk_NeverGiven => first | rfl | k_is)
    (case hxd_NeverGiven => first | rfl | k_is)
    (case hxa_NeverGiven => first | rfl | k_is)
    (case hxm_NeverGiven => first | rfl | k_is)
    (case hki_NeverGiven_NotAMesh => first | rfl | k_is)
    (case hki_NeverGiven_BadLine => first | rfl | k_is)
    (case hki_NeverGiven_UnknownName => first | rfl | k_is)
    (case hki_NeverGiven_WrongKind => first | rfl | k_is)
    (case hki_NeverGiven_FactFails => first | rfl | k_is)
    (case hki_NeverGiven_Broken => first | rfl | k_is)
    (case hki_NeverGiven_NeverGiven => first | rfl | k_is)
    (case hki_NeverGiven_Breaks => first | rfl | k_is)
    (case hki_NeverGiven_UnknownDeed => first | rfl | k_is)
    (case hki_NeverGiven_UnknownMark => first | rfl | k_is)
    (case hki_NeverGiven_NothingToUndo => first | rfl | k_is)
    (case hki_NeverGiven_MeshError => first | rfl | k_is)
    (case hki_NeverGiven_ValueError => first | rfl | k_is)
    (case hk_Breaks => first | rfl | k_is)
    (case hs_Breaks => first | rfl | k_is)
    (case ht_Breaks => first | rfl | k_is)
    (case hi_Breaks => first | rfl | k_is)
    (case hss_Breaks => first | rfl | k_is)
    (case hxg_Breaks => first | rfl | k_is)
    (case hxk_Breaks => first | rfl | k_is)
    (case hxd_Breaks => first | rfl | k_is)
    (case hxa_Breaks => first | rfl | k_is)
    (case hxm_Breaks => first | rfl | k_is)
    (case hox_Breaks => first | rfl | k_is)
    (case hsa_Breaks => first | rfl | k_is)
    (case hini_Breaks => first | rfl | k_is)
    (case htin_Breaks => first | rfl | k_is)
    (case hna_Breaks_mesh => first | rfl | k_is)
    (case hna_Breaks_halves => first | rfl | k_is)
    (case hki_Breaks_NotAMesh => first | rfl | k_is)
    (case hki_Breaks_BadLine => first | rfl | k_is)
    (case hki_Breaks_UnknownName => first | rfl | k_is)
    (case hki_Breaks_WrongKind => first | rfl | k_is)
    (case hki_Breaks_FactFails => first | rfl | k_is)
    (case hki_Breaks_Broken => first | rfl | k_is)
    (case hki_Breaks_NeverGiven => first | rfl | k_is)
    (case hki_Breaks_Breaks => first | rfl | k_is)
    (case hki_Breaks_UnknownDeed => first | rfl | k_is)
    (case hki_Breaks_UnknownMark => first | rfl | k_is)
    (case hki_Breaks_NothingToUndo => first | rfl | k_is)
    (case hki_Breaks_MeshError => first | rfl | k_is)
    (case hki_Breaks_ValueError => first | rfl | k_is)
    (case hk_UnknownDeed => first | rfl | k_is)
    (case hs_UnknownDeed => first | rfl | k_is)
    (case ht_UnknownDeed => first | rfl | k_is)
    (case hi_UnknownDeed => first | rfl | k_is)
    (case hss_UnknownDeed => first | rfl | k_is)
    (case hxg_UnknownDeed => first | rfl | k_is)
    (case hxk_UnknownDeed => first | rfl | k_is)
    (case hxd_UnknownDeed => first | rfl | k_is)
    (case hxa_UnknownDeed => first | rfl | k_is)
    (case hxm_UnknownDeed => first | rfl | k_is)
    (case hox_UnknownDeed => first | rfl | k_is)
    (case hsa_UnknownDeed => first | rfl | k_is)
    (case hini_UnknownDeed => first | rfl | k_is)
    (case htin_UnknownDeed => first | rfl | k_is)
    (case hna_UnknownDeed_name => first | rfl | k_is)
    (case hki_UnknownDeed_NotAMesh => first | rfl | k_is)
    (case hki_UnknownDeed_BadLine => first | rfl | k_is)
    (case hki_UnknownDeed_UnknownName => first | rfl | k_is)
    (case hki_UnknownDeed_WrongKind => first | rfl | k_is)
    (case hki_UnknownDeed_FactFails => first | rfl | k_is)
    (case hki_UnknownDeed_Broken => first | rfl | k_is)
    (case hki_UnknownDeed_NeverGiven => first | rfl | k_is)
    (case hki_UnknownDeed_Breaks => first | rfl | k_is)
    (case hki_UnknownDeed_UnknownDeed => first | rfl | k_is)
    (case hki_UnknownDeed_UnknownMark => first | rfl | k_is)
    (case hki_UnknownDeed_NothingToUndo => first | rfl | k_is)
    (case hki_UnknownDeed_MeshError => first | rfl | k_is)
    (case hki_UnknownDeed_ValueError => first | rfl | k_is)
    (case hk_UnknownMark => first | rfl | k_is)
    (case hs_UnknownMark => first | rfl | k_is)
    (case ht_UnknownMark => first | rfl | k_is)
    (case hi_UnknownMark => first | rfl | k_is)
    (case hss_UnknownMark => first | rfl | k_is)
    (case hxg_UnknownMark => first | rfl | k_is)
    (case hxk_UnknownMark => first | rfl | k_is)
    (case hxd_UnknownMark => first | rfl | k_is)
    (case hxa_UnknownMark => first | rfl | k_is)
    (case hxm_UnknownMark => first | rfl | k_is)
    (case hox_UnknownMark => first | rfl | k_is)
    (case hsa_UnknownMark => first | rfl | k_is)
    (case hini_UnknownMark => first | rfl | k_is)
    (case htin_UnknownMark => first | rfl | k_is)
    (case hna_UnknownMark_name => first | rfl | k_is)
    (case hki_UnknownMark_NotAMesh => first | rfl | k_is)
    (case hki_UnknownMark_BadLine => first | rfl | k_is)
    (case hki_UnknownMark_UnknownName => first | rfl | k_is)
    (case hki_UnknownMark_WrongKind => first | rfl | k_is)
    (case hki_UnknownMark_FactFails => first | rfl | k_is)
    (case hki_UnknownMark_Broken => first | rfl | k_is)
    (case hki_UnknownMark_NeverGiven => first | rfl | k_is)
    (case hki_UnknownMark_Breaks => first | rfl | k_is)
    (case hki_UnknownMark_UnknownDeed => first | rfl | k_is)
    (case hki_UnknownMark_UnknownMark => first | rfl | k_is)
    (case hki_UnknownMark_NothingToUndo => first | rfl | k_is)
    (case hki_UnknownMark_MeshError => first | rfl | k_is)
    (case hki_UnknownMark_ValueError => first | rfl | k_is)
    (case hx_NothingToUndo => first | k_exc | k_is)
    (case hk_NothingToUndo => first | rfl | k_is)
    (case hs_NothingToUndo => first | rfl | k_is)
    (case ht_NothingToUndo => first | rfl | k_is)
    (case hi_NothingToUndo => first | rfl | k_is)
    (case hss_NothingToUndo => first | rfl | k_is)
    (case hxg_NothingToUndo => first | rfl | k_is)
    (case hxk_NothingToUndo => first | rfl | k_is)
    (case hxd_NothingToUndo => first | rfl | k_is)
    (case hxa_NothingToUndo => first | rfl | k_is)
    (case hxm_NothingToUndo => first | rfl | k_is)
    (case hki_NothingToUndo_NotAMesh => first | rfl | k_is)
    (case hki_NothingToUndo_BadLine => first | rfl | k_is)
    (case hki_NothingToUndo_UnknownName => first | rfl | k_is)
    (case hki_NothingToUndo_WrongKind => first | rfl | k_is)
    (case hki_NothingToUndo_FactFails => first | rfl | k_is)
    (case hki_NothingToUndo_Broken => first | rfl | k_is)
    (case hki_NothingToUndo_NeverGiven => first | rfl | k_is)
    (case hki_NothingToUndo_Breaks => first | rfl | k_is)
    (case hki_NothingToUndo_UnknownDeed => first | rfl | k_is)
    (case hki_NothingToUndo_UnknownMark => first | rfl | k_is)
    (case hki_NothingToUndo_NothingToUndo => first | rfl | k_is)
    (case hki_NothingToUndo_MeshError => first | rfl | k_is)
    (case hki_NothingToUndo_ValueError => first | rfl | k_is)
    (case pg_Mesh => k_is)
    (case hd_Mesh => k_is)
    (case po_Mesh => k_is)
    (case sa_Mesh => k_is)
    (case mk_Mesh => k_is)
    (case kc_Mesh => k_is)
    (case hn_Mesh_following => k_is)
    (case hn_Mesh_preceding => k_is)
    (case hnf_list => first | rfl | k_is)
    (case hnf_int => first | rfl | k_is)
    (case hxa_Mesh => first | rfl | k_is)
    (case hxm_Mesh => first | rfl | k_is)
    (case hki_list_Mesh => first | rfl | k_is)
    (case hki_int_Mesh => first | rfl | k_is)
    (case hz_ValueError => k_is)
    (case hz_abs => k_is)
    (case hz_all => k_is)
    (case hz_bool => k_is)
    (case hz_enumerate => k_is)
    (case hz_int => k_is)
    (case hz_isinstance => k_is)
    (case hz_len => k_is)
    (case hz_list => k_is)
    (case hz_range => k_is)
    (case hz_sorted => k_is)
    (case hoc_get => first | rfl | k_is)
    (case hoc_tak => first | rfl | k_is)
