import PyProof.Rows.All
import Wide.All
import OpenK.AllK
import Wide.FinOn
import PyProof.EqAt
import PyProof.EqKinds
import PyProof.TupleCall
import HandS.ForMost
import HandS.Walk
import HandS.Conv
import HandS.IsInst
import HandS.ForExc
import HandS.NoneIn
import HandS.Property
import HandS.Flt
import HandS.ExcIs
import HandS.TryMany
import HandS.ExcInit
import HandS.ExcField
import HandS.Codes
import HandS.More
import HandS.Star
import HandS.CallSlots
import PySem.Challenge.RW_halfmeshes_k14_texts_of_meshes

set_option Elab.async false
set_option linter.all false
set_option maxRecDepth 100000
set_option maxHeartbeats 4000000
namespace RD
open PySem PySem.Spec PyProof.Rows L2
section
variable {σ s : L2.St} {H : Hp} {Q : VK} {nx bk ct : L2.St → Hp → Prop} {rt : VK} {te ta tb tc : TE} {t u : TS} {c c2 : TT} {v x : V} {ox : Option V} {i : Nat} {QB : Bool → Hp → Prop}
theorem seq (h : t ⟨u ⟨nx, rt, bk, ct⟩, rt, bk, ct⟩ σ H) : tSeq t u ⟨nx, rt, bk, ct⟩ σ H := h
theorem asg {g : TG} (h : te σ H fun x H1 => g x σ H1 nx) : tAsg te g ⟨nx, rt, bk, ct⟩ σ H := h
theorem ret (h : te σ H rt) : tRet te ⟨nx, rt, bk, ct⟩ σ H := h
theorem retN (h : rt .non H) : tRetN ⟨nx, rt, bk, ct⟩ σ H := h
theorem drp (h : te σ H fun _ H1 => nx σ H1) : tDrop te ⟨nx, rt, bk, ct⟩ σ H := h
theorem ifs (h : c σ H fun b H1 => if b = true then t ⟨nx, rt, bk, ct⟩ σ H1 else u ⟨nx, rt, bk, ct⟩ σ H1) : tIfS c t u ⟨nx, rt, bk, ct⟩ σ H := h
theorem nxt (h : nx σ H) : tNext ⟨nx, rt, bk, ct⟩ σ H := h
theorem brk (h : bk σ H) : tBreak ⟨nx, rt, bk, ct⟩ σ H := h
theorem cnt (h : ct σ H) : tCont ⟨nx, rt, bk, ct⟩ σ H := h
theorem aug {ti : TIp} (h : tVar i σ H fun x _ => te σ H fun y H1 => ti x y H1 fun z H2 => gName i z σ H2 nx) : tAug i te ti ⟨nx, rt, bk, ct⟩ σ H := h
theorem gn0 {QG : L2.St → Hp → Prop} (h : QG (some v :: s) H) : gName 0 v (ox :: s) H QG := h
theorem gnS {QG : L2.St → Hp → Prop} (h : gName i v s H fun s' H' => QG (ox :: s') H') : gName (i + 1) v (ox :: s) H QG := h
theorem var0 (h : Q v H) : tVar 0 (some v :: s) H Q := ⟨v, rfl, h⟩
theorem varS (h : tVar i s H Q) : tVar (i + 1) (ox :: s) H Q := by
  obtain ⟨v, e, q⟩ := h
  exact ⟨v, by simpa using e, q⟩
theorem cst (h : Q v H) : tC v σ H Q := h
theorem op {r : R2} (h : ta σ H fun x H1 => tb σ H1 fun y H2 => r x y H2 Q) : tOp r ta tb σ H Q := h
theorem un {r : V → Hp → VK → Prop} (h : ta σ H fun x H1 => r x H1 Q) : tUn r ta σ H Q := h
theorem i0 {g : Int → Int → V} {a b : Int} (h : Q (g a b) H) : rI0 g (.int a) (.int b) H Q := ⟨a, b, rfl, rfl, h⟩
theorem iC {C : Int → Int → Prop} {g : Int → Int → V} {a b : Int} (hc : C a b) (h : Q (g a b) H) : rI C g (.int a) (.int b) H Q := ⟨a, b, rfl, rfl, hc, h⟩
theorem u0 {g : Int → V} {a : Int} (h : Q (g a) H) : rU g (.int a) H Q := ⟨a, rfl, h⟩
theorem dI {a b : Int} : decide (V.int a = V.int b) = decide (a = b) := by
  by_cases e : a = b
  · rw [decide_eq_true e, e, decide_eq_true rfl]
  · rw [decide_eq_false e, decide_eq_false fun z => e (V.int.inj z)]
theorem dB {a b : Bool} : decide (V.bl a = V.bl b) = decide (a = b) := by
  by_cases e : a = b
  · rw [decide_eq_true e, e, decide_eq_true rfl]
  · rw [decide_eq_false e, decide_eq_false fun z => e (V.bl.inj z)]
theorem dS {a b : Str} : decide (V.str a = V.str b) = decide (a = b) := by
  by_cases e : a = b
  · rw [decide_eq_true e, e, decide_eq_true rfl]
  · rw [decide_eq_false e, decide_eq_false fun z => e (V.str.inj z)]
theorem eqI {a b : Int} (h : Q (.bl (decide (a = b))) H) : rEq (.int a) (.int b) H Q := ⟨rfl, by rw [dI]; exact h⟩
theorem neI {a b : Int} (h : Q (.bl (!decide (a = b))) H) : rNe (.int a) (.int b) H Q := ⟨rfl, by rw [dI]; exact h⟩
theorem eqB {a b : Bool} (h : Q (.bl (decide (a = b))) H) : rEq (.bl a) (.bl b) H Q := ⟨rfl, by rw [dB]; exact h⟩
theorem neB {a b : Bool} (h : Q (.bl (!decide (a = b))) H) : rNe (.bl a) (.bl b) H Q := ⟨rfl, by rw [dB]; exact h⟩
theorem eqS {a b : Str} (h : Q (.bl (decide (a = b))) H) : rEq (.str a) (.str b) H Q := ⟨rfl, by rw [dS]; exact h⟩
theorem neS {a b : Str} (h : Q (.bl (!decide (a = b))) H) : rNe (.str a) (.str b) H Q := ⟨rfl, by rw [dS]; exact h⟩
theorem tst (h : te σ H fun x H' => ∃ k, x = .bl k ∧ QB k H') : tTest te σ H QB := h
theorem tb' (h : te σ H fun x H' => ∃ k, x = .bl k ∧ QB k H') : tB te σ H QB := h
theorem exb {b : Bool} {P : Bool → Prop} (h : P b) : ∃ k, V.bl b = .bl k ∧ P k := ⟨b, rfl, h⟩
theorem and (h : c σ H fun b H1 => if b = true then c2 σ H1 QB else QB false H1) : tAnd c c2 σ H QB := h
theorem or (h : c σ H fun b H1 => if b = true then QB true H1 else c2 σ H1 QB) : tOr c c2 σ H QB := h
theorem not (h : c σ H fun b H1 => QB (!b) H1) : tNot c σ H QB := h
theorem andV (h : ta σ H fun x H1 => ∃ k, x = .bl k ∧ if k = true then tb σ H1 Q else Q (.bl false) H1) : tAndV ta tb σ H Q := h
theorem orV (h : ta σ H fun x H1 => ∃ k, x = .bl k ∧ if k = true then Q (.bl true) H1 else tb σ H1 Q) : tOrV ta tb σ H Q := h
theorem notV (h : ta σ H fun x H1 => ∃ k, x = .bl k ∧ Q (.bl (!k)) H1) : tNotV ta σ H Q := h
theorem tif (h : c σ H fun b H1 => if b = true then ta σ H1 Q else tb σ H1 Q) : tIf c ta tb σ H Q := h
theorem yes (h : QB true H) : tYes σ H QB := h
theorem chain {r r' : R2} (h : ta σ H fun x H1 => tb σ H1 fun y H2 => r x y H2 fun z H3 => ∃ k, z = .bl k ∧ (if k = true then tc σ H3 fun w' H4 => r' y w' H4 Q else Q (.bl false) H3)) : tChain r r' ta tb tc σ H Q := h
theorem nil {QA : List V → Hp → Prop} (h : QA [] H) : tNil σ H QA := h
theorem cons {QA : List V → Hp → Prop} {tr : TA} (h : ta σ H fun x H1 => tr σ H1 fun xs H2 => QA (x :: xs) H2) : tCons ta tr σ H QA := h
theorem cb {r : List V → Hp → VK → Prop} {tr : TA} (h : tr σ H fun vs H1 => r vs H1 Q) : tCB r tr σ H Q := h
theorem call {sp : Sp} {dvs : List V} {E : XK} {tr : TA} (h : tr σ H fun vs H1 => sp (vs ++ dvs) H1 Q E) : tCall sp dvs E tr σ H Q := h
theorem tup {tr : TA} (h : tr σ H fun xs H1 => xs.length ≤ sizeLine ∧ ∀ p, H1 p = none → Q (.ref p) (upd H1 p (.tup xs))) : tTup tr σ H Q := h
theorem lst {tr : TA} (h : tr σ H fun xs H1 => xs.length ≤ sizeLine ∧ ∀ p, H1 p = none → Q (.ref p) (upd H1 p (.lst xs))) : tLst tr σ H Q := h
theorem sl {r : V → Option Int → Option Int → Hp → VK → Prop} {tl th : TO} (h : te σ H fun x H1 => tl σ H1 fun l H2 => th σ H2 fun u H3 => r x l u H3 Q) : L2.tSl r te tl th σ H Q := h
theorem nop {QO : Option Int → Hp → Prop} (h : QO none H) : tNoPart σ H QO := h
theorem prt {QO : Option Int → Hp → Prop} (h : te σ H fun x H1 => ∃ i, x = .int i ∧ QO (some i) H1) : tPart te σ H QO := h
theorem exi {a : Int} {P : Int → Prop} (h : P a) : ∃ k, V.int a = .int k ∧ P k := ⟨a, rfl, h⟩
theorem bm {K : PySem.W.Frag} {Ty : String} {r : V → List V → Hp → VK → Prop} {tr : TA} (h : te σ H fun x H1 => tyV K Ty x H1 ∧ tr σ H1 fun xs H2 => r x xs H2 Q) : tBM K Ty r te tr σ H Q := h
theorem bm0 {K : PySem.W.Frag} {Ty : String} {r : V → List V → Hp → VK → Prop} (h : te σ H fun x H1 => tyV K Ty x H1 ∧ r x [] H1 Q) : tBM0 K Ty r te σ H Q := h
theorem fld {K : PySem.W.Frag} {f : Str} (h : ta σ H fun x H1 => ∃ a C dx fs v, x = .ref a ∧ H1 a = some (.ins C dx fs) ∧ Cls K C ∧ NoAttr K C f ∧ fs.lookup f = some v ∧ Q v H1) : tFld K ta f σ H Q := h
theorem meth {C : Addr} {m : Str} {sp : Sp} {dvs : List V} {E : XK} {tr : TA} (h : ta σ H fun x H1 => ∃ a dx fs, x = .ref a ∧ H1 a = some (.ins C dx fs) ∧ fs.lookup m = none ∧ tr σ H1 fun vs H2 => sp (x :: (vs ++ dvs)) H2 Q E) : tMeth C m sp dvs E ta tr σ H Q := h
def MKE (C : Addr) (sp : Sp) (dvs : List V) (E : XK) (vs : List V) (H1 : Hp) (Q : VK) : Prop := ∀ x dx, H1 x = none → H1 dx = none → dx ≠ x → sp (.ref x :: (vs ++ dvs)) (upd (upd H1 dx (.own x)) x (.ins C dx [])) (fun v H2 => v = .non ∧ Q (.ref x) H2) E
theorem make {C : Addr} {sp : Sp} {dvs : List V} {E : XK} {tr : TA} (h : tr σ H fun vs H1 => MKE C sp dvs E vs H1 Q) : tMake C sp dvs E tr σ H Q := h
theorem dput {td ty tv : TE} (h : tv σ H fun v H1 => td σ H1 fun x H2 => ty σ H2 fun y H3 => ∃ a H4, x = .ref a ∧ DPut H3 a y v H4 ∧ nx σ H4) : sDPut td ty tv ⟨nx, rt, bk, ct⟩ σ H := h
theorem dget {td ty : TE} (h : td σ H fun x H1 => ty σ H1 fun y H2 => ∃ a v, x = .ref a ∧ DGet H2 a y (some v) ∧ Q v H2) : tDGet td ty σ H Q := h
theorem din {td ty : TE} (h : ty σ H fun y H1 => td σ H1 fun x H2 => ∃ a o, x = .ref a ∧ DGet H2 a y o ∧ Q (.bl o.isSome) H2) : tDIn ty td σ H Q := h
theorem dnin {td ty : TE} (h : ty σ H fun y H1 => td σ H1 fun x H2 => ∃ a o, x = .ref a ∧ DGet H2 a y o ∧ Q (.bl (!o.isSome)) H2) : tDNotIn ty td σ H Q := h
theorem dnew (h : ∀ p, H p = none → Q (.ref p) (upd H p (.dK []))) : tDNewK σ H Q := h
theorem sfld {K : PySem.W.Frag} {tv : TE} {f : Str} (h : tv σ H fun y H1 => ta σ H1 fun x H2 => ∃ a C dx fs, x = .ref a ∧ H2 a = some (.ins C dx fs) ∧ Cls K C ∧ NoAttr K C f ∧ fs.length < 1000 ∧ nx σ (upd H2 a (.ins C dx (putF f y fs)))) : sFld K ta tv f ⟨nx, rt, bk, ct⟩ σ H := h
theorem lrg {tr : L2.St → Hp → (Int → Int → Hp → Prop) → Prop} (h : tr σ H fun a b H1 => RgOk a b ∧ ∀ q, H1 q = none → Q (.ref q) (upd H1 q (.lst (rgV a b)))) : tLstRg tr σ H Q := h
theorem rg1 {QR : Int → Int → Hp → Prop} (h : ta σ H fun x H1 => ∃ n, x = .int n ∧ QR 0 n H1) : tRg1 ta σ H QR := h
theorem dgetK {a : Addr} {kvs : List (Key × V)} {n : Int} {v : V} (h : H a = some (.dK kvs)) (hv : valV kvs (Sum.inl n : Key) = some v) (q : Q v H) : ∃ a' v', V.ref a = .ref a' ∧ DGet H a' (.int n) (some v') ∧ Q v' H := ⟨a, v, rfl, by rw [← hv]; exact DGet.k (k := Sum.inl n) h, q⟩
theorem rep {a : Addr} {xs : List V} {k : Int} (h : H a = some (.lst xs)) (h1 : -1000000 ≤ k) (h2 : k ≤ 1000000) (hl : xs.length * k.toNat ≤ sizeLine) (q : ∀ p, H p = none → Q (.ref p) (upd H p (.lst (List.replicate k.toNat xs).flatten))) : rRep (.ref a) (.int k) H Q := ⟨a, k, xs, rfl, rfl, h, by omega, by omega, hl, q⟩
/-! tests -/
theorem bT {A B : Prop} (h : A) : if true = true then A else B := iteT h
theorem nbF {A B : Prop} (h : A) : if (!false) = true then A else B := iteT h
theorem nbT {A B : Prop} (h : B) : if (!true) = true then A else B := iteF h
theorem bF {A B : Prop} (h : B) : if false = true then A else B := iteF h
theorem dec {p A B : Prop} [Decidable p] (h1 : p → A) (h2 : ¬ p → B) : if decide p = true then A else B := ite2 (fun e => h1 (of_decide_eq_true e)) fun e => h2 fun z => e (decide_eq_true z)
theorem ndec {p A B : Prop} [Decidable p] (h1 : ¬ p → A) (h2 : p → B) : if (!decide p) = true then A else B := by
  by_cases e : p
  · rw [decide_eq_true e]; exact iteF (h2 e)
  · rw [decide_eq_false e]; exact iteT (h1 e)
theorem decT {p A B : Prop} [Decidable p] (e : p) (h : A) : if decide p = true then A else B := by rw [decide_eq_true e]; exact iteT h
theorem decF {p A B : Prop} [Decidable p] (e : ¬ p) (h : B) : if decide p = true then A else B := by rw [decide_eq_false e]; exact iteF h
theorem ndT {p A B : Prop} [Decidable p] (e : ¬ p) (h : A) : if (!decide p) = true then A else B := by rw [decide_eq_false e]; exact iteT h
theorem ndF {p A B : Prop} [Decidable p] (e : p) (h : B) : if (!decide p) = true then A else B := by rw [decide_eq_true e]; exact iteF h
/-! what is read by values -/
theorem ixL {K : PySem.W.Frag} {a : Addr} {xs : List V} {k : Int} (h : SqL K H a xs) (ha : atI xs k = some v) (q : Q v H) : rIxL K (.ref a) (.int k) H Q := ⟨a, xs, k, v, rfl, rfl, h, ha, q⟩
theorem ixT {K : PySem.W.Frag} {a : Addr} {xs : List V} {k : Int} (h : SqT K H a xs) (ha : atI xs k = some v) (q : Q v H) : rIxT K (.ref a) (.int k) H Q := ⟨a, xs, k, v, rfl, rfl, h, ha, q⟩
theorem setL {a : Addr} {xs : List V} {k : Int} {j : Nat} {QH : Hp → Prop} (h : H a = some (.lst xs)) (hk : ixN xs.length k = some j) (q : QH (upd H a (.lst (xs.set j v)))) : rSetL (.ref a) (.int k) v H QH := ⟨a, xs, k, j, rfl, rfl, h, hk, q⟩
theorem gsub {to ti : TE} {ts : TSet} {QG : L2.St → Hp → Prop} (h : to σ H fun o H1 => ti σ H1 fun i H2 => ts o i v H2 fun H3 => QG σ H3) : gSub to ti ts v σ H QG := h
theorem app {a : Addr} {xs : List V} {y : V} (h : H a = some (.lst xs)) (hl : xs.length < sizeLine) (q : Q .non (upd H a (.lst (xs ++ [y])))) : rAppend (.ref a) [y] H Q := ⟨a, xs, y, rfl, rfl, h, hl, q⟩
theorem cat {a b : Addr} {xs ys : List V} (h : H a = some (.lst xs)) (h' : H b = some (.lst ys)) (hl : xs.length + ys.length ≤ sizeLine) (q : ∀ p, H p = none → Q (.ref p) (upd H p (.lst (xs ++ ys)))) : rCat (.ref a) (.ref b) H Q := ⟨a, b, xs, ys, rfl, rfl, h, h', hl, q⟩
theorem slL {K : PySem.W.Frag} {a : Addr} {xs : List V} {lo hi : Option Int} (h : SqL K H a xs) (q : ∀ p, H p = none → Q (.ref p) (upd H p (.lst (cutV xs lo hi)))) : rSlL K (.ref a) lo hi H Q := ⟨a, xs, rfl, h, q⟩
theorem min1 {K : PySem.W.Frag} {a : Addr} {ns : List Int} (h : SqL K H a (ns.map V.int)) (h0 : 0 < ns.length) (q : ∀ m, m ∈ ns → (∀ y, y ∈ ns → m ≤ y) → Q (.int m) H) : rMin K [.ref a] H Q := ⟨a, ns, rfl, h, h0, q⟩
theorem eqD {K : PySem.W.Frag} {x y : V} {d e : PyData} (h1 : Dp K H x d) (h2 : Dp K H y e) (s1 : SeqAt.shaped d = true) (s2 : SeqAt.shaped e = true) (q : Q (.bl (PyData.eqv d e)) H) : rEqD K x y H Q := ⟨d, e, h1, h2, s1, s2, q⟩
theorem neD {K : PySem.W.Frag} {x y : V} {d e : PyData} (h1 : Dp K H x d) (h2 : Dp K H y e) (s1 : SeqAt.shaped d = true) (s2 : SeqAt.shaped e = true) (q : Q (.bl (!PyData.eqv d e)) H) : rNeD K x y H Q := ⟨d, e, h1, h2, s1, s2, q⟩
theorem tyL {K : PySem.W.Frag} {a : Addr} {xs : List V} (h : SqL K H a xs) : tyV K "list" (.ref a) H := Or.inl ⟨rfl, _, h⟩
theorem gtup2 {K : PySem.W.Frag} {i j : Nat} {T : Addr} {x y : V} {QG : L2.St → Hp → Prop} (h : SqT K H T [x, y]) (q : gName i x σ H fun σ1 H1 => gName j y σ1 H1 QG) : gTup K 2 (gCons (gName i) (gCons (gName j) gNil)) (.ref T) σ H QG := ⟨T, [x, y], rfl, h, rfl, x, [y], rfl, y, [], rfl, rfl, q⟩
/-! loops -/
theorem whl (W : Nat → L2.St → Hp → Prop) (m : Nat) (h0 : W m σ H) (hs : ∀ m σ H, W m σ H → c σ H fun b H1 => if b = true then ∃ N : L2.St → Hp → Prop, (∀ σ' H', N σ' H' → ∃ m', m' < m ∧ W m' σ' H') ∧ t ⟨N, rt, nx, N⟩ σ H1 else nx σ H1) : tWhile c t ⟨nx, rt, bk, ct⟩ σ H := ⟨W, ⟨m, h0⟩, hs⟩
theorem wN {m : Nat} {W : Nat → L2.St → Hp → Prop} (h : t ⟨fun σ' H' => ∃ m', m' < m ∧ W m' σ' H', rt, nx, fun σ' H' => ∃ m', m' < m ∧ W m' σ' H'⟩ σ H) : ∃ N : L2.St → Hp → Prop, (∀ σ' H', N σ' H' → ∃ m', m' < m ∧ W m' σ' H') ∧ t ⟨N, rt, nx, N⟩ σ H := ⟨_, fun _ _ h => h, h⟩
def FR (J : It) (g : TG) (t : TS) (nx : L2.St → Hp → Prop) (rt : VK) (σ : L2.St) (H : Hp) : Prop := ∃ W : Nat → Nat → L2.St → Hp → Prop, (∃ m, W 0 m σ H) ∧ ∀ i m σ H, W i m σ H →
  (J.stop i H ∧ nx σ H) ∨ (J.go i H ∧ ∃ N : L2.St → Hp → Prop, (∀ σ' H', N σ' H' → ∃ m', m' < m ∧ W (i + 1) m' σ' H') ∧ ∀ x H', J.yld i H x H' → g x σ H' fun σ2 H2 => t ⟨N, rt, nx, N⟩ σ2 H2)
def LR (J : It) (g : TG) (tt : TT) (te : TE) (vs : List Nat) (σ : L2.St) (H : Hp) (Q : VK) : Prop := ∀ D, H D = none → ∃ W : Nat → Nat → Hp → Prop, (∃ m, W 0 m (upd H D (.lst []))) ∧ ∀ i m H, W i m H →
  (J.stop i H ∧ Q (.ref D) H) ∨ (J.go i H ∧ ∃ Nx : Hp → Prop, (∀ H', Nx H' → ∃ m', m' < m ∧ W (i + 1) m' H') ∧ ∀ x H', J.yld i H x H' → g x (wipe σ vs) H' fun σ2 H2 => wipe σ2 vs = wipe σ vs ∧ tt σ2 H2 fun b H3 =>
    if b = true then te σ2 H3 fun y H4 => ∃ acc, H4 D = some (.lst acc) ∧ acc.length < sizeLine ∧ Nx (upd H4 D (.lst (acc ++ [y]))) else Nx H3)
theorem for_ {wi : TI} {g : TG} (h : wi σ H fun J H1 => FR J g t nx rt σ H1) : tFor wi g t ⟨nx, rt, bk, ct⟩ σ H := h
theorem lc_ {wi : TI} {g : TG} {tt : TT} {vs : List Nat} (h : wi σ H fun J H1 => LR J g tt te vs σ H1 Q) : tLc wi g tt te vs σ H Q := h
theorem iL {K : PySem.W.Frag} {R : It → Hp → Prop} (h : te σ H fun x H1 => ∃ a, x = .ref a ∧ (∃ xs, SqL K H1 a xs) ∧ R (Itl K a) H1) : iList K te σ H R := h
theorem iT {K : PySem.W.Frag} {R : It → Hp → Prop} (h : te σ H fun x H1 => ∃ a, x = .ref a ∧ (∃ xs, SqT K H1 a xs) ∧ R (Itt K a) H1) : iTup K te σ H R := h
theorem iR1 {tr : TA} {R : It → Hp → Prop} (h : tr σ H fun vs H1 => ∃ j : Int, vs = [.int j] ∧ -(2 ^ 62) ≤ j ∧ j < 2 ^ 62 ∧ R (Itr 0 j.toNat) H1) : iRng1 tr σ H R := h
theorem iR2 {tr : TA} {R : It → Hp → Prop} (h : tr σ H fun vs H1 => ∃ i j : Int, vs = [.int i, .int j] ∧ (-(2 ^ 62) ≤ i ∧ i < 2 ^ 62 ∧ -(2 ^ 62) ≤ j ∧ j < 2 ^ 62) ∧ R (Itr i (j - i).toNat) H1) : iRng2 tr σ H R := h
theorem iE {K : PySem.W.Frag} {tr : TA} {R : It → Hp → Prop} (h : tr σ H fun vs H1 => ∃ a xs, vs = [.ref a] ∧ SqL K H1 a xs ∧ R (Ite K a) H1) : iEnum K tr σ H R := h
theorem iZ {K : PySem.W.Frag} {tr : TA} {R : It → Hp → Prop} (h : tr σ H fun vs H1 => ∃ a b xs ys, vs = [.ref a, .ref b] ∧ SqL K H1 a xs ∧ SqL K H1 b ys ∧ R (Itz K a b) H1) : iZip K tr σ H R := h
theorem iS {R : It → Hp → Prop} (h : te σ H fun v H1 => ∃ x, v = .str x ∧ R (Its x) H1) : iStr te σ H R := h
theorem goL {K : PySem.W.Frag} {g : TG} {a : Addr} {xs : List V} (hq : SqL K H a xs) (Pv : Nat → L2.St → Hp → Prop) (h0 : Pv 0 σ H) (hG : ∀ i σ H, i ≤ xs.length → Pv i σ H → SqL K H a xs)
    (turn : ∀ i x σ H, xs[i]? = some x → Pv i σ H → g x σ H fun σ2 H2 => t ⟨Pv (i + 1), rt, nx, Pv (i + 1)⟩ σ2 H2) (hd : ∀ σ H, Pv xs.length σ H → nx σ H) :
    ∃ a', V.ref a = .ref a' ∧ (∃ ys, SqL K H a' ys) ∧ FR (Itl K a') g t nx rt σ H := ⟨a, rfl, ⟨_, hq⟩, for_list (D := ⟨nx, rt, nx, nx⟩) Pv h0 hG turn hd⟩
theorem goT {K : PySem.W.Frag} {g : TG} {a : Addr} {xs : List V} (hq : SqT K H a xs) (Pv : Nat → L2.St → Hp → Prop) (h0 : Pv 0 σ H) (hG : ∀ i σ H, i ≤ xs.length → Pv i σ H → SqT K H a xs)
    (turn : ∀ i x σ H, xs[i]? = some x → Pv i σ H → g x σ H fun σ2 H2 => t ⟨Pv (i + 1), rt, nx, Pv (i + 1)⟩ σ2 H2) (hd : ∀ σ H, Pv xs.length σ H → nx σ H) :
    ∃ a', V.ref a = .ref a' ∧ (∃ ys, SqT K H a' ys) ∧ FR (Itt K a') g t nx rt σ H := ⟨a, rfl, ⟨_, hq⟩, for_tup (D := ⟨nx, rt, nx, nx⟩) Pv h0 hG turn hd⟩
theorem goR {g : TG} {z : Int} {n : Nat} (hz : z.toNat = n) (hz2 : z < 1000000000) (hz1 : -1000000000 < z) (Pv : Nat → L2.St → Hp → Prop) (h0 : Pv 0 σ H)
    (turn : ∀ i σ H, i < n → Pv i σ H → g (.int (i : Nat)) σ H fun σ2 H2 => t ⟨Pv (i + 1), rt, nx, Pv (i + 1)⟩ σ2 H2) (hd : ∀ σ H, Pv n σ H → nx σ H) :
    ∃ j : Int, [V.int z] = [.int j] ∧ -(2 ^ 62) ≤ j ∧ j < 2 ^ 62 ∧ FR (Itr 0 j.toNat) g t nx rt σ H := by
  subst hz
  refine ⟨z, rfl, by omega, by omega, for_range (D := ⟨nx, rt, nx, nx⟩) Pv h0 (fun i σ H hi hp => ?_) hd⟩
  have e : (0 + (i : Int)) = ((i : Nat) : Int) := by omega
  rw [e]
  exact turn i σ H hi hp
theorem goR2 {g : TG} {y z : Int} {n : Nat} (hz : (z - y).toNat = n) (hb : -1000000000 < y ∧ y < 1000000000 ∧ -1000000000 < z ∧ z < 1000000000) (Pv : Nat → L2.St → Hp → Prop) (h0 : Pv 0 σ H)
    (turn : ∀ i σ H, i < n → Pv i σ H → g (.int (y + i)) σ H fun σ2 H2 => t ⟨Pv (i + 1), rt, nx, Pv (i + 1)⟩ σ2 H2) (hd : ∀ σ H, Pv n σ H → nx σ H) :
    ∃ i j : Int, [V.int y, V.int z] = [.int i, .int j] ∧ (-(2 ^ 62) ≤ i ∧ i < 2 ^ 62 ∧ -(2 ^ 62) ≤ j ∧ j < 2 ^ 62) ∧ FR (Itr i (j - i).toNat) g t nx rt σ H := by
  subst hz
  exact ⟨y, z, rfl, ⟨by omega, by omega, by omega, by omega⟩, for_range (D := ⟨nx, rt, nx, nx⟩) Pv h0 turn hd⟩
theorem goE {K : PySem.W.Frag} {g : TG} {a : Addr} {xs : List V} (hq : SqL K H a xs) (Pv : Nat → L2.St → Hp → Prop) (h0 : Pv 0 σ H) (hG : ∀ i σ H, i ≤ xs.length → Pv i σ H → SqL K H a xs)
    (turn : ∀ i x σ H T, xs[i]? = some x → Pv i σ H → H T = none → g (.ref T) σ (upd H T (.tup [.int (i : Nat), x])) fun σ2 H2 => t ⟨Pv (i + 1), rt, nx, Pv (i + 1)⟩ σ2 H2) (hd : ∀ σ H, Pv xs.length σ H → nx σ H) :
    ∃ a' ys, [V.ref a] = [.ref a'] ∧ SqL K H a' ys ∧ FR (Ite K a') g t nx rt σ H := by
  refine ⟨a, xs, rfl, hq, for_it (D := ⟨nx, rt, nx, nx⟩) walk_enum Pv h0 hG (fun i x σ H H' hi hp y => ?_) hd⟩
  obtain ⟨T, x1, x2, rfl, hT, rfl, e1, e2⟩ := y
  cases e1
  exact turn i x2 σ H T e2 hp hT
/-! a new list by a comprehension -/
theorem same_new {H : Hp} {p : Addr} {o : HO} (h : H p = none) : Same H (upd H p o) := fun b x e => by
  rw [upd_ne (ne_of_none e h)]
  exact e
theorem same_mut {H H' : Hp} {p : Addr} {o : HO} (e : Same H H') (h : H p = none) : Same H (upd H' p o) := fun a u ha => by
  rw [upd_ne (ne_of_none ha h)]
  exact e a u ha
/-- what a comprehension collects: f of the items that pass p -/
def pick {α β : Type} (p : α → Bool) (f : α → β) : List α → List β
  | [] => []
  | a :: r => if p a = true then f a :: pick p f r else pick p f r
theorem pick_app {α β : Type} {p : α → Bool} {f : α → β} : ∀ (l r : List α), pick p f (l ++ r) = pick p f l ++ pick p f r
  | [], r => rfl
  | a :: l, r => by
    show (if p a = true then f a :: pick p f (l ++ r) else pick p f (l ++ r)) = (if p a = true then f a :: pick p f l else pick p f l) ++ pick p f r
    rw [pick_app l r]
    by_cases h : p a = true
    · rw [if_pos h, if_pos h]; rfl
    · rw [if_neg h, if_neg h]
theorem pick_len {α β : Type} {p : α → Bool} {f : α → β} : ∀ (l : List α), (pick p f l).length ≤ l.length
  | [] => Nat.le_refl _
  | a :: l => by
    show (if p a = true then f a :: pick p f l else pick p f l).length ≤ l.length + 1
    have := pick_len (p := p) (f := f) l
    by_cases h : p a = true
    · rw [if_pos h, List.length_cons]; omega
    · rw [if_neg h]; omega
theorem pick_all {α β : Type} {p : α → Bool} {f : α → β} (h : ∀ a, p a = true) : ∀ (l : List α), pick p f l = l.map f
  | [] => rfl
  | a :: l => by
    show (if p a = true then f a :: pick p f l else pick p f l) = f a :: l.map f
    rw [if_pos (h a), pick_all h l]
theorem pick_filter {α β : Type} {p : α → Bool} {f : α → β} : ∀ (l : List α), pick p f l = (l.filter p).map f
  | [] => rfl
  | a :: l => by
    show (if p a = true then f a :: pick p f l else pick p f l) = _
    by_cases h : p a = true
    · rw [if_pos h, List.filter_cons_of_pos h, List.map_cons, pick_filter l]
    · rw [if_neg h, List.filter_cons_of_neg h, pick_filter l]
theorem take_one {α : Type} {l : List α} {i : Nat} {x : α} (h : l[i]? = some x) : l.take (i + 1) = l.take i ++ [x] := by
  rw [List.take_add_one, h]; rfl
theorem lcAny {J : It} {g : TG} {tt : TT} {vs : List Nat} {n : Nat} {G : Hp → Prop} {Y : Nat → Hp → V → Hp → Prop} (w : Walk J n G Y) {α : Type} (al : List α) (hal : al.length = n) (hsz : n ≤ sizeLine) (p : α → Bool) (f : α → V) (h0G : G H) (hGs : ∀ H', Same H H' → G H')
    (hY : ∀ i H1 x H2, Same H H1 → Y i H1 x H2 → Same H1 H2)
    (turn : ∀ i a x H1 H2 (Q' : VK) (R' : Hp → Prop), al[i]? = some a → Same H H1 → Y i H1 x H2 → (p a = true → ∀ H4, Same H2 H4 → Q' (f a) H4) → (p a = false → ∀ H4, Same H2 H4 → R' H4) →
      g x (wipe σ vs) H2 fun σ2 H3 => wipe σ2 vs = wipe σ vs ∧ tt σ2 H3 fun b H5 => if b = true then te σ2 H5 Q' else R' H5)
    (hd : ∀ H' q, H q = none → Same H H' → H' q = some (.lst (pick p f al)) → Q (.ref q) H') : LR J g tt te vs σ H Q := by
  intro D hD
  refine lc_it w (fun i H1 => Same H H1 ∧ H1 D = some (.lst (pick p f (al.take i)))) ⟨same_new hD, by rw [upd_same]; rfl⟩ (fun i H1 _ hp => hGs _ hp.1) (fun i x H1 H2 hi hp y => ?_) (fun H1 hp => ?_)
  · have hi' : i < al.length := by omega
    have ga : al[i]? = some al[i] := List.getElem?_eq_getElem hi'
    have sm := hY i H1 x H2 hp.1 y
    refine turn i al[i] x H1 H2 _ _ ga hp.1 y (fun ht H4 s4 => ?_) (fun hf H4 s4 => ?_)
    · have e4 : H4 D = some (.lst (pick p f (al.take i))) := s4 _ _ (sm _ _ hp.2)
      refine ⟨_, e4, ?_, same_mut ((hp.1.trans sm).trans s4) hD, ?_⟩
      · have := pick_len (p := p) (f := f) (al.take i)
        rw [List.length_take] at this
        exact Nat.lt_of_lt_of_le (Nat.lt_of_le_of_lt this (by omega : min i al.length < n)) hsz
      · rw [upd_same, take_one ga, pick_app]
        show _ = some (HO.lst (_ ++ (if p al[i] = true then [f al[i]] else [])))
        rw [if_pos ht]
    · have e4 : H4 D = some (.lst (pick p f (al.take i))) := s4 _ _ (sm _ _ hp.2)
      refine ⟨(hp.1.trans sm).trans s4, ?_⟩
      rw [e4, take_one ga, pick_app]
      show _ = some (HO.lst (_ ++ (if p al[i] = true then [f al[i]] else [])))
      rw [if_neg (by rw [hf]; exact Bool.false_ne_true), List.append_nil]
  · have e := hp.2
    rw [← hal, List.take_length] at e
    exact hd H1 D hD hp.1 e
theorem lcL {K : PySem.W.Frag} {g : TG} {tt : TT} {vs : List Nat} {a : Addr} {xs : List V} (hq : SqL K H a xs) (hsz : xs.length ≤ sizeLine) (p : V → Bool) (f : V → V)
    (turn : ∀ (i : Nat) x H1 (Q' : VK) (R' : Hp → Prop), xs[i]? = some x → Same H H1 → (p x = true → ∀ H4, Same H1 H4 → Q' (f x) H4) → (p x = false → ∀ H4, Same H1 H4 → R' H4) →
      g x (wipe σ vs) H1 fun σ2 H3 => wipe σ2 vs = wipe σ vs ∧ tt σ2 H3 fun b H5 => if b = true then te σ2 H5 Q' else R' H5)
    (hd : ∀ H' q, H q = none → Same H H' → H' q = some (.lst (pick p f xs)) → Q (.ref q) H') :
    ∃ a', V.ref a = .ref a' ∧ (∃ ys, SqL K H a' ys) ∧ LR (Itl K a') g tt te vs σ H Q := by
  refine ⟨a, rfl, ⟨_, hq⟩, lcAny (walk_list (K := K) (a := a) (xs := xs)) xs rfl hsz p f hq (fun H' s => s.seq hq) (fun i H1 x H2 s y => ?_) (fun i b x H1 H2 Q' R' hb s y kT kF => ?_) hd⟩
  · obtain ⟨rfl, _⟩ := y
    exact Same.refl _
  · obtain ⟨rfl, y⟩ := y
    rw [y] at hb
    cases hb
    exact turn i b _ Q' R' y s kT kF
theorem lcR {g : TG} {tt : TT} {vs : List Nat} {z : Int} {n : Nat} (hz : z.toNat = n) (hz2 : z < 1000000) (hz1 : -1000000 < z) (p : Nat → Bool) (f : Nat → V)
    (turn : ∀ i H1 (Q' : VK) (R' : Hp → Prop), i < n → Same H H1 → (p i = true → ∀ H4, Same H1 H4 → Q' (f i) H4) → (p i = false → ∀ H4, Same H1 H4 → R' H4) →
      g (.int (i : Nat)) (wipe σ vs) H1 fun σ2 H3 => wipe σ2 vs = wipe σ vs ∧ tt σ2 H3 fun b H5 => if b = true then te σ2 H5 Q' else R' H5)
    (hd : ∀ H' q, H q = none → Same H H' → H' q = some (.lst (pick p f (List.range n))) → Q (.ref q) H') :
    ∃ j : Int, [V.int z] = [.int j] ∧ -(2 ^ 62) ≤ j ∧ j < 2 ^ 62 ∧ LR (Itr 0 j.toNat) g tt te vs σ H Q := by
  subst hz
  have hs : z.toNat ≤ sizeLine := Nat.le_trans (by omega : z.toNat ≤ 1000000) (by decide)
  refine ⟨z, rfl, by omega, by omega, lcAny (walk_range (lo := 0) (n := z.toNat)) (List.range z.toNat) (List.length_range) hs p f trivial (fun _ _ => trivial) (fun i H1 x H2 s y => ?_) (fun i b x H1 H2 Q' R' hb s y kT kF => ?_) hd⟩
  · obtain ⟨rfl, _⟩ := y
    exact Same.refl _
  · obtain ⟨rfl, rfl⟩ := y
    obtain ⟨hi, e⟩ := List.getElem?_eq_some_iff.mp hb
    rw [List.getElem_range] at e
    subst e
    rw [List.length_range] at hi
    have e : (0 + (i : Int)) = ((i : Nat) : Int) := by omega
    show g (V.int (0 + (i : Int))) _ _ _
    rw [e]
    exact turn i _ Q' R' hi s kT kF
theorem lcE {K : PySem.W.Frag} {g : TG} {tt : TT} {vs : List Nat} {a : Addr} {xs : List V} (hq : SqL K H a xs) (hsz : xs.length ≤ sizeLine) (p : Nat → Bool) (f : Nat → V)
    (turn : ∀ (i : Nat) x T H1 (Q' : VK) (R' : Hp → Prop), xs[i]? = some x → Same H H1 → H1 T = none → (p i = true → ∀ H4, Same (upd H1 T (.tup [.int (i : Nat), x])) H4 → Q' (f i) H4) → (p i = false → ∀ H4, Same (upd H1 T (.tup [.int (i : Nat), x])) H4 → R' H4) →
      g (.ref T) (wipe σ vs) (upd H1 T (.tup [.int (i : Nat), x])) fun σ2 H3 => wipe σ2 vs = wipe σ vs ∧ tt σ2 H3 fun b H5 => if b = true then te σ2 H5 Q' else R' H5)
    (hd : ∀ H' q, H q = none → Same H H' → H' q = some (.lst (pick p f (List.range xs.length))) → Q (.ref q) H') :
    ∃ a' ys, [V.ref a] = [.ref a'] ∧ SqL K H a' ys ∧ LR (Ite K a') g tt te vs σ H Q := by
  refine ⟨a, xs, rfl, hq, lcAny (walk_enum (K := K) (a := a) (xs := xs)) (List.range xs.length) List.length_range hsz p f hq (fun H' s => s.seq hq) (fun i H1 x H2 s y => ?_) (fun i b x H1 H2 Q' R' hb s y kT kF => ?_) hd⟩
  · obtain ⟨T, x1, x2, rfl, hT, rfl, _, _⟩ := y
    exact same_new hT
  · obtain ⟨T, x1, x2, rfl, hT, rfl, e1, e2⟩ := y
    cases e1
    obtain ⟨hi, e⟩ := List.getElem?_eq_some_iff.mp hb
    rw [List.getElem_range] at e
    subst e
    exact turn i x2 T H1 Q' R' e2 s hT kT kF
end
end RD

namespace RD
open PySem PySem.Spec PyProof.Rows L2
/-! the layer's rules with the written part named K, their readings under a name -/
def rLen (K : PySem.W.Frag) : List V → Hp → VK → Prop := fun xs H Q => ∃ p ys, xs = [.ref p] ∧ (SqL K H p ys ∨ SqT K H p ys) ∧ Q (.int ys.length) H
def rLenD : List V → Hp → VK → Prop := fun xs H Q => ∃ a kvs, xs = [V.ref a] ∧ H a = some (.dK kvs) ∧ Q (.int kvs.length) H
def rLenS : List V → Hp → VK → Prop := fun xs H Q => ∃ z, xs = [.str z] ∧ z.length ≤ sizeLine ∧ Q (.int z.length) H
def rListOf (K : PySem.W.Frag) : List V → Hp → VK → Prop := fun xs H Q => ∃ p ys, xs = [.ref p] ∧ (SqL K H p ys ∨ SqT K H p ys) ∧ ∀ l, H l = none → Q (.ref l) (upd H l (.lst ys))
def rInt : List V → Hp → VK → Prop := fun xs H Q => (∃ i, xs = [.int i] ∧ Q (.int i) H) ∨ ∃ k, xs = [.bl k] ∧ Q (.int (if k then 1 else 0)) H
def rAbs : List V → Hp → VK → Prop := fun xs H Q => ∃ i, xs = [.int i] ∧ Q (.int (if i < 0 then -i else i)) H
def rMax2 : List V → Hp → VK → Prop := fun xs H Q => ∃ i j, xs = [.int i, .int j] ∧ Q (.int (if j > i then j else i)) H
def rMin2 : List V → Hp → VK → Prop := fun xs H Q => ∃ i j, xs = [.int i, .int j] ∧ Q (.int (if j < i then j else i)) H
def rStrI : List V → Hp → VK → Prop := fun xs H Q => ∃ i, xs = [.int i] ∧ i.natAbs.log2 < 1920 ∧ Q (.str (toString i)) H
def rIntS : List V → Hp → VK → Prop := fun xs H Q => ∃ a n, xs = [.str a] ∧ PySem.intText? a = some n ∧ a.length ≤ 640 ∧ Q (.int n) H
def tTru (K : PySem.W.Frag) (ta : TE) : TT := fun σ H Q => ta σ H fun x H' => ∃ k, TruV K x H' k ∧ Q k H'
section
variable {X : Cx} {K : PySem.W.Frag} {e o : Expr} {es : List Expr} {ta to tv te : TE} {tr : TA} {f name : Str} {pos apos cpos pos' p tpos : Pos} {Ty id : String} {r : V → List V → Hp → VK → Prop} {tg : Expr} {kk : Nat}
theorem k_len (h : X.K = K) : CallR X (.builtin "len") (rLen K) := by subst h; exact call_len_seq
theorem k_lenD : CallR X (.builtin "len") rLenD := call_lenD
theorem k_lenS : CallR X (.builtin "len") rLenS := call_len_str
theorem k_list (h : X.K = K) : CallR X (.type "list") (rListOf K) := by subst h; exact call_list_of
theorem k_int : CallR X (.type "int") rInt := call_int1
theorem k_abs : CallR X (.builtin "abs") rAbs := call_abs
theorem k_max2 (hc : X.calm = true) : CallR X (.builtin "max") rMax2 := call_max2 hc
theorem k_min2 (hc : X.calm = true) : CallR X (.builtin "min") rMin2 := call_min2 hc
theorem k_strI : CallR X (.type "str") rStrI := call_str_int
theorem k_intS : CallR X (.type "int") rIntS := call_int_str
theorem k_min (h : X.K = K) (hc : X.calm = true) : CallR X (.builtin "min") (rMin K) := by subst h; exact cr_min hc
theorem k_max (h : X.K = K) (hc : X.calm = true) : CallR X (.builtin "max") (rMax K) := by subst h; exact cr_max hc
theorem k_sum (h : X.K = K) (hc : X.calm = true) : CallR X (.builtin "sum") (rSum K) := by subst h; exact cr_sum hc
theorem k_any (h : X.K = K) (hc : X.calm = true) : CallR X (.builtin "any") (rAny K) := by subst h; exact cr_any hc
theorem k_all (h : X.K = K) (hc : X.calm = true) : CallR X (.builtin "all") (rAll K) := by subst h; exact cr_all hc
theorem k_sorted (h : X.K = K) : CallR X (.builtin "sorted") (rSorted K) := by subst h; exact cr_sorted
theorem k_isi (h : X.K = K) : CallR X (.builtin "isinstance") (rIsi K) := by subst h; exact call_isi
theorem k_ixL (h : X.K = K) : IxR X (rIxL K) := by subst h; exact ix_list
theorem k_ixT (h : X.K = K) : IxR X (rIxT K) := by subst h; exact ix_tup
theorem k_slL (h : X.K = K) : SlR X (rSlL K) := by subst h; exact sl_list
theorem k_slT (h : X.K = K) : SlR X (rSlT K) := by subst h; exact sl_tup
theorem k_in (h : X.K = K) : OpR X (compareOp .In) (rIn K false) := by subst h; exact op_in_seq
theorem k_notin (h : X.K = K) : OpR X (compareOp .NotIn) (rIn K true) := by subst h; exact op_notIn_seq
theorem k_eqD (h : X.K = K) (hu : X.A.units + 64 < cLine) : OpR X (compareOp .Eq) (rEqD K) := by subst h; exact op_eqD hu
theorem k_neD (h : X.K = K) (hu : X.A.units + 64 < cLine) : OpR X (compareOp .NotEq) (rNeD K) := by subst h; exact op_neD hu
theorem k_bm (h : X.K = K) (pa : PlainAttrs Ty) (slot : Slot Ty name id) (hty : typeOf (.builtin id) = pure (.type "method_descriptor")) (hm : MtR X id r) (ho : PE X o to) (ha : PA X (e :: es) tr)
    (hbase : attributeBase o name X.env (eval o X.env) = eval o X.env := by rfl)
    (hfew : ((backTo cpos (starEach (e :: es) X.env)).all (fun x => !x.1) && (backToKw cpos (keywordEach [] X.env)).all (fun x => x.1.isSome)
      && decide ((e :: es).length + ([] : List Keyword).length + (if ([] : List Keyword).isEmpty then 0 else 1) < 30)) = true := by rfl)
    (hline : (apos.endLine == cpos.line) = true := by rfl) (hs : starEach (e :: es) X.env = (false, eval e X.env) :: starEach es X.env := by rfl) (hplain : (backTo cpos (starEach es X.env)).any (·.1) = false := by rfl) :
    PE X (.Call (.Attribute o name apos) (e :: es) [] cpos) (tBM K Ty r to tr) := by subst h; exact pe_bm pa slot hty hm ho ha hbase hfew hline hs hplain
theorem k_bm0 (h : X.K = K) (pa : PlainAttrs Ty) (slot : Slot Ty name id) (hty : typeOf (.builtin id) = pure (.type "method_descriptor")) (hm : MtR X id r) (ho : PE X o to)
    (hbase : attributeBase o name X.env (eval o X.env) = eval o X.env := by rfl) (hline : (apos.endLine == cpos.line) = true := by rfl) : PE X (.Call (.Attribute o name apos) [] [] cpos) (tBM0 K Ty r to) := by subst h; exact pe_bm0 pa slot hty hm ho hbase hline
theorem k_fld (h : X.K = K) (he : PE X e ta) (hb : attributeBase e f X.env (eval e X.env) = eval e X.env) : PE X (.Attribute e f pos) (tFld K ta f) := by subst h; exact pe_fld he hb
theorem k_sfld {value : Expr} (h : X.K = K) (ha : PE X o ta) (hv : PE X value tv) (hs : swapsWith value (some (.Attribute o f pos')) pos.line X.env = pure false) : PS X (.Assign [.Attribute o f pos'] value pos) (sFld K ta tv f) := by subst h; exact ps_fld ha hv hs
theorem k_pil (h : X.K = K) (hl : PE X e ta) : PI X tg e (iList K ta) := by subst h; exact pi_list hl
theorem k_pit (h : X.K = K) (hl : PE X e ta) : PI X tg e (iTup K ta) := by subst h; exact pi_tup hl
theorem k_pie {elts : List Expr} (h : X.K = K) (hg : Gl X "enumerate") (hm : X.mg "enumerate" = none) (ha : PA X [e] tr) (hs : starEach [e] X.env = [(false, eval e X.env)] := by rfl) :
    PI X (.Tuple elts kk tpos) (.Call (.Name "enumerate" p) [e] [] pos) (iEnum K tr) := by subst h; exact pi_enum hg hm ha hs
theorem k_piz {e2 : Expr} {elts : List Expr} (h : X.K = K) (hg : Gl X "zip") (hm : X.mg "zip" = none) (ha : PA X [e, e2] tr)
    (hs : starEach [e, e2] X.env = (false, eval e X.env) :: starEach [e2] X.env := by rfl) (hpl : (backTo pos (starEach [e2] X.env)).any (·.1) = false := by rfl) :
    PI X (.Tuple elts kk tpos) (.Call (.Name "zip" p) [e, e2] [] pos) (iZip K tr) := by subst h; exact pi_zip hg hm ha hs hpl
theorem k_gtup {t : TGs} {n : Nat} (h : X.K = K) (hc : X.calm = true) (hp : PGs X es t)
    (hn : (assignEach es X.env).length = n := by rfl) (hst : (assignEach es X.env).findIdx? (·.1) = none := by rfl) : PG X (.Tuple es kk pos) (gTup K n t) := by subst h; exact pg_tup hc hp hn hst
theorem k_tru (h : X.K = K) (ha : PE X e ta) (he : ∀ whole, isTrue e X.env whole = (do let v ← whole; standAt e.pos; holding [v] (truthy v))) : PT X e (tTru K ta) := by subst h; exact pt_truth ha he
end
/-! their steps -/
section
variable {σ s : L2.St} {H : Hp} {Q : VK} {K : PySem.W.Frag} {a : Addr} {xs : List V} {n m : Int} {ta : TE} {QB : Bool → Hp → Prop}
theorem len (h : SqL K H a xs) (q : Q (.int xs.length) H) : rLen K [.ref a] H Q := ⟨a, xs, rfl, .inl h, q⟩
theorem lenT (h : SqT K H a xs) (q : Q (.int xs.length) H) : rLen K [.ref a] H Q := ⟨a, xs, rfl, .inr h, q⟩
theorem lenD {kvs : List (Key × V)} (h : H a = some (.dK kvs)) (q : Q (.int kvs.length) H) : rLenD [.ref a] H Q := ⟨a, kvs, rfl, h, q⟩
theorem lenS {z : Str} (h : z.length ≤ sizeLine) (q : Q (.int z.length) H) : rLenS [.str z] H Q := ⟨z, rfl, h, q⟩
theorem list (h : SqL K H a xs) (q : ∀ l, H l = none → Q (.ref l) (upd H l (.lst xs))) : rListOf K [.ref a] H Q := ⟨a, xs, rfl, .inl h, q⟩
theorem int1 (q : Q (.int n) H) : rInt [.int n] H Q := .inl ⟨n, rfl, q⟩
theorem abs1 (q : Q (.int (if n < 0 then -n else n)) H) : rAbs [.int n] H Q := ⟨n, rfl, q⟩
theorem max2 (q : Q (.int (if m > n then m else n)) H) : rMax2 [.int n, .int m] H Q := ⟨n, m, rfl, q⟩
theorem min2 (q : Q (.int (if m < n then m else n)) H) : rMin2 [.int n, .int m] H Q := ⟨n, m, rfl, q⟩
theorem strI (h : n.natAbs.log2 < 1920) (q : Q (.str (toString n)) H) : rStrI [.int n] H Q := ⟨n, rfl, h, q⟩
theorem tru (h : ta σ H fun x H' => ∃ k, TruV K x H' k ∧ QB k H') : tTru K ta σ H QB := h
theorem truL (h : SqL K H a xs) {P : Bool → Prop} (q : P (!xs.isEmpty)) : ∃ k, TruV K (.ref a) H k ∧ P k := ⟨_, .inl ⟨xs, h, rfl⟩, q⟩
theorem all1 {bs : List Bool} (h : SqL K H a (bs.map V.bl)) (q : Q (.bl (bs.all id)) H) : rAll K [.ref a] H Q := ⟨a, bs, rfl, h, q⟩
theorem any1 {bs : List Bool} (h : SqL K H a (bs.map V.bl)) (q : Q (.bl (bs.any id)) H) : rAny K [.ref a] H Q := ⟨a, bs, rfl, h, q⟩
theorem sort1 {ns : List Int} (h : SqL K H a (ns.map V.int)) (hl : ns.length < 64) (q : ∀ (ns' : List Int) (p : Addr), ns'.Perm ns → ns'.Pairwise (· ≤ ·) → H p = none → Q (.ref p) (upd H p (.lst (ns'.map V.int)))) : rSorted K [.ref a] H Q := ⟨a, ns, rfl, h, hl, q⟩
theorem isi {x c : V} {t u : Value} {b : Bool} (hc : ClsV c u) (ht : TyX K H x t) (hk : PySem.W.kitOne K t u = some b) (q : Q (.bl b) H) : rIsi K [x, c] H Q := ⟨x, c, t, u, b, rfl, hc, ht, hk, q⟩
theorem inL {x : V} (h : SqL K H a xs) (hx : flatV x = true) (ha : xs.all flatV = true) (q : Q (.bl (inV x xs)) H) : rIn K false x (.ref a) H Q := ⟨a, xs, rfl, .inl h, hx, ha, q⟩
theorem ninL {x : V} (h : SqL K H a xs) (hx : flatV x = true) (ha : xs.all flatV = true) (q : Q (.bl (!inV x xs)) H) : rIn K true x (.ref a) H Q := ⟨a, xs, rfl, .inl h, hx, ha, q⟩
end
/-- a word between a statement and the rest: what follows is shown once -/
def tCut (t u : TS) : TS := fun D σ H => ∃ W : L2.St → Hp → Prop, t ⟨W, D.rt, D.bk, D.ct⟩ σ H ∧ ∀ σ1 H1, W σ1 H1 → u D σ1 H1
theorem pss_cut {X : Cx} {s0 : Stmt} {more : List Stmt} {t u : TS} (a : PS X s0 t) (b : PSs X more u) : PSs X (s0 :: more) (tCut t u) := by
  refine ⟨fun pins s σ H D J hw => ?_⟩
  obtain ⟨W, h1, h2⟩ := hw
  refine wpAny_execs_cons (thn (a.run pins s σ H ⟨W, D.rt, D.bk, D.ct⟩ J h1) fun fl s1 q => ?_)
  cases fl with
  | next =>
    obtain ⟨σ1, H1, J1, q1⟩ := q
    exact b.run pins s1 σ1 H1 D J1 (h2 σ1 H1 q1)
  | _ => exact q
theorem cut {t u : TS} {σ : L2.St} {H : Hp} {nx bk ct : L2.St → Hp → Prop} {rt : VK} (W : L2.St → Hp → Prop) (h1 : t ⟨W, rt, bk, ct⟩ σ H) (h2 : ∀ σ1 H1, W σ1 H1 → u ⟨nx, rt, bk, ct⟩ σ1 H1) : tCut t u ⟨nx, rt, bk, ct⟩ σ H := ⟨W, h1, h2⟩
end RD
namespace RD
open PySem PySem.Spec PyProof.Rows L2
theorem pe_gl {X : Cx} {x z : Str} {pos : Pos} (hg : Gl X x) (hm : ∃ t, X.mg x = some (.str z t)) (hd : (x == ("__debug__" : Str)) = false := by decide) : PE X (.Name x pos) (tC (.str z)) := by
  obtain ⟨t, h⟩ := hm
  exact pe_glob hg h ⟨t, rfl⟩ hd
theorem pe_glI {X : Cx} {x : Str} {z : Int} {pos : Pos} (hg : Gl X x) (hm : ∃ t, X.mg x = some (.int z t)) (hd : (x == ("__debug__" : Str)) = false := by decide) : PE X (.Name x pos) (tC (.int z)) := by
  obtain ⟨t, h⟩ := hm
  exact pe_glob hg h ⟨t, rfl⟩ hd
end RD

namespace RD
open PySem PySem.Spec PyProof.Rows L2
/-! len, in and == by methods of one's own -/
section
variable {X : Cx} {CX : CXT} {n : Nat} {f C : Addr} {fd : FuncData} {ps : List Str} {sp : Sp} {E : XK} {K : PySem.W.Frag}
theorem call_own {Ar : Around} {pins : List (Addr × Obj)} {σ : L2.St} {H : Hp} {s : Shared} {Q : VK} {vs : List V} {us : List Value} (hfr : Ar.frames = X.A.frames) (room : Room n Ar) (F : FnOk X.prog X.w X.K X.mg X.base CX n f fd ps sp) (hb : Binds X.K fd ps []) (hx : Passes CX X E)
    (J : Inv X pins σ H s) (rv : Vals vs us) (hs : sp vs H Q E) : wpAny (model X.prog X.w) Ar (PySem.call (.ref f) us) (EP X pins σ Q) X.xe s := by
  have e := J.env0
  have e0 : Env0 X.prog X.w X.K X.mg X.base Ar X.stack s H := ⟨by rw [hfr]; exact e.frames, e.mod, e.bs, e.bsz, e.funs, e.frf, e.hok, e.bare⟩
  have hl : us.length = ps.length := rv.length.symm.trans (F.len _ _ _ _ hs)
  have bb := hb s us J.kIn (by rw [List.append_nil]; exact hl)
  rw [List.append_nil] at bb
  refine wpAny_call (codeAny_mono (F.run Ar X.stack s H ⟨us, []⟩ us vs Q E room e0 bb rv hs) ?_)
  intro rr s' hq
  cases rr with
  | error er => exact hx pins σ H s er s' J hq
  | ok fl =>
    cases fl with
    | ret u => exact J.after hq
    | next => exact hq.elim
    | brk => exact hq.elim
    | cont => exact hq.elim
def rLenOwn (C : Addr) (sp : Sp) (E : XK) : List V → Hp → VK → Prop := fun xs H Q => ∃ a dx fs, xs = [.ref a] ∧ H a = some (.ins C dx fs) ∧ sp [.ref a] H (fun v H' => ∃ z : Int, v = .int z ∧ 0 ≤ z ∧ z < 2 ^ 63 ∧ Q (.int z) H') E
theorem k_lenOwn (hr : Room (n + 1) X.A) (F : FnOk X.prog X.w X.K X.mg X.base CX n f fd ps sp) (hs : PySem.W.findIn X.K (.ref C) "__len__" = some (some (.ref f))) (hf : PySem.W.isFn X.K (.ref f) = true) (hb : Binds X.K fd ps []) (hx : Passes CX X E) :
    CallR X (.builtin "len") (rLenOwn C sp E) := by
  intro pins s σ H xs us Q I r hw
  obtain ⟨a, dx, fs, rfl, ha, hsp⟩ := hw
  obtain ⟨u, rfl, rx⟩ := vals1 r
  cases rx
  obtain ⟨_, O, _⟩ := ins_get I.hok ha
  obtain ⟨_, O, _⟩ := O.look
  obtain ⟨_, hF⟩ := I.fr
  refine PySem.W.len_K hF I.ok.mod.kin O hs hf (wpAny_mono (call_own rfl hr.in1 F hb hx I r hsp) ?_ fun _ _ z => z)
  rintro v s' ⟨y, H', I', ry, z, rfl, h0, h1, q⟩
  obtain ⟨t, rfl⟩ := ry
  exact ⟨⟨h0, h1⟩, .int z, H', I'.tok _, ⟨_, rfl⟩, q⟩
def rInOwn (C : Addr) (sp : Sp) (E : XK) (neg : Bool) : R2 := fun x y H Q => ∃ a dx fs, y = .ref a ∧ H a = some (.ins C dx fs) ∧ sp [.ref a, x] H (fun v H' => ∃ b, v = .bl b ∧ Q (.bl (if neg then !b else b)) H') E
theorem k_inOwn (hr : Room n X.A) (F : FnOk X.prog X.w X.K X.mg X.base CX n f fd ps sp) (hs : PySem.W.findIn X.K (.ref C) "__contains__" = some (some (.ref f))) (hf : PySem.W.isFn X.K (.ref f) = true) (hb : Binds X.K fd ps []) (hx : Passes CX X E) :
    OpR X (compareOp .In) (rInOwn C sp E false) := by
  intro pins s σ H x y v u Q I rx ry hw
  obtain ⟨a, dx, fs, rfl, ha, hsp⟩ := hw
  cases ry
  obtain ⟨_, O, _⟩ := ins_get I.hok ha
  obtain ⟨_, O, _⟩ := O.look
  obtain ⟨_, hF⟩ := I.fr
  refine PySem.W.in_K hF I.ok.mod.kin O hs hf (wpAny_mono (call_own (vs := [.ref a, x]) rfl hr F hb hx I (.cons rfl (.cons rx .nil)) hsp) ?_ fun _ _ z => z)
  rintro r s' ⟨y, H', I', ry, b, rfl, q⟩
  refine wpAny_mono (tru_ok pins s' σ H' (.bl b) r (fun k H'' => k = b ∧ Q (.bl b) H'') I' ry ⟨b, rfl, rfl, q⟩) ?_ fun _ _ z => z
  rintro k s'' ⟨H'', I'', rfl, q'⟩
  exact ⟨.bl k, H'', I'', rfl, q'⟩
theorem k_ninOwn (hr : Room n X.A) (F : FnOk X.prog X.w X.K X.mg X.base CX n f fd ps sp) (hs : PySem.W.findIn X.K (.ref C) "__contains__" = some (some (.ref f))) (hf : PySem.W.isFn X.K (.ref f) = true) (hb : Binds X.K fd ps []) (hx : Passes CX X E) :
    OpR X (compareOp .NotIn) (rInOwn C sp E true) := by
  intro pins s σ H x y v u Q I rx ry hw
  obtain ⟨a, dx, fs, rfl, ha, hsp⟩ := hw
  cases ry
  obtain ⟨_, O, _⟩ := ins_get I.hok ha
  obtain ⟨_, O, _⟩ := O.look
  obtain ⟨_, hF⟩ := I.fr
  refine PySem.W.notIn_K hF I.ok.mod.kin O hs hf (wpAny_mono (call_own (vs := [.ref a, x]) rfl hr F hb hx I (.cons rfl (.cons rx .nil)) hsp) ?_ fun _ _ z => z)
  rintro r s' ⟨y, H', I', ry, b, rfl, q⟩
  refine wpAny_mono (tru_ok pins s' σ H' (.bl b) r (fun k H'' => k = b ∧ Q (.bl (!b)) H'') I' ry ⟨b, rfl, rfl, q⟩) ?_ fun _ _ z => z
  rintro k s'' ⟨H'', I'', rfl, q'⟩
  exact ⟨.bl (!k), H'', I'', rfl, q'⟩
def rEqOwn (K : PySem.W.Frag) (C : Addr) (sp : Sp) (E : XK) : R2 := fun x y H Q => ∃ a dx fs tb, x = .ref a ∧ H a = some (.ins C dx fs) ∧ TyX K H y tb ∧ PySem.W.notFirst K C tb = true ∧ sp [.ref a, y] H (fun v H' => ∃ b, v = .bl b ∧ Q (.bl b) H') E
theorem k_eqOwn (h : X.K = K) (hr : Room n X.A) (F : FnOk X.prog X.w X.K X.mg X.base CX n f fd ps sp) (hs : PySem.W.findIn X.K (.ref C) "__eq__" = some (some (.ref f))) (hf : PySem.W.isFn X.K (.ref f) = true) (hb : Binds X.K fd ps []) (hx : Passes CX X E) :
    OpR X (compareOp .Eq) (rEqOwn K C sp E) := by
  subst h
  intro pins s σ H x y v u Q I rx ry hw
  obtain ⟨a, dx, fs, tb, rfl, ha, ty, nf, hsp⟩ := hw
  cases rx
  obtain ⟨_, O, _⟩ := ins_get I.hok ha
  obtain ⟨_, O, _⟩ := O.look
  obtain ⟨_, hF⟩ := I.fr
  obtain ⟨_, kx, kp, _⟩ := kit_of I ry ty
  show wpAny (model X.prog X.w) X.A (richCompare .Eq _ u) (EP X pins σ Q) X.xe s
  refine PySem.W.cmp_K (op := .Eq) (tb := tb) hr.units0 hF I.ok.mod.kin O (kx.ty _ _ I.kIn kp) nf hs hf (wpAny_mono (call_own (vs := [.ref a, y]) rfl hr F hb hx I (.cons rfl (.cons ry .nil)) hsp) ?_ fun _ _ z => z)
  rintro r s' ⟨y, H', I', ry, b, rfl, q⟩
  cases ry
  exact ⟨.bl b, H', I', rfl, q⟩
end
end RD

namespace RD
open PySem PySem.Spec PyProof.Rows L2
/-! further rules: an own error made without arguments; an object made where what is raised is wished for at the slots -/
section
variable {X : Cx} {C : Addr} {bmB : List Value} {B newId initId : String}
theorem pmk_own0 {x : Str} {p pos : Pos} (F : ExcBaseFacts B newId initId bmB) (q : PySem.W.excIn X.K C bmB newId = true) (gC : X.mg x = some (.ref C)) (kC : PySem.W.keepIn X.K (.ref C) = true) (r : Raises X (.ref C)) (hg : Gl X x)
    (hdb : (x == ("__debug__" : Str)) = false := by decide) : PMk X (.Call (.Name x p) [] [] pos) (fun _ H Q => Q (.ref C) none H) := by
  intro pins s0 σ H Q J hw
  refine wpAny_Call_Name_kw (ld_glob J hg gC ?_ hdb)
  refine PySem.W.callWith_K0 J.kIn kC ?_
  show wpAny _ _ (PySem.call (Value.ref C) []) _ _ _
  obtain ⟨_, _, _, _, _, _, _, _, _, _, _, _, _, _, _, _, _, hC, hN, hni, tl⟩ := exc_obj J.kIn q
  exact wpAny_call_exc_subT F tl hC hN hni (fun _ _ hm => mk_of J hm r hw (J.hok.gone hm.new)) (Nat.zero_le _)
end
section
variable {X : Cx} {CX : CXT} {k : Nat} {f C : Addr} {fd : FuncData} {ps : List Str} {sp : Sp} {E : L2.St → XK} {x : Str} {p pos : Pos} {e : Expr} {es : List Expr} {t : TA}
def tMakeS (C : Addr) (sp : Sp) (E : L2.St → XK) (t : TA) : TE := fun σ H Q => t σ H fun vs H1 => MKE C sp [] (E σ) vs H1 Q
/-- a way out with the slots as they are, seen as one that asks nothing of them -/
theorem pe_makeS (M : Mk X.K C f) (F : FnOk X.prog X.w X.K X.mg X.base CX k f fd ps sp) (hr : Room (k + 1) X.A) (hg : Gl X x) (hm : X.mg x = some (.ref C)) (hb : Binds X.K fd ps []) (hx : ∀ σ, PassesAt CX X σ (E σ))
    (ha : PA X (e :: es) t) (hdb : (x == ("__debug__" : Str)) = false := by decide) (he : starEach (e :: es) X.env = (false, eval e X.env) :: starEach es X.env := by rfl) (hpl : (backTo pos (starEach es X.env)).any (·.1) = false := by rfl) :
    PE X (.Call (.Name x p) (e :: es) [] pos) (tMakeS C sp E t) := by
  refine ⟨fun pins s0 σ H Q I hw => ?_⟩
  refine wpAny_Call_Name_kw (ld_glob I hg hm ?_ hdb)
  refine PySem.W.callWith_K (h₀ := X.base) I.ok.mod.kin M.kp (thn (ha.run pos pins s0 σ H _ I hw) fun us s ⟨vs, H1, I1, r, q⟩ => ⟨I1.kIn, ?_⟩) he hpl
  have hq := q (s.heap.objs.size + 1) s.heap.objs.size (I1.hok.fresh (Nat.le_succ _)) (I1.hok.fresh (Nat.le_refl _)) (Nat.ne_of_lt (Nat.lt_succ_self _))
  rw [List.append_nil] at hq
  have I2 := Inv.made (C := C) I1
  have r2 : Vals (V.ref (s.heap.objs.size + 1) :: vs) (Value.ref (s.heap.objs.size + 1) :: us) := .cons rfl r
  have hl : (Value.ref (s.heap.objs.size + 1) :: us).length = ps.length := (r2.length.symm.trans (F.len _ _ _ _ hq))
  have bb := hb _ (Value.ref (s.heap.objs.size + 1) :: us) I2.kIn (by rw [List.append_nil]; exact hl)
  rw [List.append_nil] at bb
  refine wpAny_call (make_map (f := f) I1.kIn M.makes M.init (beq_iff_eq.mp M.fn) ?_)
  refine codeAny_mono (F.run _ X.stack _ _ ⟨Value.ref (s.heap.objs.size + 1) :: us, []⟩ (Value.ref (s.heap.objs.size + 1) :: us) _ _ (E σ) (hr.make C us []) (I2.env0.make C us []) bb r2 hq) ?_
  intro rr s' hq'
  cases rr with
  | error er => exact hx σ pins _ _ er s' I2 hq'
  | ok fl =>
    cases fl with
    | ret u =>
      obtain ⟨_, H', I3, rv, ev, q3⟩ := I2.after hq'
      subst ev
      exact ⟨rv, V.ref (s.heap.objs.size + 1), H', I3, rfl, q3⟩
    | next => exact hq'.elim
    | brk => exact hq'.elim
    | cont => exact hq'.elim
end
/-- a reading under a fact -/
def tWhen (p : Prop) (t : TS) : TS := fun D σ H => p ∧ t D σ H
theorem pss_when {X : Cx} {sts : List Stmt} {t : TS} {p : Prop} (h : p → PSs X sts t) : PSs X sts (tWhen p t) := ⟨fun pins s σ H D I hw => (h hw.1).run pins s σ H D I hw.2⟩
theorem k_isE {X : Cx} {K : PySem.W.Frag} {a D : Addr} {oe : Obj} {pn : List (Addr × Obj)} (h : X.K = K) (C : ExcC K D) (hz : Zc (.ref D) none oe) (hf : ∃ vs, oe.data = .fields vs) : CallR (X.suite a ((a, oe) :: pn)) (.builtin "isinstance") (rIsE K D a) := by subst h; exact call_isE C hz hf
/-- an error of a class is what a clause names that names the class -/
theorem exm_self {K : PySem.W.Frag} {S : Addr} (h1 : PySem.W.subIn K (.ref S) (.type "BaseException") = some true) (h2 : PySem.W.isClsIn K S = true) (h3 : PySem.W.typeIn K (.ref S) = some (.type "type")) (h4 : PySem.W.subIn K (.ref S) (.ref S) = some true) :
    PySem.W.exmOne K (.ref S) (.ref S) = some true := by
  have e1 : (PySem.W.subIn K (.ref S) (.type "BaseException") == some true) = true := by rw [h1] <;> rfl
  have e2 : ((PySem.W.clsIn K S).isSome && PySem.W.typeIn K (.ref S) == some (.type "type")) = true := by
    have h2' : (PySem.W.clsIn K S).isSome = true := h2
    rw [h2', h3] <;> rfl
  show (if (PySem.W.subIn K (.ref S) (.type "BaseException") == some true) = true then (if ((PySem.W.clsIn K S).isSome && PySem.W.typeIn K (.ref S) == some (.type "type")) = true then PySem.W.subIn K (.ref S) (.ref S) else none) else none) = some true
  rw [if_pos e1, if_pos e2]
  exact h4
end RD

namespace MM
/-! rounds of a permutation -/
def it (f : Nat → Nat) : Nat → Nat → Nat
  | 0, h => h
  | i + 1, h => f (it f i h)
theorem it_one (f : Nat → Nat) : ∀ i h, it f (i + 1) h = it f i (f h)
  | 0, h => rfl
  | i + 1, h => by
    show f (it f (i + 1) h) = f (it f i (f h))
    rw [it_one f i h]
theorem it_add (f : Nat → Nat) : ∀ i j h, it f (i + j) h = it f i (it f j h)
  | 0, j, h => by rw [Nat.zero_add]; rfl
  | i + 1, j, h => by
    rw [Nat.succ_add]
    show f (it f (i + j) h) = f (it f i (it f j h))
    rw [it_add f i j h]
structure PermOn (f : Nat → Nat) (n : Nat) : Prop where
  lt : ∀ x, x < n → f x < n
  inj : ∀ x y, x < n → y < n → f x = f y → x = y
section
variable {f : Nat → Nat} {n : Nat}
theorem PermOn.it_lt (p : PermOn f n) : ∀ i h, h < n → it f i h < n
  | 0, _, hh => hh
  | i + 1, h, hh => p.lt _ (p.it_lt i h hh)
theorem PermOn.it_inj (p : PermOn f n) : ∀ i x y, x < n → y < n → it f i x = it f i y → x = y
  | 0, _, _, _, _, e => e
  | i + 1, x, y, hx, hy, e => p.it_inj i x y hx hy (p.inj _ _ (p.it_lt i x hx) (p.it_lt i y hy) e)
theorem pigeon : ∀ (n : Nat) (g : Nat → Nat), (∀ i, i ≤ n → g i < n) → ∃ i j, i < j ∧ j ≤ n ∧ g i = g j
  | 0, g, h => absurd (h 0 (Nat.le_refl _)) (Nat.not_lt_zero _)
  | n + 1, g, h => by
    by_cases c : ∃ i, i ≤ n ∧ g i = g (n + 1)
    · obtain ⟨i, hi, e⟩ := c
      exact ⟨i, n + 1, by omega, Nat.le_refl _, e⟩
    · have c' : ∀ i, i ≤ n → g i ≠ g (n + 1) := fun i hi e => c ⟨i, hi, e⟩
      have hn := h (n + 1) (Nat.le_refl _)
      obtain ⟨i, j, hij, hj, e⟩ := pigeon n (fun i => if g i = n then g (n + 1) else g i) (fun i hi => by
        show (if g i = n then g (n + 1) else g i) < n
        by_cases q : g i = n
        · rw [if_pos q]
          have := c' i hi
          omega
        · rw [if_neg q]
          have := h i (by omega)
          omega)
      refine ⟨i, j, hij, by omega, ?_⟩
      have e' : (if g i = n then g (n + 1) else g i) = (if g j = n then g (n + 1) else g j) := e
      have ci := c' i (by omega)
      have cj := c' j hj
      by_cases qi : g i = n
      · by_cases qj : g j = n
        · rw [qi, qj]
        · rw [if_pos qi, if_neg qj] at e'
          exact absurd e'.symm cj
      · by_cases qj : g j = n
        · rw [if_neg qi, if_pos qj] at e'
          exact absurd e' ci
        · rw [if_neg qi, if_neg qj] at e'
          exact e'
theorem least {P : Nat → Prop} : ∀ k, P k → ∃ m, P m ∧ m ≤ k ∧ ∀ j, j < m → ¬ P j := by
  intro k
  induction k using Nat.strongRecOn with
  | ind k ih =>
    intro hk
    by_cases c : ∃ j, j < k ∧ P j
    · obtain ⟨j, hj, pj⟩ := c
      obtain ⟨m, pm, hm, hl⟩ := ih j hj pj
      exact ⟨m, pm, by omega, hl⟩
    · exact ⟨k, hk, Nat.le_refl _, fun j hj pj => c ⟨j, hj, pj⟩⟩
/-- the round of h has k members -/
structure Per (f : Nat → Nat) (h k : Nat) : Prop where
  pos : 0 < k
  back : it f k h = h
  least : ∀ j, 0 < j → j < k → it f j h ≠ h
theorem PermOn.per (p : PermOn f n) {h : Nat} (hh : h < n) : ∃ k, k ≤ n ∧ Per f h k := by
  obtain ⟨i, j, hij, hj, e⟩ := pigeon n (fun i => it f i h) fun i _ => p.it_lt i h hh
  have e2 : it f i h = it f i (it f (j - i) h) := by
    rw [← it_add]
    have : i + (j - i) = j := by omega
    rw [this]
    exact e
  have e3 : it f (j - i) h = h := (p.it_inj i _ _ hh (p.it_lt _ h hh) e2).symm
  obtain ⟨m, ⟨pm, bm⟩, hm, hl⟩ := MM.least (P := fun k => 0 < k ∧ it f k h = h) (j - i) ⟨by omega, e3⟩
  exact ⟨m, by omega, pm, bm, fun j hj hjm e => hl j hjm ⟨hj, e⟩⟩
def cycGo (f : Nat → Nat) (h0 : Nat) : Nat → Nat → List Nat
  | 0, _ => []
  | k + 1, x => if x = h0 then [] else x :: cycGo f h0 k (f x)
def cyc (f : Nat → Nat) (n h : Nat) : List Nat := h :: cycGo f h n (f h)
theorem cycGo_per {h k : Nat} (p : Per f h k) : ∀ (m i fuel : Nat), i + m = k → 0 < i → m ≤ fuel → cycGo f h fuel (it f i h) = (List.range' i m).map (fun j => it f j h)
  | 0, i, fuel, e, _, _ => by
    have e' : it f i h = h := by
      have : i = k := by omega
      rw [this]
      exact p.back
    rw [e']
    cases fuel with
    | zero => rfl
    | succ q =>
      show (if h = h then [] else _) = _
      rw [if_pos rfl]
      rfl
  | m + 1, i, 0, _, _, hf => by omega
  | m + 1, i, fuel + 1, e, hi, hf => by
    show (if it f i h = h then [] else it f i h :: cycGo f h fuel (f (it f i h))) = _
    rw [if_neg (p.least i hi (by omega)), List.range'_succ, List.map_cons]
    have := cycGo_per p m (i + 1) fuel (by omega) (by omega) (by omega)
    rw [← this]
    rfl
theorem cyc_per {h k : Nat} (p : Per f h k) (hk : k ≤ n + 1) : cyc f n h = (List.range k).map (fun j => it f j h) := by
  have pp := p.pos
  obtain ⟨m, rfl⟩ : ∃ m, k = m + 1 := ⟨k - 1, by omega⟩
  rw [List.range_eq_range', List.range'_succ, List.map_cons]
  show h :: cycGo f h n (it f 1 h) = h :: _
  rw [cycGo_per p m 1 n (by omega) (by omega) (by omega)]
theorem Per.mul {h k : Nat} (p : Per f h k) : ∀ q, it f (k * q) h = h
  | 0 => rfl
  | q + 1 => by
    rw [Nat.mul_succ, it_add, p.back]
    exact p.mul q
theorem mem_cyc (p : PermOn f n) {h x : Nat} (hh : h < n) : x ∈ cyc f n h ↔ ∃ i, x = it f i h := by
  obtain ⟨k, hk, pk⟩ := p.per hh
  rw [cyc_per pk (by omega), List.mem_map]
  constructor
  · rintro ⟨j, _, rfl⟩
    exact ⟨j, rfl⟩
  · rintro ⟨i, rfl⟩
    refine ⟨i % k, List.mem_range.mpr (Nat.mod_lt _ pk.pos), ?_⟩
    have e : i = i % k + k * (i / k) := by
      have := Nat.mod_add_div i k
      omega
    show it f (i % k) h = it f i h
    have e2 : it f i h = it f (i % k + k * (i / k)) h := by rw [← e]
    rw [e2, it_add, pk.mul]
theorem it_back (p : PermOn f n) {h : Nat} (hh : h < n) (i : Nat) : ∃ j, h = it f j (it f i h) := by
  obtain ⟨k, hk, pk⟩ := p.per hh
  refine ⟨(k - 1) * i, ?_⟩
  rw [← it_add]
  have : (k - 1) * i + i = k * i := by
    have hp := pk.pos
    obtain ⟨m, rfl⟩ : ∃ m, k = m + 1 := ⟨k - 1, by omega⟩
    show m * i + i = (m + 1) * i
    rw [Nat.succ_mul]
  rw [this, pk.mul]
theorem cyc_lt (p : PermOn f n) {h x : Nat} (hh : h < n) (hx : x ∈ cyc f n h) : x < n := by
  obtain ⟨i, rfl⟩ := (mem_cyc p hh).mp hx
  exact p.it_lt i h hh
theorem cyc_symm (p : PermOn f n) {h x : Nat} (hh : h < n) (hx : x ∈ cyc f n h) : h ∈ cyc f n x := by
  have hl := cyc_lt p hh hx
  obtain ⟨i, rfl⟩ := (mem_cyc p hh).mp hx
  exact (mem_cyc p hl).mpr (it_back p hh i)
theorem cyc_trans (p : PermOn f n) {h x y : Nat} (hh : h < n) (hx : x ∈ cyc f n h) (hy : y ∈ cyc f n x) : y ∈ cyc f n h := by
  have hl := cyc_lt p hh hx
  obtain ⟨j, rfl⟩ := (mem_cyc p hl).mp hy
  obtain ⟨i, rfl⟩ := (mem_cyc p hh).mp hx
  exact (mem_cyc p hh).mpr ⟨j + i, (it_add f j i h).symm⟩
theorem cyc_self (h : Nat) : h ∈ cyc f n h := List.mem_cons_self
theorem cyc_len (p : PermOn f n) {h : Nat} (hh : h < n) : (cyc f n h).length ≤ n := by
  obtain ⟨k, hk, pk⟩ := p.per hh
  rw [cyc_per pk (by omega), List.length_map, List.length_range]
  exact hk
theorem cyc_nodup (p : PermOn f n) {h : Nat} (hh : h < n) : (cyc f n h).Nodup := by
  obtain ⟨k, hk, pk⟩ := p.per hh
  rw [cyc_per pk (by omega)]
  refine List.pairwise_map.mpr (List.Pairwise.imp_of_mem ?_ (List.pairwise_lt_range (n := k)))
  intro i j hi hj hij e
  have hj' := List.mem_range.mp hj
  have e2 : it f i h = it f i (it f (j - i) h) := by
    rw [← it_add]
    have : i + (j - i) = j := by omega
    rw [this]
    exact e
  exact pk.least (j - i) (by omega) (by omega) (p.it_inj i _ _ hh (p.it_lt _ h hh) e2).symm
theorem cyc_at (p : PermOn f n) {h i : Nat} (hh : h < n) (hi : i < (cyc f n h).length) : (cyc f n h)[i]? = some (it f i h) := by
  obtain ⟨k, hk, pk⟩ := p.per hh
  rw [cyc_per pk (by omega), List.length_map, List.length_range] at hi
  rw [cyc_per pk (by omega), List.getElem?_map, List.getElem?_range hi]
  rfl
theorem cyc_end (p : PermOn f n) {h : Nat} (hh : h < n) : it f (cyc f n h).length h = h := by
  obtain ⟨k, hk, pk⟩ := p.per hh
  rw [cyc_per pk (by omega), List.length_map, List.length_range]
  exact pk.back
/-! the rounds, each from its least member on -/
def isMin (f : Nat → Nat) (n h : Nat) : Bool := (cyc f n h).all fun x => decide (h ≤ x)
def rnds (f : Nat → Nat) (n : Nat) : Nat → List (List Nat)
  | 0 => []
  | m + 1 => rnds f n m ++ (if isMin f n m = true then [cyc f n m] else [])
theorem isMin_iff {h : Nat} : isMin f n h = true ↔ ∀ x ∈ cyc f n h, h ≤ x := by
  unfold isMin
  rw [List.all_eq_true]
  exact ⟨fun q x hx => of_decide_eq_true (q x hx), fun q x hx => decide_eq_true (q x hx)⟩
theorem mem_rnds {c : List Nat} : ∀ m, c ∈ rnds f n m ↔ ∃ g, g < m ∧ isMin f n g = true ∧ c = cyc f n g
  | 0 => by
    constructor
    · intro h; cases h
    · rintro ⟨g, hg, _⟩; omega
  | m + 1 => by
    show c ∈ rnds f n m ++ (if isMin f n m = true then [cyc f n m] else []) ↔ _
    rw [List.mem_append, mem_rnds m]
    constructor
    · rintro (⟨g, hg, r⟩ | h)
      · exact ⟨g, by omega, r⟩
      · by_cases q : isMin f n m = true
        · rw [if_pos q] at h
          exact ⟨m, by omega, q, List.mem_singleton.mp h⟩
        · rw [if_neg q] at h
          cases h
    · rintro ⟨g, hg, q, e⟩
      by_cases hm : g = m
      · subst hm
        right
        rw [if_pos q]
        exact List.mem_singleton.mpr e
      · exact .inl ⟨g, by omega, q, e⟩
theorem mem_flat {x m : Nat} : x ∈ (rnds f n m).flatten ↔ ∃ g, g < m ∧ isMin f n g = true ∧ x ∈ cyc f n g := by
  rw [List.mem_flatten]
  constructor
  · rintro ⟨c, hc, hx⟩
    obtain ⟨g, hg, q, rfl⟩ := (mem_rnds m).mp hc
    exact ⟨g, hg, q, hx⟩
  · rintro ⟨g, hg, q, hx⟩
    exact ⟨_, (mem_rnds m).mpr ⟨g, hg, q, rfl⟩, hx⟩
theorem has_min (p : PermOn f n) {h : Nat} (hh : h < n) : ∃ g, g ≤ h ∧ g ∈ cyc f n h ∧ isMin f n g = true := by
  obtain ⟨g, hg, hl, hm⟩ := MM.least (P := fun x => x ∈ cyc f n h) h (cyc_self h)
  refine ⟨g, hl, hg, isMin_iff.mpr fun x hx => ?_⟩
  have hx' := cyc_trans p hh hg hx
  exact Nat.le_of_not_lt fun z => hm x z hx'
theorem not_min_in (p : PermOn f n) {h : Nat} (hh : h < n) (q : isMin f n h = false) : h ∈ (rnds f n h).flatten := by
  obtain ⟨g, hg, hm, hq⟩ := has_min p hh
  have hne : g ≠ h := fun e => by rw [e, q] at hq; cases hq
  exact mem_flat.mpr ⟨g, by omega, hq, cyc_symm p hh hm⟩
theorem min_out (p : PermOn f n) {h x : Nat} (hh : h < n) (q : isMin f n h = true) (hx : x ∈ cyc f n h) : x ∉ (rnds f n h).flatten := fun hf => by
  obtain ⟨g, hg, hgm, hxg⟩ := mem_flat.mp hf
  have h1 : g ∈ cyc f n x := cyc_symm p (by omega) hxg
  have := isMin_iff.mp q g (cyc_trans p hh hx h1)
  omega
theorem rnds_len : ∀ m, (rnds f n m).length ≤ m
  | 0 => Nat.le_refl _
  | m + 1 => by
    show (rnds f n m ++ (if isMin f n m = true then [cyc f n m] else [])).length ≤ m + 1
    rw [List.length_append]
    have := rnds_len m
    by_cases q : isMin f n m = true
    · rw [if_pos q]; show _ + 1 ≤ _; omega
    · rw [if_neg q]; show _ + 0 ≤ _; omega
theorem rnds_each (p : PermOn f n) {m : Nat} (hm : m ≤ n) {c : List Nat} (hc : c ∈ rnds f n m) : c.length ≤ n ∧ 0 < c.length := by
  obtain ⟨g, hg, _, rfl⟩ := (mem_rnds m).mp hc
  exact ⟨cyc_len p (by omega), Nat.succ_pos _⟩
theorem rnds_nodup (p : PermOn f n) : ∀ m, m ≤ n → (rnds f n m).flatten.Nodup
  | 0, _ => List.nodup_nil
  | m + 1, hm => by
    show (rnds f n m ++ (if isMin f n m = true then [cyc f n m] else [])).flatten.Nodup
    by_cases q : isMin f n m = true
    · rw [if_pos q, List.flatten_append]
      refine List.nodup_append.mpr ⟨rnds_nodup p m (by omega), ?_, ?_⟩
      · simpa using cyc_nodup p (show m < n by omega)
      · intro x hx y hy e
        subst e
        have hy' : x ∈ cyc f n m := by simpa using hy
        exact min_out p (by omega) q hy' hx
    · rw [if_neg q, List.append_nil]
      exact rnds_nodup p m (by omega)
end
theorem perm_erase {α : Type} : ∀ (l : List α) (i : Nat) (h : i < l.length), (l[i] :: l.eraseIdx i).Perm l
  | a :: l, 0, _ => List.Perm.refl _
  | a :: l, i + 1, h => by
    have hi : i < l.length := Nat.lt_of_succ_lt_succ h
    show (l[i]'hi :: a :: l.eraseIdx i).Perm (a :: l)
    exact (List.Perm.swap a _ _).trans (List.Perm.cons a (perm_erase l i hi))
/-! meshes as lists of next halves -/
def fn (st : List Nat) (x : Nat) : Nat := st.getD x 0
def tw (h : Nat) : Nat := if h % 2 = 0 then h + 1 else h - 1
def inv (ns : List Nat) : List Nat := (List.range ns.length).map fun h => ns.idxOf h
def stp (ns : List Nat) (b : Bool) : List Nat := if b = true then ns else (inv ns).map tw
structure IsMesh (ns : List Nat) : Prop where
  perm : ns.Perm (List.range ns.length)
  even : ns.length % 2 = 0
theorem tw_tw (h : Nat) : tw (tw h) = h := by
  unfold tw
  by_cases q : h % 2 = 0
  · rw [if_pos q, if_neg (by omega)]; omega
  · rw [if_neg q, if_pos (by omega)]; omega
theorem tw_inj {a b : Nat} (e : tw a = tw b) : a = b := by rw [← tw_tw a, e, tw_tw]
theorem tw_lt {h n : Nat} (hn : n % 2 = 0) (hh : h < n) : tw h < n := by
  unfold tw
  by_cases q : h % 2 = 0
  · rw [if_pos q]; omega
  · rw [if_neg q]; omega
theorem fn_at {st : List Nat} {x : Nat} (h : x < st.length) : st[x]? = some (fn st x) := by
  unfold fn
  rw [List.getD_eq_getElem?_getD, List.getElem?_eq_getElem h]
  rfl
section
variable {ns : List Nat}
theorem IsMesh.lt (m : IsMesh ns) {x : Nat} (h : x ∈ ns) : x < ns.length := List.mem_range.mp (m.perm.mem_iff.mp h)
theorem IsMesh.mem (m : IsMesh ns) {x : Nat} (h : x < ns.length) : x ∈ ns := m.perm.mem_iff.mpr (List.mem_range.mpr h)
theorem IsMesh.nodup (m : IsMesh ns) : ns.Nodup := m.perm.nodup_iff.mpr List.nodup_range
theorem fn_mem {st : List Nat} {x : Nat} (h : x < st.length) : fn st x ∈ st := List.mem_of_getElem? (fn_at h)
theorem IsMesh.fnp (m : IsMesh ns) : PermOn (fn ns) ns.length where
  lt := fun x hx => m.lt (fn_mem hx)
  inj := fun x y hx hy e => by
    have h1 := fn_at hx
    have h2 := fn_at hy
    rw [e, ← h2] at h1
    exact (List.getElem?_inj hx m.nodup).mp h1
theorem inv_len : (inv ns).length = ns.length := by unfold inv; rw [List.length_map, List.length_range]
theorem idx_lt {x : Nat} (h : x ∈ ns) : ns.idxOf x < ns.length := List.idxOf_lt_length_iff.mpr h
theorem idx_at {x : Nat} (h : x ∈ ns) : ns[ns.idxOf x]? = some x := by
  rw [List.getElem?_eq_getElem (idx_lt h), List.getElem_idxOf (idx_lt h)]
theorem inv_at {x : Nat} (h : x < ns.length) : (inv ns)[x]? = some (ns.idxOf x) := by
  unfold inv
  rw [List.getElem?_map, List.getElem?_range h]
  rfl
theorem fn_inv {x : Nat} (h : x < ns.length) : fn (inv ns) x = ns.idxOf x := by
  have := fn_at (st := inv ns) (x := x) (by rw [inv_len]; exact h)
  rw [inv_at h] at this
  exact (Option.some.inj this).symm
theorem IsMesh.idx_inj (m : IsMesh ns) {x y : Nat} (hx : x ∈ ns) (hy : y ∈ ns) (e : ns.idxOf x = ns.idxOf y) : x = y := by
  have h1 := idx_at hx
  have h2 := idx_at hy
  rw [e, h2] at h1
  exact (Option.some.inj h1).symm
theorem stp_len (b : Bool) : (stp ns b).length = ns.length := by
  cases b
  · show ((inv ns).map tw).length = _
    rw [List.length_map, inv_len]
  · rfl
theorem stp_at {x : Nat} (h : x < ns.length) : (stp ns false)[x]? = some (tw (ns.idxOf x)) := by
  show ((inv ns).map tw)[x]? = _
  rw [List.getElem?_map, inv_at h]
  rfl
theorem fn_stp {x : Nat} (h : x < ns.length) : fn (stp ns false) x = tw (ns.idxOf x) := by
  have := fn_at (st := stp ns false) (x := x) (by rw [stp_len]; exact h)
  rw [stp_at h] at this
  exact (Option.some.inj this).symm
theorem IsMesh.stp (m : IsMesh ns) (b : Bool) : PermOn (fn (stp ns b)) ns.length := by
  cases b
  · refine ⟨fun x hx => ?_, fun x y hx hy e => ?_⟩
    · rw [fn_stp hx]
      exact tw_lt m.even (idx_lt (m.mem hx))
    · rw [fn_stp hx, fn_stp hy] at e
      exact m.idx_inj (m.mem hx) (m.mem hy) (tw_inj e)
  · exact m.fnp
end
end MM

namespace Pf
open PySem PySem.Spec PyProof.Rows L2
theorem sq {K : PySem.W.Frag} {H : Hp} {a : Addr} {xs : List V} (h : H a = some (.lst xs)) : SqL K H a xs := .inl (.inl h)
theorem st {K : PySem.W.Frag} {H : Hp} {a : Addr} {xs : List V} (h : H a = some (.tup xs)) : SqT K H a xs := .inl (.inl h)
theorem szl {n : Nat} (h : n ≤ 100000) : n ≤ sizeLine := Nat.le_trans h (by decide)
theorem szt {n : Nat} (h : n < 100000) : n < sizeLine := Nat.lt_of_lt_of_le h (by decide)
abbrev vn (n : Nat) : V := .int (n : Int)
def vns (l : List Nat) : List V := l.map vn
theorem vns_len (l : List Nat) : (vns l).length = l.length := List.length_map _
theorem vns_int (l : List Nat) : vns l = (l.map (fun n : Nat => (n : Int))).map V.int := by
  unfold vns
  rw [List.map_map]
  rfl
theorem vns_at {l : List Nat} {i x : Nat} (h : l[i]? = some x) : (vns l)[i]? = some (vn x) := by
  unfold vns
  rw [List.getElem?_map, h]
  rfl
theorem vns_app (l m : List Nat) : vns (l ++ m) = vns l ++ vns m := List.map_append
theorem of_vns {l : List Nat} {i : Nat} {x : V} (h : (vns l)[i]? = some x) : ∃ n, l[i]? = some n ∧ x = vn n := by
  unfold vns at h
  rw [List.getElem?_map] at h
  cases e : l[i]? with
  | none => rw [e] at h; cases h
  | some n => rw [e] at h; exact ⟨n, rfl, (Option.some.inj h).symm⟩
theorem at_n {xs : List V} {j : Nat} {v : V} (h : xs[j]? = some v) : atI xs ((j : Nat) : Int) = some v := atI_nat h
theorem ix_n {n j : Nat} (h : j < n) : ixN n ((j : Nat) : Int) = some j := by
  unfold ixN
  rw [if_pos (by omega), if_pos (by omega), Int.toNat_natCast]
/-! cuts -/
theorem cut_to (xs : List V) (k : Nat) : cutV xs none (some (k : Int)) = xs.take k := by
  unfold cutV
  rw [HT.sIx_none, HT.sIx_nat]
  show List.take (min k xs.length - 0) xs = _
  rw [Nat.sub_zero]
  by_cases h : k ≤ xs.length
  · rw [Nat.min_eq_left h]
  · rw [Nat.min_eq_right (by omega), List.take_length, List.take_of_length_le (by omega)]
theorem cut_from (xs : List V) (k : Nat) : cutV xs (some (k : Int)) none = xs.drop k := by
  unfold cutV
  rw [HT.sIx_none, HT.sIx_nat]
  by_cases h : k ≤ xs.length
  · rw [Nat.min_eq_left h]
    exact List.take_of_length_le (by rw [List.length_drop]; exact Nat.le_refl _)
  · rw [Nat.min_eq_right (by omega), List.drop_of_length_le (Nat.le_refl _), List.drop_of_length_le (by omega), List.take_nil]
/-! data -/
def dI (l : List Int) : PyData := .list (l.map PyData.int)
def dN (l : List Nat) : PyData := dI (l.map fun n : Nat => (n : Int))
def dLL (l : List (List Nat)) : PyData := .list (l.map dN)
theorem eqv_ints : ∀ l m : List Int, PyData.eqvAll (l.map PyData.int) (m.map PyData.int) = decide (l = m)
  | [], [] => by simp [PyData.eqvAll]
  | [], _ :: _ => by simp [PyData.eqvAll]
  | _ :: _, [] => by simp [PyData.eqvAll]
  | a :: l, b :: m => by
    simp only [List.map_cons, PyData.eqvAll, PyData.eqv, eqv_ints l m]
    by_cases e : a = b
    · subst e; simp
    · simp [e]
theorem eqv_dI (l m : List Int) : PyData.eqv (dI l) (dI m) = decide (l = m) := by
  unfold dI
  rw [PyData.eqv]
  exact eqv_ints l m
theorem map_nat_inj : ∀ {l m : List Nat}, l.map (fun n : Nat => (n : Int)) = m.map (fun n : Nat => (n : Int)) → l = m
  | [], [], _ => rfl
  | [], _ :: _, h => by cases h
  | _ :: _, [], h => by cases h
  | a :: l, b :: m, h => by
    rw [List.map_cons, List.map_cons, List.cons.injEq] at h
    rw [map_nat_inj h.2, Int.ofNat.inj h.1]
theorem eqv_dN (l m : List Nat) : PyData.eqv (dN l) (dN m) = decide (l = m) := by
  unfold dN
  rw [eqv_dI]
  by_cases e : l = m
  · rw [decide_eq_true e, e, decide_eq_true rfl]
  · rw [decide_eq_false e, decide_eq_false fun z => e (map_nat_inj z)]
theorem eqv_lls : ∀ l m : List (List Nat), PyData.eqvAll (l.map dN) (m.map dN) = decide (l = m)
  | [], [] => by simp [PyData.eqvAll]
  | [], _ :: _ => by simp [PyData.eqvAll]
  | _ :: _, [] => by simp [PyData.eqvAll]
  | a :: l, b :: m => by
    simp only [List.map_cons, PyData.eqvAll, eqv_dN, eqv_lls l m]
    by_cases e : a = b
    · subst e; simp
    · simp [e]
theorem eqv_dLL (l m : List (List Nat)) : PyData.eqv (dLL l) (dLL m) = decide (l = m) := by
  unfold dLL
  rw [PyData.eqv]
  exact eqv_lls l m
theorem lay_ints : ∀ l : List Int, PyData.canLayAll0 (l.map PyData.int) = true
  | [] => by simp [PyData.canLayAll0]
  | a :: l => by simp [PyData.canLayAll0, PyData.canLay0, lay_ints l]
theorem dep_ints : ∀ l : List Int, PyData.depthAll (l.map PyData.int) = 0
  | [] => by simp [PyData.depthAll]
  | a :: l => by simp [PyData.depthAll, PyData.depth, dep_ints l]
theorem sh_dI (l : List Int) : SeqAt.shaped (dI l) = true := by
  unfold SeqAt.shaped dI
  rw [PyData.canLay0, PyData.depth, lay_ints, dep_ints]
  rfl
theorem sh_dN (l : List Nat) : SeqAt.shaped (dN l) = true := sh_dI _
theorem lay_dN (l : List Nat) : PyData.canLay0 (dN l) = true := by
  unfold dN dI
  rw [PyData.canLay0]
  exact lay_ints _
theorem dep_dN (l : List Nat) : PyData.depth (dN l) = 1 := by
  unfold dN dI
  rw [PyData.depth, dep_ints]
theorem lay_lls : ∀ l : List (List Nat), PyData.canLayAll0 (l.map dN) = true
  | [] => by simp [PyData.canLayAll0]
  | a :: l => by simp [PyData.canLayAll0, lay_dN, lay_lls l]
theorem dep_lls : ∀ l : List (List Nat), PyData.depthAll (l.map dN) ≤ 1
  | [] => by simp [PyData.depthAll]
  | a :: l => by
    have := dep_lls l
    simp only [List.map_cons, PyData.depthAll, dep_dN]
    omega
theorem sh_dLL (l : List (List Nat)) : SeqAt.shaped (dLL l) = true := by
  unfold SeqAt.shaped dLL
  rw [PyData.canLay0, PyData.depth, lay_lls]
  have := dep_lls l
  simp
  omega
theorem dp_ints {K : PySem.W.Frag} {H : Hp} : ∀ l : List Int, DpAll K H (l.map V.int) (l.map PyData.int)
  | [] => .nil
  | a :: l => .cons (.int a) (dp_ints l)
theorem dp_I {K : PySem.W.Frag} {H : Hp} {a : Addr} {l : List Int} (h : SqL K H a (l.map V.int)) : Dp K H (.ref a) (dI l) := .lst h (dp_ints l)
theorem dp_N {K : PySem.W.Frag} {H : Hp} {a : Addr} {l : List Nat} (h : SqL K H a (vns l)) : Dp K H (.ref a) (dN l) := by
  rw [vns_int] at h
  exact dp_I h
/-- a list of lists of numbers, at p, its lists at ps -/
structure LL (H : Hp) (p : Addr) (ps : List Addr) (xss : List (List Nat)) : Prop where
  top : H p = some (.lst (ps.map V.ref))
  each : Paired (fun q xs => H q = some (.lst (vns xs))) ps xss
theorem paired_imp {α β : Type} {F G : α → β → Prop} (k : ∀ a b, F a b → G a b) : ∀ {l : List α} {m : List β}, Paired F l m → Paired G l m
  | _, _, .nil => .nil
  | _, _, .cons r t => .cons (k _ _ r) (paired_imp k t)
theorem LL.same {H H' : Hp} {p : Addr} {ps : List Addr} {xss : List (List Nat)} (h : LL H p ps xss) (s : Same H H') : LL H' p ps xss := ⟨s _ _ h.top, paired_imp (fun _ _ e => s _ _ e) h.each⟩
theorem dp_all {K : PySem.W.Frag} {H : Hp} : ∀ {ps : List Addr} {xss : List (List Nat)}, Paired (fun q xs => H q = some (.lst (vns xs))) ps xss → DpAll K H (ps.map V.ref) (xss.map dN)
  | _, _, .nil => .nil
  | _, _, .cons r t => .cons (dp_N (sq r)) (dp_all t)
theorem dp_LL {K : PySem.W.Frag} {H : Hp} {p : Addr} {ps : List Addr} {xss : List (List Nat)} (h : LL H p ps xss) : Dp K H (.ref p) (dLL xss) := .lst (sq h.top) (dp_all h.each)
theorem paired_app {α β : Type} {F : α → β → Prop} : ∀ {l l' : List α} {m m' : List β}, Paired F l m → Paired F l' m' → Paired F (l ++ l') (m ++ m')
  | _, _, _, _, .nil, s => s
  | _, _, _, _, .cons r t, s => .cons r (paired_app t s)
theorem paired_len {α β : Type} {F : α → β → Prop} : ∀ {l : List α} {m : List β}, Paired F l m → l.length = m.length
  | _, _, .nil => rfl
  | _, _, .cons _ t => by rw [List.length_cons, List.length_cons, paired_len t]
theorem paired_mem {α β : Type} {F : α → β → Prop} : ∀ {l : List α} {m : List β}, Paired F l m → ∀ a ∈ l, ∃ b ∈ m, F a b
  | _, _, .nil, _, h => by cases h
  | _, _, .cons (a := x) (b := y) r t, a, h => by
    rcases List.mem_cons.mp h with rfl | h
    · exact ⟨y, List.mem_cons_self, r⟩
    · obtain ⟨b, hb, f⟩ := paired_mem t a h
      exact ⟨b, List.mem_cons_of_mem _ hb, f⟩
theorem paired_upd {H : Hp} {p : Addr} {o : HO} : ∀ {l : List Addr} {m : List (List Nat)}, Paired (fun q xs => H q = some (.lst (vns xs))) l m → (∀ x ∈ l, x ≠ p) → Paired (fun q xs => (upd H p o) q = some (.lst (vns xs))) l m
  | _, _, .nil, _ => .nil
  | _, _, .cons r t, h => .cons (by rw [upd_ne (h _ List.mem_cons_self)]; exact r) (paired_upd t fun x hx => h x (List.mem_cons_of_mem _ hx))
theorem same_but {H H' : Hp} {p : Addr} {o : HO} (h : Same H H') (hp : H p = none) : Same H (upd H' p o) := RD.same_mut h hp
/-- all but what stands at a is as it was -/
def SameX (a : Addr) (H H' : Hp) : Prop := ∀ b o, H b = some o → b ≠ a → H' b = some o
theorem SameX.refl (a : Addr) (H : Hp) : SameX a H H := fun _ _ h _ => h
theorem SameX.trans {a : Addr} {H H1 H2 : Hp} (x : SameX a H H1) (y : SameX a H1 H2) : SameX a H H2 := fun b o h hb => y b o (x b o h hb) hb
theorem Same.x {a : Addr} {H H1 : Hp} (x : Same H H1) : SameX a H H1 := fun b o h _ => x b o h
theorem SameX.put {a : Addr} {H H1 : Hp} {o : HO} (x : SameX a H H1) : SameX a H (upd H1 a o) := fun b u h hb => by rw [upd_ne hb]; exact x b u h hb
theorem SameX.same {a : Addr} {H H1 : Hp} (x : SameX a H H1) (h : H a = none) : Same H H1 := fun b o e => x b o e (ne_of_none e h)
theorem SameX.mut {a : Addr} {H H' : Hp} {p : Addr} {o : HO} (e : SameX a H H') (h : H p = none) : SameX a H (upd H' p o) := fun b u hb hn => by
  rw [upd_ne (ne_of_none hb h)]
  exact e b u hb hn
theorem SameX.free {a : Addr} {H H' : Hp} (e : SameX a H H') {l : Addr} (h : H' l = Option.none) (hl : l ≠ a) : H l = Option.none := by
  cases q : H l with
  | none => rfl
  | some o =>
    rw [e l o q hl] at h
    cases h
theorem SameX.under {t : Addr} {H H1 H2 : Hp} (x : SameX t H1 H2) (s : Same H H1) (n : H t = none) : Same H H2 := fun b o e => x b o (s b o e) (ne_of_none e n)
theorem same_not {H H' : Hp} {p q : Addr} {o : HO} (_ : Same H H') (e : H p = some o) (n : H q = none) : p ≠ q := ne_of_none e n
end Pf

namespace RD
open PySem PySem.Spec PyProof.Rows L2
section
variable {σ : L2.St} {H : Hp} {Q : VK} {a b : Addr} {xs zs : List V}
theorem pop {y : V} (h : H a = some (.lst (xs ++ [y]))) (q : Q y (upd H a (.lst xs))) : rPop (.ref a) [] H Q := ⟨a, xs ++ [y], y, rfl, rfl, h, by simp, by rw [List.dropLast_concat]; exact q⟩
theorem ext (h : H a = some (.lst xs)) (h' : H b = some (.lst zs)) (hl : xs.length + zs.length ≤ sizeLine) (q : Q .non (upd H a (.lst (xs ++ zs)))) : rExtend (.ref a) [.ref b] H Q := ⟨a, b, xs, zs, rfl, rfl, h, h', hl, q⟩
theorem prop {C : Addr} {sp : Sp} {dvs : List V} {E : XK} {ta : TE} (h : ta σ H fun x H1 => ∃ a dx fs, x = .ref a ∧ H1 a = some (.ins C dx fs) ∧ sp (.ref a :: dvs) H1 Q E) : tProp C sp dvs E ta σ H Q := h
theorem min3 {i j k : Nat} (q : Q (.int ((min (min i j) k : Nat) : Int)) H) : rNuC3 nuMin3 [.int (i : Int), .int (j : Int), .int (k : Int)] H Q := by
  refine ⟨_, _, _, _, rfl, ?_, q⟩
  show (Option.map _ (some (decide ((j : Int) < (i : Int))))).bind _ = _
  show nuMin2 (if decide ((j : Int) < (i : Int)) = true then V.int j else V.int i) (.int k) = _
  by_cases h : (j : Int) < (i : Int)
  · rw [if_pos (decide_eq_true h)]
    show some (if decide ((k : Int) < (j : Int)) = true then V.int k else V.int j) = _
    by_cases h2 : (k : Int) < (j : Int)
    · rw [if_pos (decide_eq_true h2)]
      congr 2
      omega
    · rw [if_neg (by rw [decide_eq_false h2]; exact Bool.false_ne_true)]
      congr 2
      omega
  · rw [if_neg (by rw [decide_eq_false h]; exact Bool.false_ne_true)]
    show some (if decide ((k : Int) < (i : Int)) = true then V.int k else V.int i) = _
    by_cases h2 : (k : Int) < (i : Int)
    · rw [if_pos (decide_eq_true h2)]
      congr 2
      omega
    · rw [if_neg (by rw [decide_eq_false h2]; exact Bool.false_ne_true)]
      congr 2
      omega
/-- a comprehension over a list of objects, each with its datum -/
theorem lcP {K : PySem.W.Frag} {te : TE} {g : TG} {tt : TT} {vs : List Nat} {qs : List Addr} {β : Type} (ds : List β) (hq : SqL K H a (qs.map V.ref)) (hl : qs.length = ds.length) (hsz : qs.length ≤ sizeLine) (p : β → Bool) (f : β → V)
    (turn : ∀ (i : Nat) c d H1 (Q' : VK) (R' : Hp → Prop), qs[i]? = some c → ds[i]? = some d → Same H H1 → (p d = true → ∀ H4, Same H1 H4 → Q' (f d) H4) → (p d = false → ∀ H4, Same H1 H4 → R' H4) →
      g (.ref c) (wipe σ vs) H1 fun σ2 H3 => wipe σ2 vs = wipe σ vs ∧ tt σ2 H3 fun b H5 => if b = true then te σ2 H5 Q' else R' H5)
    (hd : ∀ H' q, H q = none → Same H H' → H' q = some (.lst (pick p f ds)) → Q (.ref q) H') :
    ∃ a', V.ref a = .ref a' ∧ (∃ ys, SqL K H a' ys) ∧ LR (Itl K a') g tt te vs σ H Q := by
  refine ⟨a, rfl, ⟨_, hq⟩, lcAny (walk_list (K := K) (a := a) (xs := qs.map V.ref)) ds (by rw [List.length_map]; exact hl.symm) (by rw [List.length_map]; exact hsz) p f hq (fun H' s => s.seq hq) (fun i H1 x H2 s y => ?_) (fun i b x H1 H2 Q' R' hb s y kT kF => ?_) hd⟩
  · obtain ⟨rfl, _⟩ := y
    exact Same.refl _
  · obtain ⟨rfl, y⟩ := y
    rw [List.getElem?_map] at y
    cases e : qs[i]? with
    | none => rw [e] at y; cases y
    | some c =>
      rw [e] at y
      cases y
      exact turn i c b _ Q' R' e hb s kT kF
/-- [a new list of numbers for each item] -/
theorem lcN {K : PySem.W.Frag} {te : TE} {g : TG} {tt : TT} {vs : List Nat} {β : Type} (ds : List β) (v : β → V) (F : β → List Nat) (hq : SqL K H a (ds.map v)) (hsz : ds.length ≤ 100000)
    (turn : ∀ (i : Nat) d H1 (Q' : VK) (R' : Hp → Prop), ds[i]? = some d → Same H H1 → (∀ H4 c, Same H1 H4 → H1 c = none → H4 c = some (.lst (Pf.vns (F d))) → Q' (.ref c) H4) →
      g (v d) (wipe σ vs) H1 fun σ2 H3 => wipe σ2 vs = wipe σ vs ∧ tt σ2 H3 fun b H5 => if b = true then te σ2 H5 Q' else R' H5)
    (hd : ∀ H' q qs, H q = none → Same H H' → (∀ x ∈ qs, H x = none ∧ x ≠ q) → Pf.LL H' q qs (ds.map F) → Q (.ref q) H') :
    ∃ a', V.ref a = .ref a' ∧ (∃ ys, SqL K H a' ys) ∧ LR (Itl K a') g tt te vs σ H Q := by
  refine ⟨a, rfl, ⟨_, hq⟩, ?_⟩
  intro D hD
  refine lc_it (walk_list (K := K) (a := a) (xs := ds.map v)) (fun i H1 => Same H H1 ∧ ∃ qs, (∀ x ∈ qs, H x = none ∧ x ≠ D) ∧ Pf.LL H1 D qs ((ds.take i).map F)) ⟨same_new hD, [], (fun x hx => nomatch hx), upd_same, .nil⟩ (fun i H1 _ hp => hp.1.seq hq) (fun i x H1 H2 hi hp y => ?_) (fun H1 hp => ?_)
  · obtain ⟨rfl, y⟩ := y
    obtain ⟨s1, qs, hqs, ll⟩ := hp
    rw [List.length_map] at hi
    have ga : ds[i]? = some ds[i] := List.getElem?_eq_getElem hi
    rw [List.getElem?_map, ga] at y
    cases y
    refine turn i ds[i] _ _ _ ga s1 fun H4 c s4 nc ec => ?_
    have ll4 := ll.same s4
    have hlen := Pf.paired_len ll4.each
    rw [List.length_map, List.length_take] at hlen
    have Dc : D ≠ c := ne_of_none ll.top nc
    refine ⟨_, ll4.top, by rw [List.length_map]; exact Pf.szt (by omega), same_mut (s1.trans s4) hD, qs ++ [c], fun x hx => ?_, by rw [upd_same, List.map_append]; rfl, ?_⟩
    · rcases List.mem_append.mp hx with hx | hx
      · exact hqs x hx
      · rw [List.mem_singleton.mp hx]
        exact ⟨s1.free nc, Dc.symm⟩
    · rw [take_one ga, List.map_append]
      refine Pf.paired_app (Pf.paired_upd ll4.each fun x hx => (hqs x hx).2) (.cons ?_ .nil)
      rw [upd_ne Dc.symm]
      exact ec
  · obtain ⟨s1, qs, hqs, ll⟩ := hp
    rw [List.length_map, List.take_length] at ll
    exact hd H1 D qs hD s1 hqs ll
theorem ipi {f : Int → Int → Int} {i j : Int} (q : Q (.int (f i j)) H) : ipI f (.int i) (.int j) H Q := ⟨i, j, rfl, rfl, q⟩
theorem slT {K : PySem.W.Frag} {lo hi : Option Int} (h : SqT K H a xs) (hn : ¬ (HT.sIx xs.length 0 lo = 0 ∧ HT.sIx xs.length xs.length hi = xs.length)) (q : ∀ p, H p = none → Q (.ref p) (upd H p (.tup (cutV xs lo hi)))) : rSlT K (.ref a) lo hi H Q := ⟨a, xs, rfl, h, hn, q⟩
theorem lenO {C : Addr} {sp : Sp} {E : XK} {dx : Addr} {fs : List (Str × V)} (h : H a = some (.ins C dx fs)) (q : sp [.ref a] H (fun v H' => ∃ z : Int, v = .int z ∧ 0 ≤ z ∧ z < 2 ^ 63 ∧ Q (.int z) H') E) : rLenOwn C sp E [.ref a] H Q := ⟨a, dx, fs, rfl, h, q⟩
end
end RD
namespace Pf
open PySem PySem.Spec PyProof.Rows L2
theorem paired_at {α β : Type} {F : α → β → Prop} : ∀ {l : List α} {m : List β}, Paired F l m → ∀ {i : Nat} {a : α} {b : β}, l[i]? = some a → m[i]? = some b → F a b
  | _, _, .nil, i, a, b, h, _ => by cases h
  | _, _, .cons r t, 0, a, b, h, h' => by
    cases h
    cases h'
    exact r
  | _, _, .cons r t, i + 1, a, b, h, h' => paired_at t (by simpa using h) (by simpa using h')
theorem inV_vns (x : Nat) (l : List Nat) : inV (vn x) (vns l) = decide (x ∈ l) := by
  unfold vns
  induction l with
  | nil => simp [inV]
  | cons y r ih =>
    show (((y : Int) == (x : Int)) || inV (vn x) (r.map vn)) = _
    rw [ih]
    by_cases e : x = y
    · subst e; simp
    · have : ((y : Int) == (x : Int)) = false := by
        rw [beq_eq_false_iff_ne]
        intro z
        exact e (Int.ofNat.inj z).symm
      rw [this, Bool.false_or]
      simp [e]
theorem flat_vns (l : List Nat) : (vns l).all flatV = true := by
  unfold vns
  rw [List.all_map]
  exact List.all_eq_true.mpr fun _ _ => rfl
end Pf

namespace Pf
open PySem PySem.Spec PyProof.Rows L2 MM
/-! lists that are no mesh -/
def isIB : V → Bool
  | .int _ => true
  | .bl _ => true
  | _ => false
def isI : V → Bool
  | .int _ => true
  | _ => false
def toI : V → Int
  | .int i => i
  | _ => 0
theorem all_ints : ∀ {xs : List V}, xs.all isI = true → xs = (xs.map toI).map V.int
  | [], _ => rfl
  | x :: xs, h => by
    rw [List.all_cons, Bool.and_eq_true] at h
    cases x with
    | int i =>
      show V.int i :: xs = V.int i :: (xs.map toI).map V.int
      rw [← all_ints h.2]
    | _ => exact absurd h.1 (by intro z; cases z)
/-- the integers are those from 0 on, each once -/
def Full (zs : List Int) : Prop := zs.Perm ((List.range zs.length).map (fun n : Nat => (n : Int)))
structure Bad (xs : List V) : Prop where
  ib : xs.all isIB = true
  no : xs.length % 2 = 1 ∨ xs.all isI = false ∨ ¬ Full (xs.map toI)
theorem ib_int (zs : List Int) : (zs.map V.int).all isIB = true := by
  rw [List.all_eq_true]
  intro x hx
  obtain ⟨z, _, rfl⟩ := List.mem_map.mp hx
  rfl
theorem to_int (zs : List Int) : (zs.map V.int).map toI = zs := by
  rw [List.map_map]
  exact List.map_id _
theorem full_mem {zs : List Int} (h : Full zs) {z : Int} (hz : z ∈ zs) : 0 ≤ z ∧ z < (zs.length : Int) := by
  obtain ⟨n, hn, rfl⟩ := List.mem_map.mp (h.mem_iff.mp hz)
  have := List.mem_range.mp hn
  omega
theorem full_nodup {zs : List Int} (h : Full zs) : zs.Nodup := by
  refine h.nodup_iff.mpr (List.pairwise_map.mpr (List.Pairwise.imp ?_ (List.pairwise_lt_range (n := zs.length))))
  intro a b hab e
  have : (a : Int) = b := e
  omega
theorem bad_odd {zs : List Int} (h : zs.length % 2 = 1) : Bad (zs.map V.int) := ⟨ib_int zs, .inl (by rw [List.length_map]; exact h)⟩
theorem bad_full {zs : List Int} (h : ¬ Full zs) : Bad (zs.map V.int) := ⟨ib_int zs, .inr (.inr (by rw [to_int]; exact h))⟩
theorem bad_out {zs : List Int} {z : Int} (hz : z ∈ zs) (h : z < 0 ∨ (zs.length : Int) ≤ z) : Bad (zs.map V.int) := bad_full fun f => by
  have := full_mem f hz
  omega
theorem full_mesh {zs : List Int} (h : Full zs) : ∃ ns : List Nat, zs = ns.map (fun n : Nat => (n : Int)) ∧ ns.Perm (List.range ns.length) := by
  refine ⟨zs.map Int.toNat, ?_, ?_⟩
  · rw [List.map_map]
    have : ∀ z ∈ zs, ((fun n : Nat => (n : Int)) ∘ Int.toNat) z = z := fun z hz => by
      have := full_mem h hz
      show ((z.toNat : Nat) : Int) = z
      omega
    rw [List.map_congr_left this]
    exact (List.map_id _).symm
  · have := h.map Int.toNat
    rw [List.map_map] at this
    rw [List.length_map]
    refine this.trans (List.Perm.of_eq ?_)
    refine (List.map_congr_left fun n _ => ?_).trans (List.map_id _)
    rfl
theorem mesh_full {ns : List Nat} (h : ns.Perm (List.range ns.length)) : Full (ns.map (fun n : Nat => (n : Int))) := by
  unfold Full
  rw [List.length_map]
  exact h.map _
theorem sorted_iff {zs so : List Int} (p : so.Perm zs) (o : so.Pairwise (· ≤ ·)) : so = (List.range zs.length).map (fun n : Nat => (n : Int)) ↔ Full zs := by
  constructor
  · intro e
    rw [e] at p
    exact p.symm
  · intro f
    refine List.Perm.eq_of_pairwise (le := (· ≤ ·)) (fun x y _ _ h1 h2 => Int.le_antisymm h1 h2) o ?_ (p.trans f)
    refine List.pairwise_map.mpr (List.Pairwise.imp ?_ (List.pairwise_lt_range (n := zs.length)))
    intro x y hxy
    omega
end Pf

namespace RD
open PySem PySem.Spec PyProof.Rows L2 PySem.W
/-! several clauses, each with a name for the error -/
def wManyA (K : PySem.W.Frag) (i : Nat) (Wo : WX) (D : Ends) : List (Value × (Addr → Value → Option Addr → TS)) → WX
  | [] => Wo
  | (c, ts) :: r => fun cls d σ H => ∃ b, PySem.W.exmOne K cls c = some b ∧ (b = true → ∀ a, H a = none → ts a cls d ⟨fun σ' H' => D.nx (σ'.set i none) H', D.rt, fun σ' H' => D.bk (σ'.set i none) H', fun σ' H' => D.ct (σ'.set i none) H'⟩ (σ.set i (some (.ref a))) H) ∧ (b = false → wManyA K i Wo D r cls d σ H)
inductive HdsA (X : Cx) (n : Str) : List ExceptHandler → List (Value × (Addr → Value → Option Addr → TS)) → Prop
  | nil : HdsA X n [] []
  | cons {x : Str} {c : Value} {ts : Addr → Value → Option Addr → TS} {b0 : Stmt} {suite : List Stmt} {np pos' : Pos} {hs : List ExceptHandler} {l : List (Value × (Addr → Value → Option Addr → TS))} (hc : Names X x c)
      (su : ∀ (a : Addr) (oe : Obj) (cls : Value) (d : Option Addr) (pn : List (Addr × Obj)), Zc cls d oe → (∃ vs, oe.data = .fields vs) → PSs (X.suite a ((a, oe) :: pn)) (b0 :: suite) (ts a cls d)) (r : HdsA X n hs l) :
      HdsA X n (.ExceptHandler (some (.Name x np)) (some n) (b0 :: suite) pos' :: hs) ((c, ts) :: l)
section
variable {X : Cx} {body : List Stmt} {h0 : ExceptHandler} {hds : List ExceptHandler} {l : List (Value × (Addr → Value → Option Addr → TS))} {pos : Pos} {tb : WX → TS} {Wo : WX} {n : Str} {i : Nat}
theorem ps_try_manyA (hs : X.stack = X.env :: X.outer) (hf : X.env.frame = some X.env.locals) (hN : X.N.Nodup) (hi : X.N[i]? = some n) (hln : X.env.kindOf n = some .local) (tk : Takes X Wo)
    (hb : ∀ (W : WX) (pn : List (Addr × Obj)) (xe : Value → Shared → Prop), Takes (X.tr pn xe) W → PassesOwn (model X.prog X.w) X.A X.env xe → PSs (X.tr pn xe) body (tb W))
    (hh : HdsA X n (h0 :: hds) l) : PS X (.Try body (h0 :: hds) [] [] pos) (fun D σ H => tb (wManyA X.K i Wo D l) D σ H) := by
  refine ⟨fun pins s σ H D I hw => ?_⟩
  have ok := I.ok
  have hfr : X.A.frames = some (X.env :: X.outer) := by rw [ok.frames, hs]
  have hloc : Loc X.env.scope n := .inl hln
  refine wpAny_Try_except (wpAny_mono ((hb (wManyA X.K i Wo D l) (X.pn ++ pins) (fun e s1 => wpAny (model X.prog X.w) X.A (noteFrame e X.env) (fun _ s2 => wpAny (model X.prog X.w) X.A (setFlight e none) (fun _ s3 => wpAny (model X.prog X.w) X.A (handleBy e X.env (h0 :: hds)) (SP X pins D) X.xe s3) X.xe s2) X.xe s1) (fun u s' xx => ?_) PassesOwn.looking).run [] s σ H D (I.toTry _) hw) (fun fl s1 hsp => ?_) (fun e s1 he => he))
  · obtain ⟨a, B, sI, pins', σ', H', cls, d, rfl, J', nb, up, sky, na, os, ag, ww⟩ := xx
    have J : Inv X pins σ' H' sI := J'.ofTry ok
    have sk : Sky B (X.env :: X.outer) a (Zc cls d) X.env.locals s'.heap := by rw [← hs]; exact sky
    show wpAny (model X.prog X.w) X.A (noteFrame (.ref a) X.env) _ _ _
    refine Sky.land Zc.steady hfr hf sk fun k3 f3 u3 => ?_
    have J3 : Inv X pins σ' H' { s' with heap := k3 } := J.landed nb f3.1 (up.trans u3) os ag
    obtain ⟨o3, v3, e3, z3, d3⟩ := f3.there
    have nfr : a ∉ frs (X.env :: X.outer) := fun hm => by
      obtain ⟨_, o', e', hnf⟩ := f3.2.2.1.mem hm
      rw [e3] at e'; cases e'; exact hnf _ d3
    have nL : a ≠ X.env.locals := fun z => nfr (List.mem_filterMap.mpr ⟨X.env, List.mem_cons_self, by rw [hf, z]⟩)
    have nF : a ∉ X.fs := fun hm => by
      obtain ⟨e, he, q⟩ := List.mem_filterMap.mp hm; exact nfr (List.mem_filterMap.mpr ⟨e, List.mem_cons_of_mem _ he, q⟩)
    have S3 := J3.suite e3 d3 na nL nF
    have go : ∀ {hd' : List ExceptHandler} {l' : List (Value × (Addr → Value → Option Addr → TS))}, HdsA X n hd' l' → wManyA X.K i Wo D l' cls d σ' H' → wpAny (model X.prog X.w) X.A (handleBy (.ref a) X.env hd') (SP X pins D) X.xe { s' with heap := k3 } := by
      intro hd' l' hk
      induction hk with
      | nil =>
        intro w0
        refine wpAny_handleBy_nil ?_
        obtain ⟨k1, k2, k4, oe, vs, Tb, oT, ts', he, hz, hd, h1, hr⟩ := id f3
        unfold PySem.passOn
        refine wpAny_bind (wpAny_field he hd h1 ?_)
        rw [if_neg (show ¬ ((Value.ref Tb == Value.none) = true) from by simp)]
        have fin : wpAny (model X.prog X.w) X.A (setFlight (.ref a) X.env.frame) (fun _ s4 => wpAny (model X.prog X.w) X.A (throw (.ref a) : Sem Flow) (SP X pins D) X.xe s4) X.xe { s' with heap := k3 } := by
          rw [hf]
          refine HandSPX.setFlight_upZ f3 fun h4 hh4 up4 => wpAny_throw (tk _ _ ⟨a, B, sI, pins, σ', H', cls, d, rfl, J, nb, (up.trans u3).trans up4, .inr (.inr (by rw [hs]; exact hh4)), na, os, ag, w0⟩)
        first | exact wpAny_bind (wpAny_pure (wpAny_bind fin)) | exact wpAny_bind fin
      | @cons x c ts b0 suite np pos' hds2 l2 hc hsu r ih =>
        intro w0
        obtain ⟨b, hb1, hyes, hno⟩ := w0
        refine wpAny_handleBy_cons (codeAny_handlers_test ?_) (by intro q; cases q)
        have LT : PySem.W.Looks (model X.prog X.w) k3 (typeOf (.ref a)) cls := fun A Q E s k q => wpAny_typeOf_ref (k _ _ e3) (by rw [z3.1]; exact q)
        have LM := PySem.W.exm_one (M := model X.prog X.w) (J3.kIn) LT hb1
        have test : ∀ {Q : Value → Shared → Prop} {E : Value → Shared → Prop}, Q c { s' with heap := k3 } → wpAny (model X.prog X.w) (X.A.mark (some (.ref a))) (eval (.Name x np) X.env) Q E { s' with heap := k3 } := fun {Q E} q => by
          obtain ⟨hg, hdbg, hm | ⟨hm, hv, hnn⟩⟩ := hc
          · exact ld_glob (X := X.suite a ((a, o3) :: (X.pn ++ pins))) S3 hg hm q hdbg
          · exact ld_blt (X := X.suite a ((a, o3) :: (X.pn ++ pins))) S3 hg hm hv q hnn hdbg
        refine test (LM.here ?_)
        cases b with
        | true =>
          refine codeAny_handlers_suite_as (HandSPX.lands_againZ f3 fun h4 f4 up4 => ?_)
          have J4 : Inv X pins σ' H' { s' with heap := h4 } := J.landed nb f4.1 ((up.trans u3).trans up4) os ag
          obtain ⟨o4, v4, e4, z4, d4⟩ := f4.there
          have S4 := J4.suite e4 d4 na nL nF
          refine store_ok (X := X.suite a ((a, o4) :: (X.pn ++ pins))) (v := .ref a) S4 hN hi hloc rfl (fun s5 S5 => ?_) (.inr hln)
          refine wpAny_mono ((hsu a o4 cls d (X.pn ++ pins) z4 ⟨_, d4⟩).run [] s5 _ H' _ S5 (hyes rfl a na)) (fun f s6 hsp => ?_) (fun _ _ z => False.elim z)
          have end_ : ∀ {σ6 : L2.St} {H6 : Hp} {Q : Shared → Prop}, Inv (X.suite a ((a, o4) :: (X.pn ++ pins))) [] σ6 H6 s6 → (∀ s7, Inv X pins (σ6.set i none) H6 s7 → Q s7) → wpAny (model X.prog X.w) X.A (do bindName X.env n .none; unbindBehindTheSuite X.env n pos') (fun _ s7 => Q s7) X.xe s6 := fun {σ6 H6 Q} S6 hq => gone_ok (S6.unsuite ok) hN hi hln hq
          cases f with
          | next => obtain ⟨σ6, H6, S6, q6⟩ := hsp; exact end_ S6 fun s7 J7 => ⟨_, _, J7, q6⟩
          | brk => obtain ⟨σ6, H6, S6, q6⟩ := hsp; exact end_ S6 fun s7 J7 => ⟨_, _, J7, q6⟩
          | cont => obtain ⟨σ6, H6, S6, q6⟩ := hsp; exact end_ S6 fun s7 J7 => ⟨_, _, J7, q6⟩
          | ret u => obtain ⟨v6, σ6, H6, S6, r6, q6⟩ := hsp; exact end_ S6 fun s7 J7 => ⟨_, _, _, J7, r6, q6⟩
        | false =>
          show wpAny _ X.A (handleBy (.ref a) X.env hds2) _ _ _
          exact ih (hno rfl)
    exact go hh ww
  · cases fl with
    | next => obtain ⟨σ', H', J', q⟩ := hsp; exact wpAny_execs_nil ⟨σ', H', J'.ofTry ok, q⟩
    | brk => obtain ⟨σ', H', J', q⟩ := hsp; exact ⟨σ', H', J'.ofTry ok, q⟩
    | cont => obtain ⟨σ', H', J', q⟩ := hsp; exact ⟨σ', H', J'.ofTry ok, q⟩
    | ret u => obtain ⟨v, σ', H', J', r, q⟩ := hsp; exact ⟨v, σ', H', J'.ofTry ok, r, q⟩
end
/-! isinstance of an error with attributes -/
section
variable {prog : Program} {w : World} {A : Around} {E : Value → Shared → Prop} {s : Shared} {K : Frag} {x D : Addr} {ox : Obj} {od : Obj}
theorem cls_any {Q : Option Value → Shared → Prop} (C : ExcC K D) (Y : K.In s.heap) (I : InstAt s.heap x ox D (some od)) (hq : Q (some (.ref D)) { s with toks := s.toks + 1 }) : wpAny (model prog w) A (getAttr? (.ref x) "__class__") Q E s := by
  have hf : findObj K D (some od) "__class__" = some (.bind (.builtin "getset_descriptor.__get__") (.builtin "object.__class__")) := findObj_data (by obtain ⟨cd, hc, _⟩ := any_some C.hd; rw [hc]; rfl) C.ha C.hn C.ht
  obtain ⟨hp, g, d, t, os⟩ := s
  have M0 := I.type (M := model prog w)
  have M1 := looks_findIn (M := model prog w) Y C.hg
  have M2 := looks_findIn (M := model prog w) Y C.hk
  have M3 := looks_find (M := model prog w) Y I hf
  have sub : Looks (model prog w) hp (isInstance (.ref x) (.type "BaseException")) true := M0.andThen (looks_subIn Y C.hs)
  have n2 : (Value.builtin "BaseException.__getattribute__" == Value.builtin "object.__getattribute__") = false := by decide +kernel
  have n1 : (onTheHeap (Value.ref D) && Value.builtin "BaseException.__getattribute__" == Value.builtin "object.__getattribute__") = false := by rw [n2]; rfl
  have n0 : (false && onTheHeap (Value.builtin "BaseException.__getattribute__")) = false := rfl
  unfold getAttr? getAttrBy? getAttrBy
  refine wpAny_bind (wpAny_mkText (wpAny_bind (wpAny_attempt (wpAny_holding (wpAny_bind (M0.at (wpAny_bind (M1.at ?_))))))))
  show wpAny _ _ (if (onTheHeap (Value.ref D) && Value.builtin "BaseException.__getattribute__" == Value.builtin "object.__getattribute__") = true then _ else _) _ _ _
  rw [n1, if_neg Bool.false_ne_true]
  unfold getAttrByItsOwn hookBefore
  refine wpAny_bind ?_
  rw [if_pos (show onTheHeap (Value.ref D) = true from rfl)]
  refine M2.at (wpAny_bind (wpAny_attempt (wpAny_holding ?_)))
  unfold callGetattribute
  rw [n0, if_neg Bool.false_ne_true]
  unfold boundAndCalled
  rw [PySem.F.excAttr_ValueError.ga.bind (.ref x)]
  refine wpAny_bind (wpAny_pure ?_)
  show wpAny _ _ (PySem.call (.builtin "BaseException.__getattribute__") [.ref x, .str "__class__" t]) _ _ _
  refine wpAny_call (codeAny_call_builtin PySem.F.excAttr_ValueError.ga.plain PySem.F.entry_bexc_ga (@check_slot (model prog w) _ _ ⟨hp, g, d, t + 1, os⟩ "BaseException.__getattribute__" "BaseException" "__getattribute__" (.ref x) [.str "__class__" t] [] _ (by decide +kernel) (by decide +kernel) sub (PySem.F.args_bexc_ga (.ref x) (.str "__class__" t)) ?_))
  unfold Builtin.«object.__getattribute__»
  refine wpAny_bind (wpAny_of_eq (a := ((Value.ref x : Value), [Value.str "__class__" t])) (by first | rfl | (simp only [slotArgs]; rfl)) (wpAny_bind (wpAny_pure (wpAny_bind (M0.at (wpAny_bind (M3.at ?_)))))))
  show wpAny _ _ (holding [Value.builtin "object.__class__"] (PySem.call (.builtin "getset_descriptor.__get__") [.builtin "object.__class__", .ref x, .ref D]) >>= PySem.ret) _ _ _
  refine wpAny_bind (wpAny_holding (wpAny_call (class_get (s := ⟨hp, g, d, t + 1, os⟩) (ox := ox) (od := some od) Y I C.hm ?_)))
  refine wpAny_pure ?_
  show wpAny _ _ (handedOut (.ref D)) _ _ _
  rw [handedOut_of (v := .ref D) rfl]
  first | exact wpAny_pure (wpAny_pure hq) | exact wpAny_pure hq | exact wpAny_pure (wpAny_bind (wpAny_pure (wpAny_pure hq)))
theorem kitx_any (C : ExcC K D) : KitX K (.ref x) (.ref D) (fun h => InstAt h x ox D (some od)) where
  ty := fun _ _ _ I => I.type
  it := fun _ _ Y _ => by
    obtain ⟨cdD, hcD, _⟩ := any_some C.hd
    unfold clsIn at hcD
    split at hcD
    · rename_i c' d' cd' sl' ho
      intro A' Q' E' s' k q
      unfold isType loadHead
      exact wpAny_bind (wpAny_loadPart (k _ _ (Y _ _ ho)) (wpAny_pure q))
    · cases hcD
  ne := (handS_kitx_exc (x := x) (ox := ox) C.hg C.hk C.hs C.hd C.ha C.hn C.ht C.hm).ne
  ca := fun Y I k => cls_any C Y I k
end
/-- isinstance(e, c), e the error of a suite, its attributes at dd -/
def rIsX (K : PySem.W.Frag) (D a dd : Addr) : List V → Hp → VK → Prop := fun xs H Q => ∃ (c : V) (cv : Value) (b : Bool) (fs : List (Str × V)), xs = [.ref a, c] ∧ (∀ u, RelV c u → u = cv) ∧ H dd = some (.xd fs) ∧ PySem.W.kitOne K (.ref D) cv = some b ∧ Q (.bl b) H
theorem k_isX {X : Cx} {K : PySem.W.Frag} {a D dd : Addr} {oe : Obj} {pn : List (Addr × Obj)} (h : X.K = K) (C : ExcC K D) (hz : Zc (.ref D) (some dd) oe) (hf : ∃ vs, oe.data = .fields vs) : CallR (X.suite a ((a, oe) :: pn)) (.builtin "isinstance") (rIsX K D a dd) := by
  subst h
  intro pins s σ H xs us Q I r hw
  obtain ⟨c, cv, b, fs, rfl, hcv, hdd, e, q⟩ := hw
  obtain ⟨u1, u2, rfl, rx, rt⟩ := vals2 r
  cases rx
  have ec := hcv _ rt
  subst ec
  obtain ⟨hget, _⟩ := I.pin (a, oe) (List.mem_append.mpr (.inl List.mem_cons_self))
  obtain ⟨vs, hv⟩ := hf
  have hx : ObjOk X.prog X.w H s.heap dd (.xd fs) := I.hok dd _ hdd
  obtain ⟨mA, hns, hr⟩ := hx
  obtain ⟨od, ho, hl⟩ := lookIn_ns hns
  have J : PySem.W.InstAt s.heap a oe D (some od) := ⟨hget, hz.1, by unfold PySem.W.notCls; rw [hv] <;> rfl, by rw [hz.2]; exact ho⟩
  exact PySem.W.kia_one (kitx_any C) I.kIn J e (fun z => nomatch z) fun tk => ⟨.bl b, H, I.kept (t' := tk) fun _ _ z => z, rfl, q⟩
end RD

namespace RD
open PySem PySem.Spec PyProof.Rows L2
/-! an own error class with its own __init__ -/
def oexB (K : PySem.W.Frag) (C : Addr) : Bool := match K.lookup C with
  | some ⟨.type "type", _, .cls cd, sl⟩ => (match cd.mro, sl.toList with
    | .ref D :: bm, [_, _, _, _, some (.builtin n), _] => D == C && n == "ValueError.__new__" && !cd.hasDel && cd.hasDict && HandSPX.refsVE bm
    | _, _ => false)
  | _ => false
theorem oex_cls {K : PySem.W.Frag} {C : Addr} (q : oexB K C = true) : ∃ nm qn N bs bm sn sub ab col dd k0 k1 k2 k3 k5, K.lookup C = some (excClassObj nm qn C N bs bm true sn sub ab col dd k0 k1 k2 k3 k5 "ValueError.__new__") ∧ HandSPX.refsVE bm = true := by
  unfold oexB at q
  split at q
  · rename_i dd cd sl ho
    split at q
    · rename_i D bm k0 k1 k2 k3 n k5 hm hs
      simp only [Bool.and_eq_true, beq_iff_eq, Bool.not_eq_true'] at q
      obtain ⟨⟨⟨⟨rfl, rfl⟩, hdel⟩, hdi⟩, ht⟩ := q
      obtain ⟨nm, bs, mro, N, qn, hd, sn, sub, ab, col, del⟩ := cd
      dsimp only at hm hdel hdi
      subst hm hdel hdi
      have hsl : sl = #[k0, k1, k2, k3, some (.builtin "ValueError.__new__"), k5] := by
        obtain ⟨l⟩ := sl
        simp only at hs; rw [hs]
      subst hsl
      exact ⟨nm, qn, N, bs, bm, sn, sub, ab, col, dd, k0, k1, k2, k3, k5, ho, ht⟩
    · cases q
  · cases q
theorem oexC {K : PySem.W.Frag} {C : Addr} (q : oexB K C = true) (h1 : PySem.W.findIn K (.ref C) "__setattr__" = some (some (.builtin "object.__setattr__"))) (h2 : PySem.W.subIn K (.ref C) (.type "BaseException") = some true) (h3 : PySem.W.typeIn K (.ref C) = some (.type "type")) (h4 : PySem.W.keepIn K (.ref C) = true) : OexC K C := ⟨oex_cls q, h1, h2, h3, h4⟩
/-- the promise of an __init__ that stores attributes one by one -/
def sp_exi1 (C : Addr) (f : Str) : Sp := fun vs H Q _ => ∃ (a : Addr) (v : V), vs = [.ref a, v] ∧ H a = some (exo a C none) ∧ ∀ dx, H dx = none → dx ≠ a → Q .non (upd (upd H dx (exd dx [(f, v)])) a (exo a C (some dx)))
def sp_exi2 (C : Addr) (f g : Str) : Sp := fun vs H Q _ => ∃ (a : Addr) (v u : V), vs = [.ref a, v, u] ∧ H a = some (exo a C none) ∧ ∀ dx, H dx = none → dx ≠ a → Q .non (upd (upd (upd H dx (exd dx [(f, v)])) a (exo a C (some dx))) dx (exd dx [(g, u), (f, v)]))
/-- raise C(v) -/
theorem mk1 {C : Addr} {f : Str} {v : V} {H : Hp} {W : XK} (q : ∀ dx, H dx = none → W (.ref C) (some dx) (upd H dx (.xd [(f, v)]))) :
    [v].length ≤ 1000 ∧ ∀ a, H a = none → sp_exi1 C f (.ref a :: ([v] ++ [])) (upd H a (exo a C none)) (fun x H2 => x = .non ∧ ∃ (d : Addr) (fs : List (Str × V)), H2 a = some (exo a C (some d)) ∧ H2 d = some (exd d fs) ∧ H d = none ∧ W (.ref C) (some d) (upd (L2.del H2 a) d (.xd fs))) (fun _ _ _ => False) := by
  refine ⟨(show 1 ≤ 1000 by decide), fun a na => ⟨a, v, rfl, upd_same, fun dx ndx ne => ⟨rfl, dx, [(f, v)], upd_same, by rw [upd_ne ne, upd_same], by rw [upd_ne ne] at ndx; exact ndx, ?_⟩⟩⟩
  rw [upd_ne ne] at ndx
  have e : upd (L2.del (upd (upd (upd H a (exo a C none)) dx (exd dx [(f, v)])) a (exo a C (some dx))) a) dx (.xd [(f, v)]) = upd H dx (.xd [(f, v)]) := by
    funext b
    by_cases h : b = dx
    · subst h; rw [upd_same, upd_same]
    · rw [upd_ne h, upd_ne h]
      by_cases h2 : b = a
      · subst h2; rw [del_same, na]
      · rw [del_ne h2, upd_ne h2, upd_ne h, upd_ne h2]
  rw [e]
  exact q dx ndx
theorem mk2 {C : Addr} {f g : Str} {v u : V} {H : Hp} {W : XK} (q : ∀ dx, H dx = none → W (.ref C) (some dx) (upd H dx (.xd [(g, u), (f, v)]))) :
    [v, u].length ≤ 1000 ∧ ∀ a, H a = none → sp_exi2 C f g (.ref a :: ([v, u] ++ [])) (upd H a (exo a C none)) (fun x H2 => x = .non ∧ ∃ (d : Addr) (fs : List (Str × V)), H2 a = some (exo a C (some d)) ∧ H2 d = some (exd d fs) ∧ H d = none ∧ W (.ref C) (some d) (upd (L2.del H2 a) d (.xd fs))) (fun _ _ _ => False) := by
  refine ⟨(show 2 ≤ 1000 by decide), fun a na => ⟨a, v, u, rfl, upd_same, fun dx ndx ne => ⟨rfl, dx, [(g, u), (f, v)], by rw [upd_ne ne.symm, upd_same], upd_same, by rw [upd_ne ne] at ndx; exact ndx, ?_⟩⟩⟩
  rw [upd_ne ne] at ndx
  have e : upd (L2.del (upd (upd (upd (upd H a (exo a C none)) dx (exd dx [(f, v)])) a (exo a C (some dx))) dx (exd dx [(g, u), (f, v)])) a) dx (.xd [(g, u), (f, v)]) = upd H dx (.xd [(g, u), (f, v)]) := by
    funext b
    by_cases h : b = dx
    · subst h; rw [upd_same, upd_same]
    · rw [upd_ne h, upd_ne h]
      by_cases h2 : b = a
      · subst h2; rw [del_same, na]
      · rw [del_ne h2, upd_ne h, upd_ne h2, upd_ne h, upd_ne h2]
  rw [e]
  exact q dx ndx
theorem ost {K : PySem.W.Frag} {f : Str} {to te : TE} {σ : L2.St} {H : Hp} {nx bk ct : L2.St → Hp → Prop} {rt : VK} (h : te σ H fun y H1 => to σ H1 fun x H2 => ∃ a C : Addr, x = .ref a ∧ OexC K C ∧ PySem.W.findIn K (.ref C) f = some none ∧
  ((H2 a = some (exo a C none) ∧ ∀ dx, H2 dx = none → dx ≠ a → nx σ (upd (upd H2 dx (exd dx [(f, y)])) a (exo a C (some dx)))) ∨
    ∃ (dx : Addr) (fs : List (Str × V)), H2 a = some (exo a C (some dx)) ∧ H2 dx = some (exd dx fs) ∧ fs.length ≤ 900 ∧ nx σ (upd H2 dx (exd dx ((f, y) :: fs))))) : tOst K f to te ⟨nx, rt, bk, ct⟩ σ H := h
end RD

namespace RD
open PySem PySem.Spec PyProof.Rows L2
theorem callS {sp : Sp} {E : L2.St → XK} {tr : TA} {σ : L2.St} {H : Hp} {Q : VK} (h : tr σ H fun vs H1 => sp vs H1 Q (E σ)) : tCallS sp E tr σ H Q := h
theorem xf {a C : Addr} {cls : Value} {d : Option Addr} {f : Str} {te : TE} {σ : L2.St} {H : Hp} {Q : VK} (h : te σ H fun x H1 => x = .ref a ∧ cls = .ref C ∧ ∃ (dd : Addr) (fs : List (Str × V)) (v : V), d = some dd ∧ H1 dd = some (.xd fs) ∧ fs.lookup f = some v ∧ Q v H1) : tXf a cls d C f te σ H Q := h
theorem isX {K : PySem.W.Frag} {D a dd c : Addr} {b : Bool} {fs : List (Str × V)} {H : Hp} {Q : VK} (h : H dd = some (.xd fs)) (k : PySem.W.kitOne K (.ref D) (.ref c) = some b) (q : Q (.bl b) H) : rIsX K D a dd [.ref a, .ref c] H Q := ⟨_, _, b, fs, rfl, fun u r => r, h, k, q⟩
theorem isE {K : PySem.W.Frag} {D a c : Addr} {b : Bool} {H : Hp} {Q : VK} (k : PySem.W.kitOne K (.ref D) (.ref c) = some b) (q : Q (.bl b) H) : rIsE K D a [.ref a, .ref c] H Q := ⟨_, _, b, rfl, fun u r => r, k, q⟩
end RD
namespace RD
open PySem PySem.Spec PyProof.Rows L2
theorem star {K : PySem.W.Frag} {te : TE} {t : TA} {σ : L2.St} {H : Hp} {QA : List V → Hp → Prop} (h : te σ H fun x H1 => ∃ p xs, x = V.ref p ∧ (SqT K H1 p xs ∨ SqL K H1 p xs) ∧ t σ H1 fun ys H2 => QA (xs ++ ys) H2) : StX.tStar K te t σ H QA := h
theorem starL {K : PySem.W.Frag} {a : Addr} {xs : List V} {H : Hp} {P : Addr → List V → Prop} (h : SqL K H a xs) (q : P a xs) : ∃ p ys, V.ref a = V.ref p ∧ (SqT K H p ys ∨ SqL K H p ys) ∧ P p ys := ⟨a, xs, rfl, .inr h, q⟩
end RD

namespace RD
open PySem PySem.Spec PyProof.Rows L2
/-! x in d.values() -/
theorem cont_loop {prog : Program} {w : World} {A : Around} {KT : Type} [DecidableEq KT] {knd : KeyKind prog w KT} {it d : Addr} {ep : Nat} {kvs : List (KT × Value)} {v : Value} (g : Value → Bool) (hh : A.handled = none) (hd : d ≠ it)
    (he : ∀ (B : Around) (s : Shared) (p : KT × Value), p ∈ kvs → SeqAt.EqAt B s p.2 v (g p.2)) (R : Result → Shared → Prop) :
    ∀ (n i : Nat) (s : Shared), i + n = kvs.length → s.heap.IsValIter it d i kvs.length ep → s.heap.DictAt knd d kvs ep →
      (∀ h', Heap.ExtBut it s.heap h' → R (.ok (.ret (.bool ((kvs.drop i).any fun p => g p.2)))) { s with heap := h' }) →
      codeAny (model prog w) A (.builtin "proto.contains_iter" ⟨[.ref it, v], []⟩) R s
  | 0, i, s, hn, st, hm, q => by
    refine codeAny_builtin (b := Builtin.«proto.contains_iter») (entryFor_of_tree (by kernel_rfl)) ?_
    unfold Builtin.«proto.contains_iter»
    refine wpAny_bind (wpAny_pyNext_values_end (A := A.under _) hh st hm (List.getElem?_eq_none (by omega)) fun h' x => ?_)
    have e : (kvs.drop i).any (fun p => g p.2) = false := by rw [List.drop_of_length_le (by omega)]; rfl
    rw [e] at q
    exact wpAny_bind (wpAny_rule (wpAny_pure (q h' x)))
  | n + 1, i, s, hn, st, hm, q => by
    refine codeAny_builtin (b := Builtin.«proto.contains_iter») (entryFor_of_tree (by kernel_rfl)) ?_
    unfold Builtin.«proto.contains_iter»
    have hi : i < kvs.length := by omega
    have ga : kvs[i]? = some (kvs[i].1, kvs[i].2) := List.getElem?_eq_getElem hi
    have ed : (kvs.drop i).any (fun p => g p.2) = (g kvs[i].2 || (kvs.drop (i + 1)).any fun p => g p.2) := by rw [List.drop_eq_getElem_cons hi, List.any_cons]
    refine wpAny_bind (wpAny_pyNext_values_item (A := A.under _) st hm ga fun h' st' sb => ?_)
    refine wpAny_bind (he _ _ kvs[i] (List.getElem_mem hi) _ _ _ _ ?_)
    have hm' : h'.DictAt knd d kvs ep := by
      obtain ⟨od, es, ho, r⟩ := hm
      exact ⟨od, es, (sb.2 d hd).trans ho, r⟩
    by_cases hg : g kvs[i].2 = true
    · rw [hg, Bool.true_or] at ed
      rw [ed] at q
      rw [hg, if_pos rfl]
      refine wpAny_bind (wpAny_rule (wpAny_pure (q h' fun b o hb e => (sb.2 b hb).trans e)))
    · have hg : g kvs[i].2 = false := by simpa using hg
      rw [hg, Bool.false_or] at ed
      rw [ed] at q
      rw [hg, if_neg Bool.false_ne_true]
      refine wpAny_pure ⟨Code.quiet_builtin _ (by decide +kernel), cont_loop g hh hd he R n (i + 1) { s with heap := h' } (by omega) st' hm' fun h2 x => ?_⟩
      exact q h2 fun b o hb e => x b o hb ((sb.2 b hb).trans e)
theorem no_vals : typeLookup (.type "dict_values") "__contains__" = pure none := by rw [typeLookup_type, builtinLookup_eq_fast]; kernel_rfl
theorem in_vals {prog : Program} {w : World} {A : Around} {E : Value → Shared → Prop} {s : Shared} {KT : Type} [DecidableEq KT] {knd : KeyKind prog w KT} {v d : Addr} {ep : Nat} {kvs : List (KT × Value)} {x : Value} {Q : Value → Shared → Prop} (g : Value → Bool) (hh : A.handled = none)
    (hv : s.heap.IsValuesView v d) (hm : s.heap.DictAt knd d kvs ep) (he : ∀ (B : Around) (s : Shared) (p : KT × Value), p ∈ kvs → SeqAt.EqAt B s p.2 x (g p.2))
    (hQ : ∀ h', (∀ b o, s.heap.get? b = some o → h'.get? b = some o) → Q (.bool (kvs.any fun p => g p.2)) { s with heap := h' }) : wpAny (model prog w) A (compareOp .In x (.ref v)) Q E s := by
  show wpAny _ _ (do return Value.bool (← PySem.contains (.ref v) x)) _ _ _
  refine wpAny_bind ?_
  unfold PySem.contains
  refine wpAny_holding ?_
  show wpAny _ _ (do if (← specialOf (.ref v) "__contains__") == some .none then _ else _) _ _ _
  refine wpAny_bind (wpAny_specialOf hv.typeIs no_vals ?_)
  rw [if_neg (by decide)]
  refine wpAny_bind (wpAny_callSpecialUnlessNone?_none hv.typeIs no_vals ?_)
  refine wpAny_bind (wpAny_rule ?_)
  refine wpAny_bind (wpAny_tryCatch (wpAny_pyIter_values hv hm ?_))
  have dl : d < s.heap.objs.size := by
    obtain ⟨od, es, ho, _⟩ := hm
    exact Heap.lt_size ho
  refine wpAny_bind (wpAny_runValue (cont_loop g hh (Nat.ne_of_lt dl) he _ kvs.length 0 _ (Nat.zero_add _) ⟨_, Heap.get?_push_size _ rfl, rfl, rfl⟩ (hm.push _) fun h' xb => ?_))
  refine wpAny_pure (wpAny_pure (hQ h' fun b o e => xb b o (Nat.ne_of_lt (Heap.lt_size e)) (Heap.get?_push_of_some _ e)))
end RD
namespace RD
open PySem PySem.Spec PyProof.Rows L2
def tInVals (ty td : TE) : TE := fun σ H Q => ty σ H fun y H1 => td σ H1 fun x H2 => ∃ d o kvs, x = .ref d ∧ H2 d = some (.frz o (.dK kvs)) ∧ flatV y = true ∧ kvs.all (fun p => flatV p.2) = true ∧ Q (.bl (inV y (kvs.map (·.2)))) H2
theorem kv_eq {kvs : List (Key × V)} {vs : List (Key × Value)} (kv : KV kvs vs) : Vals (kvs.map (·.2)) (vs.map (·.2)) := by
  induction kv with
  | nil => exact .nil
  | cons r _ ih => exact .cons r.2 ih
theorem pc_inVals {X : Cx} {i e : Expr} {ty td : TE} {apos cpos : Pos} (hc : X.calm = true) (hi : PE X i ty) (he : PE X e td) (hbase : attributeBase e "values" X.env (eval e X.env) = eval e X.env := by rfl) (hline : (apos.endLine == cpos.line) = true := by rfl) :
    PC X .In i (.Call (.Attribute e "values" apos) [] [] cpos) (tInVals ty td) := by
  refine ⟨fun pins s σ H Q I h => ?_⟩
  refine thn (hi.run pins s σ H _ I h) fun iv s1 ⟨y, H1, I1, ry, q1⟩ => ?_
  refine wpAny_Call_method (T := "dict") (id := "dict.values") hbase rfl hline F.plainAttrs_dict F.slot_dict_values F.type_dict_values (thn (he.run pins s1 σ H1 _ I1 q1) fun u s2 ⟨x, H2, I2, rx, d, o, kvs, ex, hd, fy, fk, q⟩ => ?_)
  subst ex
  obtain rfl : u = Value.ref d := rx
  obtain ⟨hs, hgd, hx, es, ep, vs, hdt, hsz, kv, hm⟩ := I2.frzK hd
  have hl : kvs.length = vs.length := Paired.length kv
  refine ⟨hm.dictOf.typeIs, hm.dictOf.mapOf.noDict, ?_⟩
  have I3 : Inv X pins σ H2 { s2 with heap := s2.heap.push { cls := .type "dict_values", data := .fields #[.ref d] } } := I2.kept (t' := s2.toks) fun b ob q => Heap.get?_push_of_some _ q
  have vv := kv_eq kv
  have fk' : (kvs.map (·.2)).all flatV = true := by rw [List.all_map]; exact fk
  have fin : wpAny (model X.prog X.w) X.A (compareOp .In iv (.ref s2.heap.objs.size)) (EP X pins σ Q) X.xe { s2 with heap := s2.heap.push { cls := .type "dict_values", data := .fields #[.ref d] } } := by
    refine in_vals (knd := mixKind X.prog X.w) (eqU y) (I2.ok.hd hc) ⟨_, Heap.get?_push_size _ rfl, rfl, rfl⟩ (hm.push _) (fun B s p hp => mem_eqAt ry fy vv fk' p.2 (List.mem_map_of_mem hp)) fun h' k => ?_
    refine ⟨.bl _, H2, I3.kept (t' := s2.toks) k, rfl, ?_⟩
    have e : (vs.any fun p => eqU y p.2) = inV y (kvs.map (·.2)) := by
      have e1 := any_eqU (x := y) vv fk'
      rw [List.any_map (l := vs)] at e1
      exact e1
    rw [e]
    exact q
  show wpAny _ _ (callWith cpos (.builtin "dict.values") [.ref d] [] []) _ X.xe s2
  exact method_meetsIn F.slot_dict_values F.entry_dict_values rfl (PySem.evalArgs_none ⟨rfl, hm.dictOf.typeIs, F.args_dict_values_1 _, _, meets_dict_values (mixKind X.prog X.w) d hs, ⟨vs, hm.dictOf⟩, fin⟩)
def rRepS : R2 := fun x y H Q => ∃ (l : List Nat) (k : Int), x = .str ⟨l.toArray⟩ ∧ y = .int k ∧ 0 ≤ k ∧ k < 2 ^ 62 ∧ l.length * k.toNat ≤ 1000000 ∧ Q (.str ⟨(List.replicate k.toNat l).flatten.toArray⟩) H
theorem fold_cps (l : List Nat) : ∀ (n : Nat) (a : List Nat), List.foldl (fun x1 x2 => x1 ++ x2) a.toArray (List.replicate n l.toArray) = (a ++ (List.replicate n l).flatten).toArray
  | 0, a => by simp
  | n + 1, a => by
    rw [List.replicate_succ, List.foldl_cons, List.replicate_succ, List.flatten_cons, ← List.append_assoc, ← fold_cps l n (a ++ l)]
    simp
theorem len_rep (l : List Nat) : ∀ n, (List.replicate n l).flatten.length = n * l.length
  | 0 => by simp
  | n + 1 => by rw [List.replicate_succ, List.flatten_cons, List.length_append, len_rep l n, Nat.succ_mul, Nat.add_comm]
theorem op_repS {X : Cx} : OpR X (binaryOp .Mult) rRepS := by
  intro pins s σ H x y v u Q I rx ry h
  obtain ⟨l, k, rfl, rfl, h0, h1, hl, q⟩ := h
  obtain ⟨t, rfl⟩ := rx
  obtain ⟨t', rfl⟩ := ry
  have hr : (decide (k < -(2 ^ 63 : Int)) || decide (k ≥ 2 ^ 63)) = false := by
    rw [decide_eq_false (by omega), decide_eq_false (by omega)]; rfl
  have hsz : (⟨l.toArray⟩ : Str).length = l.length := by show l.toArray.size = _; simp
  have hk : l.length * k.toNat ≤ sizeLine := Nat.le_trans hl (by decide)
  have tl : Builtin.Str.tooLong (l.length * k.toNat) = false := decide_eq_false (by omega)
  refine PySem.P.mul_str hr (fun h2 h3 => ?_) (fun _ _ => by rw [hsz]; exact tl) ?_
  · rw [hsz]
    have hp : 0 < k := by omega
    have h4 : (l.length : Int) ≤ 1000000 := by
      have : 1 ≤ k.toNat := by omega
      have := Nat.le_mul_of_pos_right l.length this
      omega
    have h5 : (l.length : Int) * k ≤ 1000000 := by
      have e : k = (k.toNat : Int) := by omega
      rw [e]
      have h6 := Int.ofNat_le.mpr hl
      rw [Int.natCast_mul] at h6
      exact h6
    have := Int.le_ediv_of_mul_le (a := (l.length : Int)) (b := 2 ^ 63 - 1) hp (by omega)
    omega
  · by_cases c1 : k < 1
    · rw [if_pos c1]
      have e0 : k = 0 := by omega
      subst e0
      exact ⟨by decide, .str _, H, I.tok _, ⟨_, rfl⟩, q⟩
    · rw [if_neg c1]
      by_cases c2 : (k == 1 || (⟨l.toArray⟩ : Str).length == 0) = true
      · rw [if_pos c2]
        refine ⟨.str ⟨l.toArray⟩, H, I, ⟨t, rfl⟩, ?_⟩
        have e : (List.replicate k.toNat l).flatten = l := by
          rw [Bool.or_eq_true, beq_iff_eq, beq_iff_eq, hsz] at c2
          rcases c2 with c2 | c2
          · subst c2; simp
          · have : l = [] := List.eq_nil_of_length_eq_zero c2
            subst this; simp
        rw [e] at q
        exact q
      · rw [if_neg c2]
        have e := fold_cps l k.toNat []
        rw [List.nil_append] at e
        show (⟨List.foldl (fun x1 x2 => x1 ++ x2) ([] : List Nat).toArray (List.replicate k.toNat l.toArray)⟩ : Str).length ≤ sizeLine ∧ _
        refine ⟨?_, ?_⟩
        · rw [e]
          show ((List.replicate k.toNat l).flatten.toArray).size ≤ _
          rw [List.size_toArray, len_rep, Nat.mul_comm]
          exact hk
        · rw [show (#[] : Array Nat) = ([] : List Nat).toArray from rfl, e]
          exact ⟨.str _, H, I.tok _, ⟨_, rfl⟩, q⟩
theorem k_sortedD {X : Cx} (hc : X.calm = true) : CallR X (.builtin "sorted") (fun xs H Q => ∃ (a : Addr) (kvs : List (Key × V)) (ks : List Int), xs = [.ref a] ∧ Rd H a (.dK kvs) ∧ kvs.map (·.1) = ks.map Sum.inl ∧ ks.length < 64 ∧ ∀ (ys : List Int) (p : Addr), ys.Perm ks → ys.Pairwise (· ≤ ·) → H p = none → Q (.ref p) (upd H p (.lst (ys.map V.int)))) := call_sortedDI hc
def tLockT (t : TT) : TT := fun σ H QB => ∃ d u, H d = some u ∧ Mut (some u) ∧ ∀ od, t σ (upd H d (.frz od u)) fun b H' => H' d = some (.frz od u) ∧ QB b (upd H' d u)
theorem pt_lock {X : Cx} {e : Expr} {t : TT} (h : PT X e t) : PT X e (tLockT t) := by
  refine ⟨fun pins s σ H Q I hw => ?_⟩
  obtain ⟨d, u, hd, mu, hw⟩ := hw
  obtain ⟨od, J⟩ := I.lock hd mu
  refine thn (h.run pins s σ _ _ J (hw od)) fun v s1 hh => ?_
  obtain ⟨H1, J2, e2, q⟩ := hh
  exact ⟨_, J2.unlock e2 (I.nofrz hd mu), q⟩
theorem upd_back {H : Hp} {d : Addr} {u v : HO} (h : H d = some u) : upd (upd H d v) d u = H := by
  funext b
  by_cases e : b = d
  · subst e; rw [upd_same, h]
  · rw [upd_ne e, upd_ne e]
theorem lockVals {σ : L2.St} {H : Hp} {QB : Bool → Hp → Prop} {d : Addr} {i : Nat} {kvs : List (Key × V)} (hi : σ[i]? = some (some (.ref d))) (h : H d = some (.dK kvs)) (hf : kvs.all (fun p => flatV p.2) = true) (q : QB (inV .non (kvs.map (·.2))) H) : tLockT (tB (tInVals (tC .non) (tVar i))) σ H QB := by
  refine ⟨d, .dK kvs, h, trivial, fun od => ⟨_, hi, d, od, kvs, rfl, upd_same, rfl, hf, _, rfl, upd_same, ?_⟩⟩
  rw [upd_back h]
  exact q
end RD

namespace RD
open PySem PySem.Spec PyProof.Rows L2 SX
/-! texts as lists of codes -/
abbrev vst (l : List Nat) : V := .str (S l)
def vsts (ls : List (List Nat)) : List V := ls.map vst
theorem vsts_len (ls : List (List Nat)) : (vsts ls).length = ls.length := List.length_map _
theorem vsts_app (a b : List (List Nat)) : vsts (a ++ b) = vsts a ++ vsts b := List.map_append
theorem vsts_at {ls : List (List Nat)} {i : Nat} {l : List Nat} (h : ls[i]? = some l) : (vsts ls)[i]? = some (vst l) := by unfold vsts; rw [List.getElem?_map, h]; rfl
theorem of_vsts {ls : List (List Nat)} {i : Nat} {x : V} (h : (vsts ls)[i]? = some x) : ∃ l, ls[i]? = some l ∧ x = vst l := by
  unfold vsts at h
  rw [List.getElem?_map] at h
  cases e : ls[i]? with
  | none => rw [e] at h; cases h
  | some l => rw [e] at h; exact ⟨l, rfl, (Option.some.inj h).symm⟩
theorem l10 : Str.ofString "\n" = S [10] := by decide +kernel
theorem l32 : Str.ofString " " = S [32] := by decide +kernel
theorem l0 : Str.ofString "" = S [] := by decide +kernel
theorem dstr {a b : List Nat} : decide (S a = S b) = decide (a = b) := by
  by_cases e : a = b
  · rw [decide_eq_true e, e, decide_eq_true rfl]
  · rw [decide_eq_false e, decide_eq_false fun z => e (S_inj z)]
def rSgn (neg : Bool) : R2 := fun x y H Q => ∃ (c : Nat) (z : Str), x = .str ⟨#[c]⟩ ∧ y = .str z ∧ Q (.bl (if neg = true then !decide (c ∈ z.cps.toList) else decide (c ∈ z.cps.toList))) H
theorem k_sgn {X : Cx} : OpR X (compareOp .In) (rSgn false) := op_in_sign
theorem k_nsgn {X : Cx} : OpR X (compareOp .NotIn) (rSgn true) := op_notIn_sign
def rSplit : V → List V → Hp → VK → Prop := fun x xs H Q => ∃ a b, x = .str a ∧ xs = [.str b] ∧ (b.length == 0) = false ∧ a.length + 2 ≤ sizeLine ∧ rNewStrs (Txt.split a b) H Q
def rJoin (K : PySem.W.Frag) : V → List V → Hp → VK → Prop := fun x xs H Q => ∃ a p, ∃ ys : List Str, x = .str a ∧ xs = [.ref p] ∧ (SqL K H p (ys.map V.str) ∨ SqT K H p (ys.map V.str)) ∧ (ys.map (·.length)).sum + ys.length * a.length ≤ 16777216 ∧ Q (.str (Txt.join a ys)) H
theorem k_split {X : Cx} {o e : Expr} {to te : TE} {apos pos : Pos} (ho : PE X o to) (he : PE X e te) (hs : starEach [e] X.env = [(false, eval e X.env)] := by rfl) (hbase : attributeBase o "split" X.env (eval o X.env) = eval o X.env := by rfl) (hline : (apos.endLine == pos.line) = true := by rfl) :
    PE X (.Call (.Attribute o "split" apos) [e] [] pos) (tM1 rSplit to te) := pe_split ho he hs hbase hline
theorem k_join {X : Cx} {K : PySem.W.Frag} {o e : Expr} {to te : TE} {apos pos : Pos} (h : X.K = K) (ho : PE X o to) (he : PE X e te) (hs : starEach [e] X.env = [(false, eval e X.env)] := by rfl) (hbase : attributeBase o "join" X.env (eval o X.env) = eval o X.env := by rfl) (hline : (apos.endLine == pos.line) = true := by rfl) :
    PE X (.Call (.Attribute o "join" apos) [e] [] pos) (tM1 (rJoin K) to te) := by subst h; exact pe_join ho he hs hbase hline
def rAddS : R2 := fun x y H Q => ∃ i j, x = .str i ∧ y = .str j ∧ i.length + j.length ≤ sizeLine ∧ Q (.str (i ++ j)) H
theorem k_addS {X : Cx} : OpR X (binaryOp .Add) rAddS := op_add_str
section
variable {σ : L2.St} {H : Hp} {Q : VK} {nx bk ct : L2.St → Hp → Prop} {rt : VK} {te to : TE} {t : TS} {K : PySem.W.Frag}
theorem m1 {r : V → List V → Hp → VK → Prop} (h : to σ H fun x H1 => (∃ a, x = .str a) ∧ te σ H1 fun y H2 => r x [y] H2 Q) : tM1 r to te σ H Q := h
theorem goS {g : TG} {l : List Nat} (Pv : Nat → L2.St → Hp → Prop) (h0 : Pv 0 σ H)
    (turn : ∀ i c σ H, l[i]? = some c → Pv i σ H → g (vst [c]) σ H fun σ2 H2 => t ⟨Pv (i + 1), rt, nx, Pv (i + 1)⟩ σ2 H2) (hd : ∀ σ H, Pv l.length σ H → nx σ H) :
    ∃ z, vst l = .str z ∧ FR (Its z) g t nx rt σ H := by
  refine ⟨S l, rfl, for_it (D := ⟨nx, rt, nx, nx⟩) (walk_str (z := S l)) Pv h0 (fun _ _ _ _ _ => trivial) (fun i x σ H H' hi hp y => ?_) fun σ H hp => hd σ H (by have e : (S l).cps.size = l.length := (by simp); rw [e] at hp; exact hp)⟩
  obtain ⟨rfl, c, hc, rfl⟩ := y
  exact turn i c σ _ (by rw [← hc]; simp) hp
theorem goZ {g : TG} {a b : Addr} {xs ys : List V} (h1 : SqL K H a xs) (h2 : SqL K H b ys) (hl : xs.length = ys.length) (Pv : Nat → L2.St → Hp → Prop) (h0 : Pv 0 σ H) (hG : ∀ i σ H, i ≤ xs.length → Pv i σ H → SqL K H a xs ∧ SqL K H b ys)
    (turn : ∀ i x y σ H T, xs[i]? = some x → ys[i]? = some y → Pv i σ H → H T = none → g (.ref T) σ (upd H T (.tup [x, y])) fun σ2 H2 => t ⟨Pv (i + 1), rt, nx, Pv (i + 1)⟩ σ2 H2) (hd : ∀ σ H, Pv xs.length σ H → nx σ H) :
    ∃ a' b' xs' ys', [V.ref a, V.ref b] = [.ref a', .ref b'] ∧ SqL K H a' xs' ∧ SqL K H b' ys' ∧ FR (Itz K a' b') g t nx rt σ H := by
  refine ⟨a, b, xs, ys, rfl, h1, h2, for_it (D := ⟨nx, rt, nx, nx⟩) (walk_zip (K := K) (a := a) (b := b) (xs := xs) (ys := ys) (n := xs.length) (by omega)) Pv h0 hG (fun i x σ H H' hi hp y => ?_) hd⟩
  obtain ⟨T, x1, x2, rfl, hT, rfl, e1, e2⟩ := y
  exact turn i x1 x2 σ H T e1 e2 hp hT
theorem splt {l : List Nat} {c : Nat} (hc : c < 256) (hl : l.length ≤ 1000000) (q : ∀ p, H p = none → Q (.ref p) (upd H p (.lst (vsts (TL.spl [c] 0 [] l))))) :
    rSplit (vst l) [vst [c]] H Q := by
  refine ⟨S l, S [c], rfl, rfl, rfl, by rw [S_len]; exact Nat.le_trans (by omega : l.length + 2 ≤ 1000002) (by decide), fun p np => ?_⟩
  rw [split_S (by simp) (by simpa using hc), List.map_map]
  exact q p np
theorem sum_le : ∀ (ls : List (List Nat)) (k : Nat), (∀ l ∈ ls, l.length ≤ k) → ((ls.map S).map (·.length)).sum + ls.length ≤ ls.length * (k + 1)
  | [], _, _ => by simp
  | l :: r, k, h => by
    have h1 := sum_le r k fun x hx => h x (List.mem_cons_of_mem _ hx)
    have h2 := h l List.mem_cons_self
    simp only [List.map_cons, List.sum_cons, List.length_cons, Nat.succ_mul, S_len] at h1 ⊢
    omega
theorem jnd {p : Addr} {c k : Nat} {ls : List (List Nat)} (hs : SqL K H p (vsts ls)) (hk : ∀ l ∈ ls, l.length ≤ k) (hb : ls.length * (k + 1) ≤ 16777216) (q : Q (vst (TL.joinL [c] ls)) H) :
    rJoin K (vst [c]) [.ref p] H Q := by
  refine ⟨S [c], p, ls.map S, rfl, rfl, .inl (by rw [List.map_map]; exact hs), ?_, ?_⟩
  · have := sum_le ls k hk
    rw [S_len, List.length_map]
    show _ + _ * 1 ≤ _
    omega
  · rw [join_S]
    exact q
theorem strN {n : Nat} (h : n < 1000000000) (q : Q (vst (TL.numL n)) H) : rStrI [Pf.vn n] H Q := by
  refine ⟨(n : Int), rfl, ?_, ?_⟩
  · have : (n : Int).natAbs = n := rfl
    rw [this]
    exact Nat.lt_of_le_of_lt (Nat.log2_le_self n |> fun h2 => Nat.le_of_lt_succ (by
      have : n.log2 < 30 := by
        by_cases z : n = 0
        · subst z; decide
        · exact (Nat.log2_lt z).mpr (Nat.lt_of_lt_of_le h (by decide))
      omega : n.log2 < 30 + 1)) (by decide)
  · have e := num_S n
    show Q (.str (Str.ofString (toString ((n : Nat) : Int)))) H
    rw [e]
    exact q
theorem ixS {l : List Nat} {i : Int} {c : Nat} (hl : l.length ≤ 1000000) (ha : atI l i = some c) (q : Q (vst [c]) H) : rIxS (vst l) (.int i) H Q := ⟨S l, i, c, rfl, rfl, by rw [S_len]; exact Nat.le_trans hl (by decide), ha, q⟩
theorem nsg {c : Nat} {l : List Nat} (q : Q (.bl (!decide (c ∈ l))) H) : rSgn true (vst [c]) (vst l) H Q := ⟨c, S l, rfl, rfl, q⟩
theorem isg {c : Nat} {l : List Nat} (q : Q (.bl (decide (c ∈ l))) H) : rSgn false (vst [c]) (vst l) H Q := ⟨c, S l, rfl, rfl, q⟩
theorem adds {a b : List Nat} (h : a.length + b.length ≤ 1000000) (q : Q (vst (a ++ b)) H) : rAddS (vst a) (vst b) H Q := by
  refine ⟨S a, S b, rfl, rfl, by rw [S_len, S_len]; exact Nat.le_trans h (by decide), ?_⟩
  rw [S_cat]
  exact q
end
end RD

namespace TX
open PySem SX MM
/-! words, lines, numbers of a mesh's text; a text is a list of codes -/
def isDig (c : Nat) : Bool := decide (48 ≤ c) && decide (c ≤ 57)
def rdN (l : List Nat) : Option Nat := if l.length ≤ 4 ∧ 1 ≤ l.length ∧ ¬ (l.head? = some 48 ∧ l ≠ [48]) ∧ l.all isDig = true then some (NumText.digitsVal l) else none
def wrds (l : List Nat) : List (List Nat) := TL.spl [32] 0 [] l
def lns (l : List Nat) : List (List Nat) := TL.spl [10] 0 [] l
def bad (l : List Nat) : Bool := (wrds l).any fun w => (rdN w).isNone
def mems (l : List Nat) : List Nat := (wrds l).filterMap rdN
def jn (c : Nat) (ls : List (List Nat)) : List Nat := TL.joinL [c] ls
def line (c : List Nat) : List Nat := jn 32 (c.map TL.numL)
theorem wrds_jn {ws : List (List Nat)} (h : ws ≠ []) (h2 : ∀ w ∈ ws, 32 ∉ w) : wrds (jn 32 ws) = ws := SX.spl_join h h2
theorem lns_jn {ws : List (List Nat)} (h : ws ≠ []) (h2 : ∀ w ∈ ws, 10 ∉ w) : lns (jn 10 ws) = ws := SX.spl_join h h2
theorem numL_head : ∀ n, 1 ≤ n → (TL.numL n).head? ≠ some 48 := by
  intro n
  induction n using Nat.strongRecOn with
  | _ n ih =>
    intro h1
    by_cases h : n < 10
    · rw [TL.numL_lt h]
      intro z
      have : 48 + n = 48 := Option.some.inj z
      omega
    · rw [TL.numL_step (by omega), List.head?_append]
      have := ih (n / 10) (by omega) (by omega)
      intro z
      cases e : (TL.numL (n / 10)).head? with
      | none => exact TL.numL_ne _ (List.head?_eq_none_iff.mp e)
      | some c =>
        rw [e] at z this
        exact this z
theorem dig_all {l : List Nat} : l.all isDig = true ↔ NumText.AllDigits l := by
  rw [List.all_eq_true]
  constructor
  · intro h c hc
    have := h c hc
    unfold isDig at this
    rw [Bool.and_eq_true, decide_eq_true_eq, decide_eq_true_eq] at this
    exact this
  · intro h c hc
    have := h c hc
    unfold isDig
    rw [Bool.and_eq_true, decide_eq_true_eq, decide_eq_true_eq]
    exact this
theorem rdN_num {n : Nat} (h : n < 10000) : rdN (TL.numL n) = some n := by
  unfold rdN
  rw [if_pos, TL.numL_val]
  refine ⟨TL.numL_len (by decide) h, ?_, ?_, dig_all.mpr (TL.numL_digits n)⟩
  · cases e : TL.numL n with
    | nil => exact absurd e (TL.numL_ne n)
    | cons _ _ => simp
  · rintro ⟨h1, h2⟩
    rcases Nat.eq_zero_or_pos n with rfl | hp
    · exact h2 (TL.numL_lt (by decide))
    · exact numL_head n hp h1
theorem rdN_none {l : List Nat} (h : l = [] ∨ 5 ≤ l.length ∨ (l.head? = some 48 ∧ l ≠ [48]) ∨ ∃ c ∈ l, isDig c = false) : rdN l = none := by
  unfold rdN
  rw [if_neg]
  rintro ⟨h1, h2, h3, h4⟩
  rcases h with rfl | h | h | ⟨c, hc, hd⟩
  · simp at h2
  · omega
  · exact h3 h
  · have := List.all_eq_true.mp h4 c hc
    rw [hd] at this
    cases this
theorem num_free {n c : Nat} (h : c < 48 ∨ 57 < c) : c ∉ TL.numL n := TL.numL_free h
theorem line_words {c : List Nat} (h : c ≠ []) : wrds (line c) = c.map TL.numL := by
  refine wrds_jn (fun e => h (List.map_eq_nil_iff.mp e)) fun w hw => ?_
  obtain ⟨n, _, rfl⟩ := List.mem_map.mp hw
  exact num_free (.inl (by decide))
theorem line_good {c : List Nat} (h : c ≠ []) (hb : ∀ x ∈ c, x < 10000) : bad (line c) = false ∧ mems (line c) = c := by
  unfold bad mems
  rw [line_words h]
  constructor
  · rw [List.any_map]
    refine Bool.eq_false_iff.mpr fun z => ?_
    obtain ⟨x, hx, e⟩ := List.any_eq_true.mp z
    have e : (rdN (TL.numL x)).isNone = true := e
    rw [rdN_num (hb x hx)] at e
    cases e
  · rw [List.filterMap_map]
    have : ∀ l : List Nat, (∀ x ∈ l, x < 10000) → l.filterMap (rdN ∘ TL.numL) = l := by
      intro l hl
      induction l with
      | nil => rfl
      | cons x r ih =>
        rw [List.filterMap_cons]
        have e1 : (rdN ∘ TL.numL) x = some x := rdN_num (hl x List.mem_cons_self)
        rw [e1, ih fun y hy => hl y (List.mem_cons_of_mem _ hy)]
    exact this c hb
theorem bad_word {l : List Nat} {ws : List (List Nat)} (e : wrds l = ws) {w : List Nat} (hw : w ∈ ws) (hn : rdN w = none) : bad l = true := by
  unfold bad
  rw [e]
  exact List.any_eq_true.mpr ⟨w, hw, by rw [hn]; rfl⟩
theorem jn_mem {c x : Nat} : ∀ {ls : List (List Nat)}, x ∈ jn c ls → x = c ∨ ∃ l ∈ ls, x ∈ l
  | [], h => by cases h
  | [l], h => .inr ⟨l, List.mem_cons_self, h⟩
  | l :: m :: r, h => by
    have h : x ∈ l ++ ([c] ++ jn c (m :: r)) := by
      have e : jn c (l :: m :: r) = l ++ ([c] ++ jn c (m :: r)) := rfl
      rw [← e]; exact h
    rcases List.mem_append.mp h with h | h
    · exact .inr ⟨l, List.mem_cons_self, h⟩
    · rcases List.mem_append.mp h with h | h
      · exact .inl (List.mem_singleton.mp h)
      · rcases jn_mem h with h | ⟨y, hy, h⟩
        · exact .inl h
        · exact .inr ⟨y, List.mem_cons_of_mem _ hy, h⟩
theorem jn_cons {c : Nat} {l : List Nat} {r : List (List Nat)} (h : r ≠ []) : jn c (l :: r) = l ++ (c :: jn c r) := by
  cases r with
  | nil => exact absurd rfl h
  | cons m r => rfl
theorem jn_app {c : Nat} : ∀ (a b : List (List Nat)), a ≠ [] → b ≠ [] → jn c (a ++ b) = jn c a ++ (c :: jn c b)
  | [l], b, _, hb => by
    show jn c (l :: b) = l ++ _
    exact jn_cons hb
  | l :: m :: r, b, _, hb => by
    show jn c (l :: (m :: r ++ b)) = _
    rw [jn_cons (by simp), jn_cons (by simp : (m :: r) ≠ []), jn_app (m :: r) b (by simp) hb]
    simp
theorem line_free {c : List Nat} {x : Nat} (h1 : x ≠ 32) (h2 : x < 48 ∨ 57 < x) : x ∉ line c := fun h => by
  rcases jn_mem h with h | ⟨l, hl, h⟩
  · exact h1 h
  · obtain ⟨n, _, rfl⟩ := List.mem_map.mp hl
    exact num_free h2 h
theorem jn_len {c : Nat} : ∀ (ls : List (List Nat)) (k : Nat), (∀ l ∈ ls, l.length ≤ k) → (jn c ls).length ≤ ls.length * (k + 1)
  | [], _, _ => Nat.zero_le _
  | [l], k, h => by
    have := h l List.mem_cons_self
    show l.length ≤ 1 * (k + 1)
    omega
  | l :: m :: r, k, h => by
    have h1 := h l List.mem_cons_self
    have h2 := jn_len (c := c) (m :: r) k fun x hx => h x (List.mem_cons_of_mem _ hx)
    rw [jn_cons (by simp), List.length_append, List.length_cons, List.length_cons, Nat.succ_mul]
    omega
/-! the table of next halves -/
def prs (c : List Nat) : List (Nat × Nat) := c.zip (c.drop 1 ++ c.take 1)
def put (kvs : List (Nat × Option Nat)) (p : Nat × Nat) : List (Nat × Option Nat) :=
  if p.1 ∈ kvs.map (·.1) then kvs.map (fun q => if q.1 = p.1 then (q.1, none) else q) else kvs ++ [(p.1, some p.2)]
def tab (ps : List (Nat × Nat)) : List (Nat × Option Nat) := ps.foldl put []
def bare (p : Nat × Nat) : Nat × Option Nat := (p.1, some p.2)
theorem put_keys {kvs : List (Nat × Option Nat)} {p : Nat × Nat} : (put kvs p).map (·.1) = if p.1 ∈ kvs.map (·.1) then kvs.map (·.1) else kvs.map (·.1) ++ [p.1] := by
  unfold put
  by_cases h : p.1 ∈ kvs.map (·.1)
  · rw [if_pos h, if_pos h, List.map_map]
    refine List.map_congr_left fun q _ => ?_
    show (if q.1 = p.1 then (q.1, none) else q).1 = q.1
    by_cases e : q.1 = p.1
    · rw [if_pos e]
    · rw [if_neg e]
  · rw [if_neg h, if_neg h, List.map_append]
    rfl
theorem tab_nodup : ∀ (ps qs : List (Nat × Nat)), ((qs ++ ps).map (·.1)).Nodup → ps.foldl put (qs.map bare) = (qs ++ ps).map bare
  | [], qs, _ => by rw [List.append_nil]; rfl
  | p :: r, qs, h => by
    have hk : (qs.map bare).map (·.1) = qs.map (·.1) := by rw [List.map_map]; rfl
    have hn : p.1 ∉ (qs.map bare).map (·.1) := fun z => by
      rw [hk] at z
      rw [List.map_append, List.nodup_append] at h
      exact h.2.2 p.1 z p.1 (by simp) rfl
    have e : put (qs.map bare) p = (qs ++ [p]).map bare := by
      unfold put
      rw [if_neg hn, List.map_append]
      rfl
    show r.foldl put (put (qs.map bare) p) = _
    have := tab_nodup r (qs ++ [p]) (by rw [List.append_assoc]; exact h)
    rw [List.append_assoc] at this
    rw [e]
    exact this
theorem tab_ok {ps : List (Nat × Nat)} (h : (ps.map (·.1)).Nodup) : tab ps = ps.map bare := tab_nodup ps [] h
theorem put_none {kvs : List (Nat × Option Nat)} {p : Nat × Nat} (h : none ∈ kvs.map (·.2)) : none ∈ (put kvs p).map (·.2) := by
  obtain ⟨q, hq, e⟩ := List.mem_map.mp h
  unfold put
  by_cases c : p.1 ∈ kvs.map (·.1)
  · rw [if_pos c, List.map_map]
    refine List.mem_map.mpr ⟨q, hq, ?_⟩
    show (if q.1 = p.1 then (q.1, none) else q).2 = none
    by_cases c2 : q.1 = p.1
    · rw [if_pos c2]
    · rw [if_neg c2]; exact e
  · rw [if_neg c, List.map_append]
    exact List.mem_append_left _ h
theorem fold_none : ∀ (ps : List (Nat × Nat)) (kvs : List (Nat × Option Nat)), none ∈ kvs.map (·.2) → none ∈ (ps.foldl put kvs).map (·.2)
  | [], _, h => h
  | p :: r, _, h => fold_none r _ (put_none h)
theorem tab_dup : ∀ (ps : List (Nat × Nat)) (kvs : List (Nat × Option Nat)), (kvs.map (·.1)).Nodup → ¬ (kvs.map (·.1) ++ ps.map (·.1)).Nodup → none ∈ (ps.foldl put kvs).map (·.2)
  | [], kvs, h, h2 => by
    rw [List.map_nil, List.append_nil] at h2
    exact absurd h h2
  | p :: r, kvs, h, h2 => by
    by_cases c : p.1 ∈ kvs.map (·.1)
    · refine fold_none r _ ?_
      obtain ⟨q, hq, e⟩ := List.mem_map.mp c
      unfold put
      rw [if_pos c, List.map_map]
      refine List.mem_map.mpr ⟨q, hq, ?_⟩
      show (if q.1 = p.1 then (q.1, none) else q).2 = none
      rw [if_pos e]
    · have hk : (put kvs p).map (·.1) = kvs.map (·.1) ++ [p.1] := by rw [put_keys, if_neg c]
      refine tab_dup r (put kvs p) ?_ ?_
      · rw [hk]
        exact List.nodup_append.mpr ⟨h, List.nodup_cons.mpr ⟨fun z => (nomatch z), List.nodup_nil⟩, fun a ha b hb e => c (by rw [← List.mem_singleton.mp hb, ← e]; exact ha)⟩
      · rw [hk, List.append_assoc]
        exact h2
theorem prs_keys (c : List Nat) : (prs c).map (·.1) = c := by
  unfold prs
  rw [List.map_fst_zip]
  rw [List.length_append, List.length_drop, List.length_take]
  omega
theorem all_keys (cs : List (List Nat)) : (cs.flatMap prs).map (·.1) = cs.flatten := by
  induction cs with
  | nil => rfl
  | cons c r ih => rw [List.flatMap_cons, List.map_append, prs_keys, ih, List.flatten_cons]
theorem put_len {kvs : List (Nat × Option Nat)} {p : Nat × Nat} : (put kvs p).length ≤ kvs.length + 1 := by
  unfold put
  by_cases h : p.1 ∈ kvs.map (·.1)
  · rw [if_pos h, List.length_map]; omega
  · rw [if_neg h, List.length_append]; exact Nat.le_refl _
theorem fold_len : ∀ (ps : List (Nat × Nat)) (kvs : List (Nat × Option Nat)), (ps.foldl put kvs).length ≤ kvs.length + ps.length
  | [], _ => Nat.le_refl _
  | p :: r, kvs => by
    have h1 := fold_len r (put kvs p)
    have h2 := put_len (kvs := kvs) (p := p)
    show (r.foldl put (put kvs p)).length ≤ _
    rw [List.length_cons]
    omega
theorem fold_keys : ∀ (ps : List (Nat × Nat)) (kvs : List (Nat × Option Nat)), (kvs.map (·.1)).Nodup → ((ps.foldl put kvs).map (·.1)).Nodup
  | [], _, h => h
  | p :: r, kvs, h => by
    refine fold_keys r _ ?_
    rw [put_keys]
    by_cases c : p.1 ∈ kvs.map (·.1)
    · rw [if_pos c]; exact h
    · rw [if_neg c]
      exact List.nodup_append.mpr ⟨h, List.nodup_cons.mpr ⟨fun z => (nomatch z), List.nodup_nil⟩, fun a ha b hb e => c (by rw [← List.mem_singleton.mp hb, ← e]; exact ha)⟩
/-- a round of the mesh -/
def Rot (ns c : List Nat) : Prop := ∀ p ∈ prs c, fn ns p.1 = p.2
end TX

namespace Pf
open PySem PySem.Spec PyProof.Rows L2
def topS (i : Nat) : Stmt := PySem.Challenge.pw_halfmeshes_k14_texts_of_meshes.main.body.getD i (.Pass ⟨0, 0, 0, 0⟩)
abbrev s_BadLine_d_initd_ : Stmt := inClass (topS 4) 0
theorem sc_BadLine_d_initd_ : FnScope ["self", "line"] ["self", "line"] (defScope s_BadLine_d_initd_) := ⟨rfl, rfl, rfl, by decide +kernel, rfl, by decide +kernel, by decide +kernel⟩
abbrev s_rounds : Stmt := topS 8
theorem sc_rounds : FnScope ["steps", "seen", "found", "half", "members"] ["steps"] (defScope s_rounds) := ⟨rfl, rfl, rfl, by decide +kernel, rfl, by decide +kernel, by decide +kernel⟩
abbrev s_are_integers : Stmt := topS 9
theorem sc_are_integers : FnScope ["values", "value"] ["values"] (defScope s_are_integers) := ⟨rfl, rfl, rfl, by decide +kernel, rfl, by decide +kernel, by decide +kernel⟩
abbrev s_Mesh_d_initd_ : Stmt := inClass (topS 10) 0
theorem sc_Mesh_d_initd_ : FnScope ["self", "nexts", "size", "half", "after"] ["self", "nexts"] (defScope s_Mesh_d_initd_) := ⟨rfl, rfl, rfl, by decide +kernel, rfl, by decide +kernel, by decide +kernel⟩
abbrev s_Mesh_d_lend_ : Stmt := inClass (topS 10) 2
theorem sc_Mesh_d_lend_ : FnScope ["self"] ["self"] (defScope s_Mesh_d_lend_) := ⟨rfl, rfl, rfl, by decide +kernel, rfl, by decide +kernel, by decide +kernel⟩
abbrev s_Mesh_d_containsd_ : Stmt := inClass (topS 10) 3
theorem sc_Mesh_d_containsd_ : FnScope ["self", "half"] ["self", "half"] (defScope s_Mesh_d_containsd_) := ⟨rfl, rfl, rfl, by decide +kernel, rfl, by decide +kernel, by decide +kernel⟩
abbrev s_Mesh_d_eqd_ : Stmt := inClass (topS 10) 4
theorem sc_Mesh_d_eqd_ : FnScope ["self", "other"] ["self", "other"] (defScope s_Mesh_d_eqd_) := ⟨rfl, rfl, rfl, by decide +kernel, rfl, by decide +kernel, by decide +kernel⟩
abbrev s_Mesh_after : Stmt := inClass (topS 10) 5
theorem sc_Mesh_after : FnScope ["self", "half"] ["self", "half"] (defScope s_Mesh_after) := ⟨rfl, rfl, rfl, by decide +kernel, rfl, by decide +kernel, by decide +kernel⟩
abbrev s_Mesh_nexts : Stmt := inClass (topS 10) 9
theorem sc_Mesh_nexts : FnScope ["self"] ["self"] (defScope s_Mesh_nexts) := ⟨rfl, rfl, rfl, by decide +kernel, rfl, by decide +kernel, by decide +kernel⟩
abbrev s_Mesh_faces : Stmt := inClass (topS 10) 10
theorem sc_Mesh_faces : FnScope ["self"] ["self"] (defScope s_Mesh_faces) := ⟨rfl, rfl, rfl, by decide +kernel, rfl, by decide +kernel, by decide +kernel⟩
abbrev s_Mesh_text : Stmt := inClass (topS 10) 16
theorem sc_Mesh_text : FnScope ["self", "members", "half"] ["self"] (defScope s_Mesh_text) := ⟨rfl, rfl, rfl, by decide +kernel, rfl, by decide +kernel, by decide +kernel⟩
abbrev s_read_number : Stmt := topS 11
theorem sc_read_number : FnScope ["word", "char"] ["word"] (defScope s_read_number) := ⟨rfl, rfl, rfl, by decide +kernel, rfl, by decide +kernel, by decide +kernel⟩
abbrev s_read_mesh : Stmt := topS 12
theorem sc_read_mesh : FnScope ["text", "nexts", "index", "line", "members", "half", "after", "word"] ["text"] (defScope s_read_mesh) := ⟨rfl, rfl, rfl, by decide +kernel, rfl, by decide +kernel, by decide +kernel⟩
abbrev s_l_tape : Stmt := topS 14
theorem sc_l_tape : FnScope ["_law_script", "_law_k", "_law_cell"] ["_law_script", "_law_k"] (defScope s_l_tape) := ⟨rfl, rfl, rfl, by decide +kernel, rfl, by decide +kernel, by decide +kernel⟩
abbrev s_l_pick : Stmt := topS 15
theorem sc_l_pick : FnScope ["_law_tape_here", "_law_many", "_law_digit", "_law_mixed_here"] ["_law_tape_here", "_law_many"] (defScope s_l_pick) := ⟨rfl, rfl, rfl, by decide +kernel, rfl, by decide +kernel, by decide +kernel⟩
abbrev s_l_nexts : Stmt := topS 16
theorem sc_l_nexts : FnScope ["_law_tape_here", "_law_edges", "_law_left", "_law_nexts_here", "_law_k", "_law_at"] ["_law_tape_here", "_law_edges"] (defScope s_l_nexts) := ⟨rfl, rfl, rfl, by decide +kernel, rfl, by decide +kernel, by decide +kernel⟩
abbrev s_l_size : Stmt := topS 17
theorem sc_l_size : FnScope ["_law_tape_here", "_law_choice"] ["_law_tape_here"] (defScope s_l_size) := ⟨rfl, rfl, rfl, by decide +kernel, rfl, by decide +kernel, by decide +kernel⟩
abbrev s_l_twin : Stmt := topS 18
theorem sc_l_twin : FnScope ["_law_half"] ["_law_half"] (defScope s_l_twin) := ⟨rfl, rfl, rfl, by decide +kernel, rfl, by decide +kernel, by decide +kernel⟩
abbrev s_l_turned : Stmt := topS 19
theorem sc_l_turned : FnScope ["_law_nexts_here", "_law_half", "_law_k"] ["_law_nexts_here", "_law_half"] (defScope s_l_turned) := ⟨rfl, rfl, rfl, by decide +kernel, rfl, by decide +kernel, by decide +kernel⟩
abbrev s_l_round : Stmt := topS 20
theorem sc_l_round : FnScope ["_law_nexts_here", "_law_half", "_law_by_face", "_law_found", "_law_after"] ["_law_nexts_here", "_law_half", "_law_by_face"] (defScope s_l_round) := ⟨rfl, rfl, rfl, by decide +kernel, rfl, by decide +kernel, by decide +kernel⟩
abbrev s_l_rounds : Stmt := topS 21
theorem sc_l_rounds : FnScope ["_law_nexts_here", "_law_by_face", "_law_found", "_law_half", "_law_members"] ["_law_nexts_here", "_law_by_face"] (defScope s_l_rounds) := ⟨rfl, rfl, rfl, by decide +kernel, rfl, by decide +kernel, by decide +kernel⟩
abbrev s_l_line : Stmt := topS 22
theorem sc_l_line : FnScope ["_law_members", "_law_half"] ["_law_members"] (defScope s_l_line) := ⟨rfl, rfl, rfl, by decide +kernel, rfl, by decide +kernel, by decide +kernel⟩
abbrev s_l_mixed : Stmt := topS 23
theorem sc_l_mixed : FnScope ["_law_tape_here", "_law_faces", "_law_left", "_law_lines", "_law_k", "_law_at", "_law_members", "_law_first"] ["_law_tape_here", "_law_faces"] (defScope s_l_mixed) := ⟨rfl, rfl, rfl, by decide +kernel, rfl, by decide +kernel, by decide +kernel⟩
abbrev s_l_spoilt : Stmt := topS 24
theorem sc_l_spoilt : FnScope ["_law_line_here", "_law_choice", "_law_place", "_law_words", "_law_at", "_law_long", "_law_wrong"] ["_law_line_here", "_law_choice", "_law_place"] (defScope s_l_spoilt) := ⟨rfl, rfl, rfl, by decide +kernel, rfl, by decide +kernel, by decide +kernel⟩
abbrev s_l_told : Stmt := topS 25
theorem sc_l_told : FnScope ["_law_text", "e"] ["_law_text"] (defScope s_l_told) := ⟨rfl, rfl, rfl, by decide +kernel, rfl, by decide +kernel, by decide +kernel⟩
abbrev s_l_miscounted : Stmt := topS 26
theorem sc_l_miscounted : FnScope ["_law_lines", "_law_choice", "_law_place", "_law_size_here", "_law_at", "_law_words", "_law_spot"] ["_law_lines", "_law_choice", "_law_place", "_law_size_here"] (defScope s_l_miscounted) := ⟨rfl, rfl, rfl, by decide +kernel, rfl, by decide +kernel, by decide +kernel⟩
abbrev s_law : Stmt := topS 27
theorem sc_law : FnScope ["_law_script", "_law_tape_here", "_law_choice", "_law_twice", "_law_place", "_law_edges", "_law_nexts_here", "_law_mesh", "_law_text", "_law_lines", "_law_at", "_law_changed", "_law_members"] ["_law_script"] (defScope s_law) := ⟨rfl, rfl, rfl, by decide +kernel, rfl, by decide +kernel, by decide +kernel⟩
structure Ad where
  f_BadLine_d_initd_ : Addr
  d_BadLine_d_initd_ : FuncData
  f_rounds : Addr
  d_rounds : FuncData
  f_are_integers : Addr
  d_are_integers : FuncData
  f_Mesh_d_initd_ : Addr
  d_Mesh_d_initd_ : FuncData
  f_Mesh_d_lend_ : Addr
  d_Mesh_d_lend_ : FuncData
  f_Mesh_d_containsd_ : Addr
  d_Mesh_d_containsd_ : FuncData
  f_Mesh_d_eqd_ : Addr
  d_Mesh_d_eqd_ : FuncData
  f_Mesh_after : Addr
  d_Mesh_after : FuncData
  f_Mesh_nexts : Addr
  d_Mesh_nexts : FuncData
  f_Mesh_faces : Addr
  d_Mesh_faces : FuncData
  f_Mesh_text : Addr
  d_Mesh_text : FuncData
  f_read_number : Addr
  d_read_number : FuncData
  f_read_mesh : Addr
  d_read_mesh : FuncData
  f_l_tape : Addr
  d_l_tape : FuncData
  f_l_pick : Addr
  d_l_pick : FuncData
  f_l_nexts : Addr
  d_l_nexts : FuncData
  f_l_size : Addr
  d_l_size : FuncData
  f_l_twin : Addr
  d_l_twin : FuncData
  f_l_turned : Addr
  d_l_turned : FuncData
  f_l_round : Addr
  d_l_round : FuncData
  f_l_rounds : Addr
  d_l_rounds : FuncData
  f_l_line : Addr
  d_l_line : FuncData
  f_l_mixed : Addr
  d_l_mixed : FuncData
  f_l_spoilt : Addr
  d_l_spoilt : FuncData
  f_l_told : Addr
  d_l_told : FuncData
  f_l_miscounted : Addr
  d_l_miscounted : FuncData
  f_law : Addr
  d_law : FuncData
  c_MeshError : Addr
  c_NotAMesh : Addr
  c_BadLine : Addr
  c_Mesh : Addr
structure Txt (K : PySem.W.Frag) (mg : Str → Option Value) (A : Ad) : Prop where
  F_BadLine_d_initd_ : Fun K "__init__" "BadLine.__init__" s_BadLine_d_initd_ A.f_BadLine_d_initd_ A.d_BadLine_d_initd_
  b_BadLine_d_initd_ : Binds K A.d_BadLine_d_initd_ ["self", "line"] []
  F_rounds : Fun K "rounds" "rounds" s_rounds A.f_rounds A.d_rounds
  b_rounds : Binds K A.d_rounds ["steps"] []
  g_rounds : mg "rounds" = some (.ref A.f_rounds)
  F_are_integers : Fun K "are_integers" "are_integers" s_are_integers A.f_are_integers A.d_are_integers
  b_are_integers : Binds K A.d_are_integers ["values"] []
  g_are_integers : mg "are_integers" = some (.ref A.f_are_integers)
  F_Mesh_d_initd_ : Fun K "__init__" "Mesh.__init__" s_Mesh_d_initd_ A.f_Mesh_d_initd_ A.d_Mesh_d_initd_
  b_Mesh_d_initd_ : Binds K A.d_Mesh_d_initd_ ["self", "nexts"] []
  m_Mesh_d_initd_ : Meth K A.c_Mesh "__init__" A.f_Mesh_d_initd_
  F_Mesh_d_lend_ : Fun K "__len__" "Mesh.__len__" s_Mesh_d_lend_ A.f_Mesh_d_lend_ A.d_Mesh_d_lend_
  b_Mesh_d_lend_ : Binds K A.d_Mesh_d_lend_ ["self"] []
  m_Mesh_d_lend_ : Meth K A.c_Mesh "__len__" A.f_Mesh_d_lend_
  F_Mesh_d_containsd_ : Fun K "__contains__" "Mesh.__contains__" s_Mesh_d_containsd_ A.f_Mesh_d_containsd_ A.d_Mesh_d_containsd_
  b_Mesh_d_containsd_ : Binds K A.d_Mesh_d_containsd_ ["self", "half"] []
  m_Mesh_d_containsd_ : Meth K A.c_Mesh "__contains__" A.f_Mesh_d_containsd_
  F_Mesh_d_eqd_ : Fun K "__eq__" "Mesh.__eq__" s_Mesh_d_eqd_ A.f_Mesh_d_eqd_ A.d_Mesh_d_eqd_
  b_Mesh_d_eqd_ : Binds K A.d_Mesh_d_eqd_ ["self", "other"] []
  m_Mesh_d_eqd_ : Meth K A.c_Mesh "__eq__" A.f_Mesh_d_eqd_
  F_Mesh_after : Fun K "after" "Mesh.after" s_Mesh_after A.f_Mesh_after A.d_Mesh_after
  b_Mesh_after : Binds K A.d_Mesh_after ["self", "half"] []
  m_Mesh_after : Meth K A.c_Mesh "after" A.f_Mesh_after
  F_Mesh_nexts : Fun K "nexts" "Mesh.nexts" s_Mesh_nexts A.f_Mesh_nexts A.d_Mesh_nexts
  b_Mesh_nexts : Binds K A.d_Mesh_nexts ["self"] []
  m_Mesh_nexts : Meth K A.c_Mesh "nexts" A.f_Mesh_nexts
  F_Mesh_faces : Fun K "faces" "Mesh.faces" s_Mesh_faces A.f_Mesh_faces A.d_Mesh_faces
  b_Mesh_faces : Binds K A.d_Mesh_faces ["self"] []
  m_Mesh_faces : Meth K A.c_Mesh "faces" A.f_Mesh_faces
  F_Mesh_text : Fun K "text" "Mesh.text" s_Mesh_text A.f_Mesh_text A.d_Mesh_text
  b_Mesh_text : Binds K A.d_Mesh_text ["self"] []
  m_Mesh_text : Meth K A.c_Mesh "text" A.f_Mesh_text
  F_read_number : Fun K "read_number" "read_number" s_read_number A.f_read_number A.d_read_number
  b_read_number : Binds K A.d_read_number ["word"] []
  g_read_number : mg "read_number" = some (.ref A.f_read_number)
  F_read_mesh : Fun K "read_mesh" "read_mesh" s_read_mesh A.f_read_mesh A.d_read_mesh
  b_read_mesh : Binds K A.d_read_mesh ["text"] []
  g_read_mesh : mg "read_mesh" = some (.ref A.f_read_mesh)
  F_l_tape : Fun K "_law_tape" "_law_tape" s_l_tape A.f_l_tape A.d_l_tape
  b_l_tape : Binds K A.d_l_tape ["_law_script", "_law_k"] []
  g_l_tape : mg "_law_tape" = some (.ref A.f_l_tape)
  F_l_pick : Fun K "_law_pick" "_law_pick" s_l_pick A.f_l_pick A.d_l_pick
  b_l_pick : Binds K A.d_l_pick ["_law_tape_here", "_law_many"] []
  g_l_pick : mg "_law_pick" = some (.ref A.f_l_pick)
  F_l_nexts : Fun K "_law_nexts" "_law_nexts" s_l_nexts A.f_l_nexts A.d_l_nexts
  b_l_nexts : Binds K A.d_l_nexts ["_law_tape_here", "_law_edges"] []
  g_l_nexts : mg "_law_nexts" = some (.ref A.f_l_nexts)
  F_l_size : Fun K "_law_size" "_law_size" s_l_size A.f_l_size A.d_l_size
  b_l_size : Binds K A.d_l_size ["_law_tape_here"] []
  g_l_size : mg "_law_size" = some (.ref A.f_l_size)
  F_l_twin : Fun K "_law_twin" "_law_twin" s_l_twin A.f_l_twin A.d_l_twin
  b_l_twin : Binds K A.d_l_twin ["_law_half"] []
  g_l_twin : mg "_law_twin" = some (.ref A.f_l_twin)
  F_l_turned : Fun K "_law_turned" "_law_turned" s_l_turned A.f_l_turned A.d_l_turned
  b_l_turned : Binds K A.d_l_turned ["_law_nexts_here", "_law_half"] []
  g_l_turned : mg "_law_turned" = some (.ref A.f_l_turned)
  F_l_round : Fun K "_law_round" "_law_round" s_l_round A.f_l_round A.d_l_round
  b_l_round : Binds K A.d_l_round ["_law_nexts_here", "_law_half", "_law_by_face"] []
  g_l_round : mg "_law_round" = some (.ref A.f_l_round)
  F_l_rounds : Fun K "_law_rounds" "_law_rounds" s_l_rounds A.f_l_rounds A.d_l_rounds
  b_l_rounds : Binds K A.d_l_rounds ["_law_nexts_here", "_law_by_face"] []
  g_l_rounds : mg "_law_rounds" = some (.ref A.f_l_rounds)
  F_l_line : Fun K "_law_line" "_law_line" s_l_line A.f_l_line A.d_l_line
  b_l_line : Binds K A.d_l_line ["_law_members"] []
  g_l_line : mg "_law_line" = some (.ref A.f_l_line)
  F_l_mixed : Fun K "_law_mixed" "_law_mixed" s_l_mixed A.f_l_mixed A.d_l_mixed
  b_l_mixed : Binds K A.d_l_mixed ["_law_tape_here", "_law_faces"] []
  g_l_mixed : mg "_law_mixed" = some (.ref A.f_l_mixed)
  F_l_spoilt : Fun K "_law_spoilt" "_law_spoilt" s_l_spoilt A.f_l_spoilt A.d_l_spoilt
  b_l_spoilt : Binds K A.d_l_spoilt ["_law_line_here", "_law_choice", "_law_place"] []
  g_l_spoilt : mg "_law_spoilt" = some (.ref A.f_l_spoilt)
  F_l_told : Fun K "_law_told" "_law_told" s_l_told A.f_l_told A.d_l_told
  b_l_told : Binds K A.d_l_told ["_law_text"] []
  g_l_told : mg "_law_told" = some (.ref A.f_l_told)
  F_l_miscounted : Fun K "_law_miscounted" "_law_miscounted" s_l_miscounted A.f_l_miscounted A.d_l_miscounted
  b_l_miscounted : Binds K A.d_l_miscounted ["_law_lines", "_law_choice", "_law_place", "_law_size_here"] []
  g_l_miscounted : mg "_law_miscounted" = some (.ref A.f_l_miscounted)
  F_law : Fun K "law" "law" s_law A.f_law A.d_law
  b_law : Binds K A.d_law ["_law_script"] []
  g_law : mg "law" = some (.ref A.f_law)
  g_MeshError : mg "MeshError" = some (.ref A.c_MeshError)
  g_NotAMesh : mg "NotAMesh" = some (.ref A.c_NotAMesh)
  x_NotAMesh : PySem.W.excIn K A.c_NotAMesh [.type "ValueError", .type "Exception", .type "BaseException", .type "object"] "ValueError.__new__" = true
  k_NotAMesh : PySem.W.keepIn K (.ref A.c_NotAMesh) = true
  s_NotAMesh : PySem.W.subIn K (.ref A.c_NotAMesh) (.type "BaseException") = some true
  t_NotAMesh : PySem.W.typeIn K (.ref A.c_NotAMesh) = some (.type "type")
  i_NotAMesh : PySem.W.isClsIn K A.c_NotAMesh = true
  ss_NotAMesh : PySem.W.subIn K (.ref A.c_NotAMesh) (.ref A.c_NotAMesh) = some true
  xg_NotAMesh : PySem.W.findIn K (.ref A.c_NotAMesh) "__getattribute__" = some (some (.builtin "BaseException.__getattribute__"))
  xk_NotAMesh : PySem.W.findIn K (.ref A.c_NotAMesh) "__getattr__" = some none
  xd_NotAMesh : PySem.W.hasDictIn K A.c_NotAMesh = true
  xa_NotAMesh : PySem.W.findIn K (.ref A.c_NotAMesh) "__class__" = some (some (.builtin "object.__class__"))
  xm_NotAMesh : PySem.W.mroIn K A.c_NotAMesh (.type "object") = some true
  ki_NotAMesh_MeshError : PySem.W.kitOne K (.ref A.c_NotAMesh) (.ref A.c_MeshError) = some true
  em_NotAMesh_BadLine : PySem.W.exmOne K (.ref A.c_NotAMesh) (.ref A.c_BadLine) = some false
  g_BadLine : mg "BadLine" = some (.ref A.c_BadLine)
  k_BadLine : PySem.W.keepIn K (.ref A.c_BadLine) = true
  s_BadLine : PySem.W.subIn K (.ref A.c_BadLine) (.type "BaseException") = some true
  t_BadLine : PySem.W.typeIn K (.ref A.c_BadLine) = some (.type "type")
  i_BadLine : PySem.W.isClsIn K A.c_BadLine = true
  ss_BadLine : PySem.W.subIn K (.ref A.c_BadLine) (.ref A.c_BadLine) = some true
  xg_BadLine : PySem.W.findIn K (.ref A.c_BadLine) "__getattribute__" = some (some (.builtin "BaseException.__getattribute__"))
  xk_BadLine : PySem.W.findIn K (.ref A.c_BadLine) "__getattr__" = some none
  xd_BadLine : PySem.W.hasDictIn K A.c_BadLine = true
  xa_BadLine : PySem.W.findIn K (.ref A.c_BadLine) "__class__" = some (some (.builtin "object.__class__"))
  xm_BadLine : PySem.W.mroIn K A.c_BadLine (.type "object") = some true
  ox_BadLine : RD.oexB K A.c_BadLine = true
  sa_BadLine : PySem.W.findIn K (.ref A.c_BadLine) "__setattr__" = some (some (.builtin "object.__setattr__"))
  ini_BadLine : PySem.W.findIn K (.ref A.c_BadLine) "__init__" = some (some (.ref A.f_BadLine_d_initd_))
  tin_BadLine : PySem.W.typeIn K (.ref A.f_BadLine_d_initd_) = some (.type "function")
  na_BadLine_line : PySem.W.findIn K (.ref A.c_BadLine) "line" = some none
  ki_BadLine_MeshError : PySem.W.kitOne K (.ref A.c_BadLine) (.ref A.c_MeshError) = some true
  g_Mesh : mg "Mesh" = some (.ref A.c_Mesh)
  cl_Mesh : Cls K A.c_Mesh
  mk_Mesh : Mk K A.c_Mesh A.f_Mesh_d_initd_
  n_Mesh_following : NoAttr K A.c_Mesh "following"
  n_Mesh_preceding : NoAttr K A.c_Mesh "preceding"
  nf_list : PySem.W.notFirst K A.c_Mesh (.type "list") = true
  nf_int : PySem.W.notFirst K A.c_Mesh (.type "int") = true
  xa_Mesh : PySem.W.findIn K (.ref A.c_Mesh) "__class__" = some (some (.builtin "object.__class__"))
  xm_Mesh : PySem.W.mroIn K A.c_Mesh (.type "object") = some true
  ki_list_Mesh : PySem.W.kitOne K (.type "list") (.ref A.c_Mesh) = some false
  ki_int_Mesh : PySem.W.kitOne K (.type "int") (.ref A.c_Mesh) = some false
  z_abs : mg "abs" = none
  z_all : mg "all" = none
  z_bool : mg "bool" = none
  z_enumerate : mg "enumerate" = none
  z_int : mg "int" = none
  z_isinstance : mg "isinstance" = none
  z_len : mg "len" = none
  z_list : mg "list" = none
  z_max : mg "max" = none
  z_min : mg "min" = none
  z_range : mg "range" = none
  z_sorted : mg "sorted" = none
  z_str : mg "str" = none
  z_zip : mg "zip" = none
  k_DIGITS : ∃ t, mg "DIGITS" = some (.str "0123456789" t)
  k_LONGEST_NUMBER : ∃ t, mg "LONGEST_NUMBER" = some (.int 4 t)
  oc_get : PySem.W.specialIn K (.builtin "object.__class__") "__get__" = some (some (.builtin "getset_descriptor.__get__"))
  oc_tak : PySem.W.takesIn K (.builtin "object.__class__") = some true
theorem Txt.exc_NotAMesh {K : PySem.W.Frag} {mg : Str → Option Value} {A : Ad} (T : Txt K mg A) : ExcC K A.c_NotAMesh := ⟨T.xg_NotAMesh, T.xk_NotAMesh, T.s_NotAMesh, T.xd_NotAMesh, T.xa_NotAMesh, T.oc_get, T.oc_tak, T.xm_NotAMesh⟩
theorem Txt.te_NotAMesh {K : PySem.W.Frag} {mg : Str → Option Value} {A : Ad} (T : Txt K mg A) : PySem.W.exmOne K (.ref A.c_NotAMesh) (.ref A.c_NotAMesh) = some true := RD.exm_self T.s_NotAMesh T.i_NotAMesh T.t_NotAMesh T.ss_NotAMesh
theorem Txt.exc_BadLine {K : PySem.W.Frag} {mg : Str → Option Value} {A : Ad} (T : Txt K mg A) : ExcC K A.c_BadLine := ⟨T.xg_BadLine, T.xk_BadLine, T.s_BadLine, T.xd_BadLine, T.xa_BadLine, T.oc_get, T.oc_tak, T.xm_BadLine⟩
theorem Txt.te_BadLine {K : PySem.W.Frag} {mg : Str → Option Value} {A : Ad} (T : Txt K mg A) : PySem.W.exmOne K (.ref A.c_BadLine) (.ref A.c_BadLine) = some true := RD.exm_self T.s_BadLine T.i_BadLine T.t_BadLine T.ss_BadLine
theorem Txt.xf_NotAMesh {K : PySem.W.Frag} {mg : Str → Option Value} {A : Ad} (T : Txt K mg A) : XfC K A.c_NotAMesh := ⟨T.xg_NotAMesh, T.xk_NotAMesh, T.s_NotAMesh, T.xd_NotAMesh⟩
theorem Txt.xf_BadLine {K : PySem.W.Frag} {mg : Str → Option Value} {A : Ad} (T : Txt K mg A) : XfC K A.c_BadLine := ⟨T.xg_BadLine, T.xk_BadLine, T.s_BadLine, T.xd_BadLine⟩
theorem Txt.oex_BadLine {K : PySem.W.Frag} {mg : Str → Option Value} {A : Ad} (T : Txt K mg A) : OexC K A.c_BadLine := RD.oexC T.ox_BadLine T.sa_BadLine T.s_BadLine T.t_BadLine T.k_BadLine
end Pf
local macro_rules | `(tactic| walk_at "rd1") => `(tactic| (with_reducible first
  | refine RD.var0 ?_ | refine RD.varS ?_ | refine RD.cst ?_ | refine RD.op ?_ | refine RD.i0 ?_ | refine RD.eqI ?_ | refine RD.neI ?_ | refine RD.exb ?_ | refine RD.tst ?_ | refine RD.tb' ?_
  | refine RD.seq ?_ | refine RD.asg ?_ | refine RD.gn0 ?_ | refine RD.gnS ?_ | refine RD.ifs ?_ | refine RD.ret ?_ | refine RD.nxt ?_ | refine RD.drp ?_ | refine RD.cons ?_ | refine RD.nil ?_
  | refine RD.cb ?_ | refine RD.call ?_ | refine RD.bT ?_ | refine RD.bF ?_ | refine RD.and ?_ | refine RD.or ?_ | refine RD.not ?_ | refine RD.andV ?_ | refine RD.orV ?_ | refine RD.notV ?_ | refine RD.tif ?_
  | refine RD.for_ ?_ | refine RD.iL ?_ | refine RD.iR1 ?_ | refine RD.iR2 ?_ | refine RD.iE ?_ | refine RD.iT ?_ | refine RD.iZ ?_ | refine RD.iS ?_ | refine RD.lc_ ?_ | refine RD.bm ?_ | refine RD.bm0 ?_ | refine RD.fld ?_ | refine RD.meth ?_ | refine RD.make ?_
  | refine RD.lst ?_ | refine RD.tup ?_ | refine RD.sl ?_ | refine RD.nop ?_ | refine RD.prt ?_ | refine RD.exi ?_ | refine RD.un ?_ | refine RD.u0 ?_ | refine RD.aug ?_ | refine RD.gsub ?_ | refine RD.chain ?_ | refine RD.yes ?_
  | refine RD.eqB ?_ | refine RD.neB ?_ | refine RD.eqS ?_ | refine RD.neS ?_ | refine RD.dput ?_ | refine RD.dget ?_ | refine RD.din ?_ | refine RD.dnin ?_ | refine RD.dnew ?_ | refine RD.sfld ?_ | refine RD.lrg ?_ | refine RD.rg1 ?_ | refine RD.int1 ?_ | refine RD.abs1 ?_ | refine RD.max2 ?_ | refine RD.min2 ?_ | refine RD.tru ?_ | refine RD.retN ?_ | refine RD.brk ?_ | refine RD.cnt ?_ | refine RD.prop ?_ | refine RD.ipi ?_ | refine RD.m1 ?_ | refine RD.ost ?_ | refine RD.star ?_ | refine RD.xf ?_))
local macro_rules | `(tactic| walk_at "rd") => `(tactic| (repeat (walk_at "rd1")))
local macro_rules | `(tactic| walk_at "hp") => `(tactic| first | assumption | exact upd_same | (rw [upd_ne (by first | assumption | (apply Ne.symm; assumption) | (exact ne_of_none (by assumption) (by assumption)) | (exact Ne.symm (ne_of_none (by assumption) (by assumption))))]; walk_at "hp"))
local macro_rules | `(tactic| walk_at "wp") => `(tactic| simp only [L2.wipe, List.map_cons, List.map_nil, List.set_cons_succ, List.set_cons_zero])
local macro_rules | `(tactic| walk_at "gn") => `(tactic| (repeat (with_reducible first | refine RD.gn0 ?_ | refine RD.gnS ?_)))
local macro_rules | `(tactic| walk_at "rn") => `(tactic| (repeat (first | walk_at "rd1" | (with_reducible first | refine RD.nbF ?_ | refine RD.nbT ?_))))
namespace Pf
open PySem PySem.Spec PyProof.Rows L2
/-- a tape: two numbers -/
def TapeAt (H : Hp) (a : Addr) : Prop := ∃ x y : Int, H a = some (.lst [.int x, .int y]) ∧ 0 ≤ x ∧ 0 ≤ y ∧ y < 2147483647
theorem TapeAt.same {H H' : Hp} {a : Addr} (t : TapeAt H a) (s : Same H H') : TapeAt H' a := by
  obtain ⟨x, y, h, r⟩ := t
  exact ⟨x, y, s _ _ h, r⟩
theorem TapeAt.mk {H : Hp} {a : Addr} {x y : Int} (h : 0 ≤ x) (h1 : 0 ≤ y) (h2 : y < 2147483647) : TapeAt (upd H a (.lst [.int x, .int y])) a := ⟨x, y, upd_same, h, h1, h2⟩
def sp_l_pick : Sp := fun vs H Q _ => ∃ (a : Addr) (m : Int), vs = [.ref a, .int m] ∧ TapeAt H a ∧ 0 < m ∧ m < 1000001 ∧
  ∀ (v : Nat) (H' : Hp), (v : Int) < m → TapeAt H' a → SameX a H H' → Q (vn v) H'
theorem pick_end {H : Hp} {a : Addr} {m : Int} {Q : VK} (k : ∀ (v : Nat) (H' : Hp), (v : Int) < m → TapeAt H' a → SameX a H H' → Q (vn v) H') {z x y : Int} (h0 : 0 ≤ z) (h1 : z < m) (hx : 0 ≤ x) (hy : 0 ≤ y) (hy2 : y < 2147483647) : Q (.int z) (upd H a (.lst [.int x, .int y])) := by
  obtain ⟨v, rfl⟩ := Int.eq_ofNat_of_zero_le h0
  exact k v _ h1 (TapeAt.mk hx hy hy2) (SameX.put (SameX.refl a H))
def sp_l_tape (K : PySem.W.Frag) : Sp := fun vs H Q _ => ∃ (a : Addr) (ns : List Int) (k : Int), vs = [.ref a, .int k] ∧ SqL K H a (ns.map V.int) ∧ 0 ≤ k ∧ k < 100 ∧
  ∀ H' p, Same H H' → H p = none → TapeAt H' p → Q (.ref p) H'
def sp_l_size : Sp := fun vs H Q _ => ∃ (a : Addr), vs = [.ref a] ∧ TapeAt H a ∧ ∀ (v : Nat) (H' : Hp), v ≤ 30 → TapeAt H' a → SameX a H H' → Q (vn v) H'
def sp_l_nexts : Sp := fun vs H Q _ => ∃ (a : Addr) (e : Nat), vs = [.ref a, vn e] ∧ TapeAt H a ∧ e ≤ 30 ∧
  ∀ (H' : Hp) (p : Addr) (ns : List Nat), MM.IsMesh ns → ns.length = 2 * e → H p = none → TapeAt H' a → SameX a H H' → H' p = some (.lst (vns ns)) → Q (.ref p) H'
section
variable {P : Program} {w : World} {K : PySem.W.Frag} {mg : Str → Option Value} {base : Heap} {A : Ad}
theorem ok_l_pick (T : Txt K mg A) : FnOk P w K mg base CX0 1 A.f_l_pick A.d_l_pick ["_law_tape_here", "_law_many"] (sp_l_pick) := by
  refine T.F_l_pick.ok sc_l_pick (fun vs H Q E h => ?_) (fun cdv Ar outer s H vs Q E hr h => ?_)
  · obtain ⟨a, m, rfl, _⟩ := h
    rfl
  · obtain ⟨a, m, rfl, ⟨x, y, hA, hx, hy, hy2⟩, hm, hm2, k⟩ := h
    refine ⟨_, (pss_cons (ps_if (pt_cmpR op_ge (pe_ix (RD.k_ixL (K := K) rfl) (pv 0) pe_int (fun _ _ => rfl)) (pe_op op_pow pe_int pe_int) (nomark _))
      (pss_cons (ps_set (i := 2) sc_l_pick.nd rfl (Or.inl rfl) (pe_op op_mod (pe_callTy RD.k_int (by rfl) T.z_int (by decide +kernel) (pa_cons (pe_ix (RD.k_ixL (K := K) rfl) (pv 0) pe_int (fun _ _ => rfl)) pa_nil)) (pv 1)))
      (pss_cons (ps_asg (pe_op op_fdiv (pe_ix (RD.k_ixL (K := K) rfl) (pv 0) pe_int (fun _ _ => rfl)) (pv 1)) (pg_sub (pv 0) pe_int set_list))
      (pss_one (ps_ret (pv 2)))))
      pss_nil)
      (pss_cons (ps_asg (pe_op op_mod (pe_callTy RD.k_int (by rfl) T.z_int (by decide +kernel) (pa_cons (pe_op op_add (pe_op op_add (pe_op op_mul (pe_ix (RD.k_ixL (K := K) rfl) (pv 0) pe_int (fun _ _ => rfl)) pe_int) (pe_op op_mul (pe_ix (RD.k_ixL (K := K) rfl) (pv 0) pe_int (fun _ _ => rfl)) pe_int)) pe_int) pa_nil)) pe_int) (pg_sub (pv 0) pe_int set_list))
      (pss_cons (ps_set (i := 3) sc_l_pick.nd rfl (Or.inl rfl) (pe_op op_mod (pe_callTy RD.k_int (by rfl) T.z_int (by decide +kernel) (pa_cons (pe_op op_add (pe_op op_add (pe_op op_mul (pe_ix (RD.k_ixL (K := K) rfl) (pv 0) pe_int (fun _ _ => rfl)) (pe_ix (RD.k_ixL (K := K) rfl) (pv 0) pe_int (fun _ _ => rfl))) (pe_op op_mul (pe_ix (RD.k_ixL (K := K) rfl) (pv 0) pe_int (fun _ _ => rfl)) pe_int)) pe_int) pa_nil)) pe_int))
      (pss_one (ps_ret (pe_op op_mod (pe_callTy RD.k_int (by rfl) T.z_int (by decide +kernel) (pa_cons (pe_op op_fdiv (pv 3) pe_int) pa_nil)) (pv 1))))))), ?_⟩
    show tSeq _ _ _ [some (.ref a), some (.int m), none, none] H
    walk_at "rd"
    refine RD.ixL (sq hA) rfl ?_
    walk_at "rd"
    refine RD.iC ⟨by decide, by decide, by decide⟩ ?_
    walk_at "rd"
    refine RD.dec (fun hbig => ?_) (fun hsm => ?_)
    · walk_at "rd"
      refine RD.ixL (sq hA) rfl ?_
      walk_at "rd"
      refine RD.iC hm ?_
      walk_at "rd"
      refine RD.ixL (sq hA) rfl ?_
      walk_at "rd"
      refine RD.iC ⟨hm, by omega⟩ ?_
      walk_at "rd"
      refine RD.setL hA rfl ?_
      walk_at "rd"
      exact pick_end k (Int.emod_nonneg _ (by omega)) (Int.emod_lt_of_pos _ hm) (Int.ediv_nonneg hx (by omega)) hy hy2
    · have hx18 : x < 1000000000000000000 := by
        have e : ((10 : Int) ^ (18 : Int).toNat) = 1000000000000000000 := by decide
        rw [e] at hsm
        omega
      walk_at "rd"
      refine RD.ixL (sq hA) rfl ?_
      walk_at "rd"
      refine RD.iC (.inr ⟨by decide, by decide⟩) ?_
      walk_at "rd"
      refine RD.ixL (sq hA) rfl ?_
      walk_at "rd"
      refine RD.iC (.inr ⟨by decide, by decide⟩) ?_
      walk_at "rd"
      refine RD.iC (by decide) ?_
      generalize hy' : (y * 48271 + x * 69621 + 11) % 2147483647 = y'
      have y0 : 0 ≤ y' := by rw [← hy']; exact Int.emod_nonneg _ (by decide)
      have y1 : y' < 2147483647 := by rw [← hy']; exact Int.emod_lt_of_pos _ (by decide)
      walk_at "rd"
      refine RD.setL hA rfl ?_
      have hB : (upd H a (.lst [.int x, .int y'])) a = some (.lst [.int x, .int y']) := upd_same
      walk_at "rd"
      refine RD.ixL (sq hB) rfl ?_
      walk_at "rd"
      refine RD.ixL (sq hB) rfl ?_
      walk_at "rd"
      refine RD.iC (.inl ⟨by omega, by omega⟩) ?_
      walk_at "rd"
      refine RD.ixL (sq hB) rfl ?_
      walk_at "rd"
      refine RD.iC (.inr ⟨by decide, by decide⟩) ?_
      walk_at "rd"
      refine RD.iC (by decide) ?_
      walk_at "rd"
      refine RD.iC ⟨by decide, by decide⟩ ?_
      walk_at "rd"
      refine RD.iC hm ?_
      exact pick_end k (Int.emod_nonneg _ (by omega)) (Int.emod_lt_of_pos _ hm) hx y0 y1
theorem ok_l_tape (T : Txt K mg A) : FnOk P w K mg base CX0 1 A.f_l_tape A.d_l_tape ["_law_script", "_law_k"] (sp_l_tape K) := by
  refine T.F_l_tape.ok sc_l_tape (fun vs H Q E h => ?_) (fun cdv Ar outer s H vs Q E hr h => ?_)
  · obtain ⟨a, ns, k, rfl, _⟩ := h
    rfl
  · obtain ⟨a, ns, k, rfl, hS, hk, hk2, q⟩ := h
    refine ⟨_, (pss_cons (ps_set (i := 2) sc_l_tape.nd rfl (Or.inl rfl) pe_int)
      (pss_cons (ps_if (pt_cmpR (RD.k_neD (K := K) rfl hr.units) (pv 0) (pe_lst pa_nil) (nomark _))
      (pss_one (ps_set (i := 2) sc_l_tape.nd rfl (Or.inl rfl) (pe_ix (RD.k_ixL (K := K) rfl) (pv 0) (pe_op op_mod (pe_callTy RD.k_int (by rfl) T.z_int (by decide +kernel) (pa_cons (pv 1) pa_nil)) (pe_callB (RD.k_len (K := K) rfl) (by rfl) T.z_len (by decide +kernel) (pa_cons (pv 0) pa_nil))) (fun _ _ => rfl))))
      pss_nil)
      (pss_one (ps_ret (pe_lst (pa_cons (pe_callB RD.k_abs (by rfl) T.z_abs (by decide +kernel) (pa_cons (pv 2) pa_nil)) (pa_cons (pe_op op_add (pe_op op_mul pe_int (pv 1)) pe_int) pa_nil))))))), ?_⟩
    show tSeq _ _ _ [some (.ref a), some (.int k), none] H
    walk_at "rd"
    refine ⟨Nat.zero_le _, fun p hp => ?_⟩
    have s1 : Same H (upd H p (.lst [])) := RD.same_new hp
    have hS1 := s1.seq hS
    refine RD.neD (d := dI ns) (e := dI []) (dp_I hS1) (dp_I (l := []) (sq upd_same)) (sh_dI _) (sh_dI _) ?_
    rw [eqv_dI]
    walk_at "rd"
    refine RD.ndec (fun hne => ?_) (fun _ => ?_)
    · have hl : 0 < ns.length := by
        cases ns with
        | nil => exact absurd rfl hne
        | cons _ _ => exact Nat.succ_pos _
      walk_at "rd"
      refine RD.len hS1 ?_
      rw [List.length_map]
      refine RD.iC (show (0 : Int) < _ by omega) ?_
      obtain ⟨j, hj⟩ := Int.eq_ofNat_of_zero_le (Int.emod_nonneg k (show ((ns.length : Nat) : Int) ≠ 0 by omega))
      have hj2 := Int.emod_lt_of_pos k (show (0 : Int) < ((ns.length : Nat) : Int) by omega)
      rw [hj] at hj2 ⊢
      have hjl : j < ns.length := by omega
      refine RD.ixL hS1 (at_n (v := .int ns[j]) (by rw [List.getElem?_map, List.getElem?_eq_getElem hjl]; rfl)) ?_
      walk_at "rd"
      refine RD.iC (.inl ⟨by decide, by decide⟩) ?_
      walk_at "rd"
      refine ⟨(show 2 ≤ sizeLine by decide), fun r hr => ?_⟩
      refine q _ r (s1.trans (RD.same_new hr)) (s1.free hr) (TapeAt.mk ?_ (by omega) (by omega))
      split <;> omega
    · walk_at "rd"
      refine RD.iC (.inl ⟨by decide, by decide⟩) ?_
      walk_at "rd"
      refine ⟨(show 2 ≤ sizeLine by decide), fun r hr => ?_⟩
      refine q _ r (s1.trans (RD.same_new hr)) (s1.free hr) (TapeAt.mk ?_ (by omega) (by omega))
      split <;> omega
theorem ok_l_size (T : Txt K mg A) : FnOk P w K mg base CX0 2 A.f_l_size A.d_l_size ["_law_tape_here"] (sp_l_size) := by
  have G_l_pick := ok_l_pick (P := P) (w := w) (base := base) T
  refine T.F_l_size.ok sc_l_size (fun vs H Q E h => ?_) (fun cdv Ar outer s H vs Q E hr h => ?_)
  · obtain ⟨a, rfl, _⟩ := h
    rfl
  · obtain ⟨a, rfl, tA, q⟩ := h
    refine ⟨_, (pss_cons (ps_set (i := 1) sc_l_size.nd rfl (Or.inl rfl) (pe_call G_l_pick (hr.mono (by decide)) (by rfl) T.g_l_pick T.F_l_pick.kp T.b_l_pick .nil pass0 (pa_cons (pv 0) (pa_cons pe_int pa_nil))))
      (pss_cons (ps_if (pt_cmpR op_eq (pv 1) pe_int (nomark _))
      (pss_one (ps_ret pe_int))
      pss_nil)
      (pss_cons (ps_if (pt_cmpR op_lt (pv 1) pe_int (nomark _))
      (pss_one (ps_ret (pe_call G_l_pick (hr.mono (by decide)) (by rfl) T.g_l_pick T.F_l_pick.kp T.b_l_pick .nil pass0 (pa_cons (pv 0) (pa_cons pe_int pa_nil)))))
      pss_nil)
      (pss_one (ps_ret (pe_call G_l_pick (hr.mono (by decide)) (by rfl) T.g_l_pick T.F_l_pick.kp T.b_l_pick .nil pass0 (pa_cons (pv 0) (pa_cons pe_int pa_nil)))))))), ?_⟩
    show tSeq _ _ _ [some (.ref a), none] H
    walk_at "rd"
    refine ⟨a, 32, rfl, tA, by decide, by decide, fun v H1 hv t1 s1 => ?_⟩
    walk_at "rd"
    refine RD.dec (fun _ => ?_) (fun _ => ?_)
    · walk_at "rd"
      exact q 30 H1 (by omega) t1 s1
    · walk_at "rd"
      refine RD.dec (fun _ => ?_) (fun _ => ?_)
      · walk_at "rd"
        exact ⟨a, 13, rfl, t1, by decide, by decide, fun v H2 hv t2 s2 => q v H2 (by omega) t2 (s1.trans s2)⟩
      · walk_at "rd"
        exact ⟨a, 8, rfl, t1, by decide, by decide, fun v H2 hv t2 s2 => q v H2 (by omega) t2 (s1.trans s2)⟩
theorem ok_l_nexts (T : Txt K mg A) : FnOk P w K mg base CX0 2 A.f_l_nexts A.d_l_nexts ["_law_tape_here", "_law_edges"] (sp_l_nexts) := by
  have G_l_pick := ok_l_pick (P := P) (w := w) (base := base) T
  refine T.F_l_nexts.ok sc_l_nexts (fun vs H Q E h => ?_) (fun cdv Ar outer s H vs Q E hr h => ?_)
  · obtain ⟨a, e, rfl, _⟩ := h
    rfl
  · obtain ⟨a, e, rfl, tA, he, q⟩ := h
    refine ⟨_, (pss_cons (ps_setLc (i := 2) (own := [("_law_k", 4)]) (g := gName 4) (by rfl) sc_l_nexts.nd rfl rfl (sw_true rfl rfl rfl (by decide +kernel)) (pi_range1 (by rfl) T.z_range (pa_cons (pe_op op_mul pe_int (pv 1)) pa_nil)) (blkOk_by (own := [("_law_k", 4)]) (N := ["_law_tape_here", "_law_edges", "_law_left", "_law_nexts_here", "_law_k", "_law_at"]) (sc := defScope s_l_nexts) (by decide +kernel)) (fun _ _ _ _ _ => (pg_name (i := 4) sc_l_nexts.nd rfl (Or.inl rfl))) (fun _ _ _ _ _ => pts_nil) (fun _ _ _ _ _ => (pv 4)))
      (pss_cons (ps_set (i := 3) sc_l_nexts.nd rfl (Or.inl rfl) (pe_lst pa_nil))
      (pss_cons (ps_for PassesOwn.never rfl (pi_range1 (by rfl) T.z_range (pa_cons (pe_op op_mul pe_int (pv 1)) pa_nil)) (pg_name (i := 4) sc_l_nexts.nd rfl (Or.inl rfl))
      (pss_cons (ps_set (i := 5) sc_l_nexts.nd rfl (Or.inl rfl) (pe_call G_l_pick (hr.mono (by decide)) (by rfl) T.g_l_pick T.F_l_pick.kp T.b_l_pick .nil pass0 (pa_cons (pv 0) (pa_cons (pe_callB (RD.k_len (K := K) rfl) (by rfl) T.z_len (by decide +kernel) (pa_cons (pv 2) pa_nil)) pa_nil))))
      (pss_cons (ps_expr (RD.k_bm (K := K) rfl PySem.F.plainAttrs_list PySem.F.slot_list_append PySem.F.type_list_append mt_append (pv 3) (pa_cons (pe_ix (RD.k_ixL (K := K) rfl) (pv 2) (pv 5) (fun _ _ => rfl)) pa_nil)))
      (pss_one (ps_set (i := 2) sc_l_nexts.nd rfl (Or.inl rfl) (pe_op op_cat (pe_slice (RD.k_slL (K := K) rfl) (pv 2) po_none (po_some (pv 5))) (pe_slice (RD.k_slL (K := K) rfl) (pv 2) (po_some (pe_op op_add (pv 5) pe_int)) po_none)))))))
      (pss_one (ps_ret (pv 3)))))), ?_⟩
    show tSeq _ _ _ [some (.ref a), some (vn e), none, none, none, none] H
    walk_at "rd"
    refine RD.iC (.inl ⟨by decide, by decide⟩) ?_
    walk_at "rd"
    refine RD.lcR (z := 2 * (e : Int)) (n := 2 * e) (by omega) (by omega) (by omega) (fun _ => true) vn (fun i H1 Q' R' hi s1 kT kF => ?_) (fun H1 l nl s1 el => ?_)
    · walk_at "wp"
      walk_at "rd"
      refine ⟨rfl, ?_⟩
      walk_at "rd"
      exact kT rfl _ (Same.refl _)
    rw [RD.pick_all (fun _ => rfl)] at el
    walk_at "rd"
    refine ⟨Nat.zero_le _, fun p np => ?_⟩
    walk_at "rd"
    refine RD.iC (.inl ⟨by decide, by decide⟩) ?_
    walk_at "rd"
    have la : l ≠ a := fun z => by
      obtain ⟨x, y, hA, _⟩ := tA
      rw [z, hA] at nl
      cases nl
    have tA1 : TapeAt (upd H1 p (.lst [])) a := (tA.same s1).same (RD.same_new np)
    have pa : p ≠ a := fun z => by
      obtain ⟨x, y, hA, _⟩ := tA.same s1
      rw [z, hA] at np
      cases np
    have np0 : H p = none := s1.free np
    refine RD.goR (n := 2 * e) (by omega) (by omega) (by omega) (fun i σ H2 => ∃ (l' : Addr) (ns left : List Nat) (o4 o5 : Option V), σ = [some (.ref a), some (vn e), some (.ref l'), some (.ref p), o4, o5] ∧ l' ≠ a ∧ l' ≠ p ∧ TapeAt H2 a ∧ SameX a H H2 ∧ H2 l' = some (.lst (vns left)) ∧ H2 p = some (.lst (vns ns)) ∧ (ns ++ left).Perm (List.range (2 * e)) ∧ ns.length = i)
      ⟨l, [], List.range (2 * e), none, none, rfl, la, ne_of_none el np, tA1, (Same.x s1).mut np0, by rw [upd_ne (ne_of_none el np)]; exact el, upd_same, List.Perm.refl _, rfl⟩ ?_ ?_
    · rintro i σ H2 hi ⟨l', ns, left, o4, o5, rfl, la', lp', tA2, s2, el2, ep2, pm, hl⟩
      have hlen := pm.length_eq
      rw [List.length_append, List.length_range, hl] at hlen
      walk_at "rd"
      refine RD.len (sq el2) ?_
      walk_at "rd"
      refine ⟨a, _, rfl, tA2, by rw [vns_len]; omega, by rw [vns_len]; omega, fun v H3 hv tA3 s3 => ?_⟩
      rw [vns_len] at hv
      have hv' : v < left.length := by omega
      have el3 := s3 _ _ el2 la'
      have ep3 := s3 _ _ ep2 pa
      walk_at "rd"
      refine ⟨RD.tyL (sq ep3), ?_⟩
      walk_at "rd"
      refine RD.ixL (sq el3) (at_n (vns_at (List.getElem?_eq_getElem hv'))) ?_
      walk_at "rd"
      refine RD.app ep3 (by rw [vns_len]; exact szt (by omega)) ?_
      have el4 : (upd H3 p (.lst (vns ns ++ [vn left[v]]))) l' = some (.lst (vns left)) := by rw [upd_ne lp']; exact el3
      walk_at "rd"
      refine RD.slL (sq el4) fun c1 nc1 => ?_
      have s4 := RD.same_new (o := .lst (cutV (vns left) none (some (v : Int)))) nc1
      walk_at "rd"
      refine RD.slL (sq (s4 _ _ el4)) fun c2 nc2 => ?_
      have s5 := RD.same_new (o := .lst (cutV (vns left) (some ((v : Int) + 1)) none)) nc2
      have e1 : cutV (vns left) none (some (v : Int)) = vns (left.take v) := by rw [cut_to]; exact (List.map_take ..).symm
      have e2 : cutV (vns left) (some ((v : Int) + 1)) none = vns (left.drop (v + 1)) := by
        rw [show ((v : Int) + 1) = ((v + 1 : Nat) : Int) by omega, cut_from]
        exact (List.map_drop ..).symm
      rw [e1] at nc2 s4 s5 ⊢
      rw [e2] at s5 ⊢
      refine RD.cat (s5 _ _ upd_same) upd_same (by rw [vns_len, vns_len, List.length_take, List.length_drop]; exact szl (by omega)) fun c3 nc3 => ?_
      have s6 := RD.same_new (o := .lst (vns (left.take v) ++ vns (left.drop (v + 1)))) nc3
      walk_at "rd"
      have sA := (s4.trans s5).trans s6
      have ta5 : TapeAt (upd H3 p (.lst (vns ns ++ [vn left[v]]))) a := by
        obtain ⟨x, y, hA, r⟩ := tA3
        exact ⟨x, y, by rw [upd_ne pa.symm]; exact hA, r⟩
      have ep5 : (upd H3 p (.lst (vns ns ++ [vn left[v]]))) p = some (.lst (vns (ns ++ [left[v]]))) := by rw [upd_same, vns_app]; rfl
      have fr : ∀ b o, (upd H3 p (.lst (vns ns ++ [vn left[v]]))) b = some o → b ≠ c3 := fun b o h => ne_of_none ((s4.trans s5) _ _ h) nc3
      refine ⟨c3, ns ++ [left[v]], left.take v ++ left.drop (v + 1), _, _, rfl, ?_, ?_, ta5.same sA, ?_, by rw [upd_same, vns_app], sA _ _ ep5, ?_, by rw [List.length_append, hl]; rfl⟩
      · obtain ⟨x, y, hA, r⟩ := ta5
        exact (fr _ _ hA).symm
      · exact (fr _ _ ep5).symm
      · exact ((s2.trans s3).mut np0).trans (Same.x sA)
      · rw [List.append_assoc]
        refine List.Perm.trans (List.Perm.append_left ns ?_) pm
        rw [← List.eraseIdx_eq_take_drop_succ]
        exact MM.perm_erase left v hv'
    · rintro σ H2 ⟨l', ns, left, o4, o5, rfl, la', lp', tA2, s2, el2, ep2, pm, hl⟩
      have hlen := pm.length_eq
      rw [List.length_append, List.length_range, hl] at hlen
      have e0 : left = [] := List.eq_nil_of_length_eq_zero (by omega)
      subst e0
      rw [List.append_nil] at pm
      walk_at "rd"
      exact q H2 p ns ⟨by rw [hl]; exact pm, by omega⟩ hl np0 tA2 s2 ep2
end
end Pf

namespace Pf
open PySem PySem.Spec PyProof.Rows L2 MM
/-! ### the object -/
theorem fp_ne : ¬ (("following" : Str) = "preceding") := by decide +kernel
def mflds (a b : Addr) : List (Str × V) := putF "preceding" (.ref b) (putF "following" (.ref a) [])
theorem mf_f (a b : Addr) : (mflds a b).lookup ("following" : Str) = some (.ref a) := by
  unfold mflds
  rw [lookup_putF, if_neg fp_ne, lookup_putF, if_pos rfl]
theorem mf_p (a b : Addr) : (mflds a b).lookup ("preceding" : Str) = some (.ref b) := by
  unfold mflds
  rw [lookup_putF, if_pos rfl]
theorem mf_no (a b : Addr) {m : Str} (h1 : ¬ m = "preceding") (h2 : ¬ m = "following") : (mflds a b).lookup m = none := by
  unfold mflds
  rw [lookup_putF, if_neg h1, lookup_putF, if_neg h2]
  rfl
structure MeshAt (A : Ad) (H : Hp) (p a b : Addr) (ns : List Nat) : Prop where
  ob : ∃ dx, H p = some (.ins A.c_Mesh dx (mflds a b))
  fo : H a = some (.lst (vns ns))
  pr : H b = some (.lst (vns (inv ns)))
theorem MeshAt.same {A : Ad} {H H' : Hp} {p a b : Addr} {ns : List Nat} (m : MeshAt A H p a b ns) (s : Same H H') : MeshAt A H' p a b ns := by
  obtain ⟨⟨dx, h⟩, h1, h2⟩ := m
  exact ⟨⟨dx, s _ _ h⟩, s _ _ h1, s _ _ h2⟩
theorem MeshAt.sameX {A : Ad} {H H' : Hp} {p a b t : Addr} {ns : List Nat} (m : MeshAt A H p a b ns) (s : SameX t H H') (n1 : p ≠ t) (n2 : a ≠ t) (n3 : b ≠ t) : MeshAt A H' p a b ns := by
  obtain ⟨⟨dx, h⟩, h1, h2⟩ := m
  exact ⟨⟨dx, s _ _ h n1⟩, s _ _ h1 n2, s _ _ h2 n3⟩
/-! ### promises -/
def sp_twin_of : Sp := fun vs H Q _ => ∃ h : Nat, vs = [vn h] ∧ Q (vn (tw h)) H
def sp_rounds (K : PySem.W.Frag) : Sp := fun vs H Q _ => ∃ (a : Addr) (st : List Nat), vs = [.ref a] ∧ SqL K H a (vns st) ∧ PermOn (fn st) st.length ∧ st.length ≤ 1000 ∧
  ∀ (H' : Hp) (q : Addr) (qs : List Addr), Same H H' → H q = none → (∀ x ∈ qs, H x = none ∧ x ≠ q) → LL H' q qs (rnds (fn st) st.length st.length) → Q (.ref q) H'
def sp_are (K : PySem.W.Frag) : Sp := fun vs H Q _ => ∃ (a : Addr) (ns : List Int), vs = [.ref a] ∧ SqL K H a (ns.map V.int) ∧ ns.length ≤ 1000 ∧ ∀ H', Same H H' → Q (.bl true) H'
def sp_init (A : Ad) : Sp := fun vs H Q _ => ∃ (p dx q : Addr) (ns : List Nat), vs = [.ref p, .ref q] ∧ H p = some (.ins A.c_Mesh dx []) ∧ H q = some (.lst (vns ns)) ∧ IsMesh ns ∧ ns.length ≤ 62 ∧
  ∀ (H' : Hp) (a b : Addr), H a = none → H b = none → a ≠ b → MeshAt A H' p a b ns → SameX p H H' → Q .non H'
def sp_after (A : Ad) : Sp := fun vs H Q _ => ∃ (p a b : Addr) (ns : List Nat) (h : Nat), vs = [.ref p, vn h] ∧ MeshAt A H p a b ns ∧ h < ns.length ∧ Q (vn (fn ns h)) H
def sp_before (A : Ad) : Sp := fun vs H Q _ => ∃ (p a b : Addr) (ns : List Nat) (h : Nat), vs = [.ref p, vn h] ∧ MeshAt A H p a b ns ∧ h < ns.length ∧ Q (vn (ns.idxOf h)) H
def sp_twin : Sp := fun vs H Q _ => ∃ (p : Addr) (h : Nat), vs = [.ref p, vn h] ∧ Q (vn (tw h)) H
def sp_turned (A : Ad) : Sp := fun vs H Q _ => ∃ (p a b : Addr) (ns : List Nat) (h : Nat), vs = [.ref p, vn h] ∧ MeshAt A H p a b ns ∧ h < ns.length ∧ Q (vn (tw (ns.idxOf h))) H
def sp_nexts (A : Ad) : Sp := fun vs H Q _ => ∃ (p a b : Addr) (ns : List Nat), vs = [.ref p] ∧ MeshAt A H p a b ns ∧ ∀ q, H q = none → Q (.ref q) (upd H q (.lst (vns ns)))
def sp_lists (A : Ad) (f : Bool) : Sp := fun vs H Q _ => ∃ (p a b : Addr) (ns : List Nat), vs = [.ref p] ∧ MeshAt A H p a b ns ∧ IsMesh ns ∧ ns.length ≤ 1000 ∧
  ∀ (H' : Hp) (q : Addr) (qs : List Addr), Same H H' → H q = none → (∀ x ∈ qs, H x = none ∧ x ≠ q) → LL H' q qs (rnds (fn (stp ns f)) ns.length ns.length) → Q (.ref q) H'
/-! ### mathematics of the loop -/
def mkK (x : Nat) : Key × V := (Sum.inl (x : Int), V.bl true)
theorem val_mk (x : Nat) : ∀ L : List Nat, valV (L.map mkK) (Sum.inl (x : Int) : Key) = if x ∈ L then some (.bl true) else none
  | [] => rfl
  | y :: L => by
    rw [List.map_cons]
    by_cases e : y = x
    · subst e
      rw [valV_pos (by rfl), if_pos List.mem_cons_self]
      rfl
    · have ne : ¬ (mkK y).1 = (Sum.inl (x : Int) : Key) := fun z => e (Int.ofNat.inj (Sum.inl.inj z))
      rw [valV_neg ne, val_mk x L]
      by_cases m : x ∈ L
      · rw [if_pos m, if_pos (List.mem_cons_of_mem _ m)]
      · rw [if_neg m, if_neg fun z => by
          rcases List.mem_cons.mp z with z | z
          · exact e z.symm
          · exact m z]
def cmin (f : Nat → Nat) (n h : Nat) : List Nat := if isMin f n h = true then cyc f n h else []
theorem rnds_next (f : Nat → Nat) (n h : Nat) : rnds f n (h + 1) = rnds f n h ++ (if (cmin f n h).isEmpty = true then [] else [cmin f n h]) := by
  show rnds f n h ++ (if isMin f n h = true then [cyc f n h] else []) = _
  unfold cmin
  by_cases q : isMin f n h = true
  · rw [if_pos q, if_pos q]; rfl
  · rw [if_neg q, if_neg q]; rfl
theorem cmin_stop {f : Nat → Nat} {n h j : Nat} (p : PermOn f n) (hh : h < n) (hj : j ≤ (cmin f n h).length) : it f j h ∈ (rnds f n h).flatten ++ (cmin f n h).take j ↔ j = (cmin f n h).length := by
  by_cases q : isMin f n h = true
  · have ec : cmin f n h = cyc f n h := if_pos q
    rw [ec] at hj ⊢
    constructor
    · intro hm
      rcases Nat.lt_or_ge j (cyc f n h).length with hl | hl
      · exfalso
        have hat := cyc_at p hh hl
        have hmem : it f j h ∈ cyc f n h := List.mem_of_getElem? hat
        rcases List.mem_append.mp hm with hm | hm
        · exact min_out p hh q hmem hm
        · obtain ⟨i, hi, e⟩ := List.mem_take_iff_getElem.mp hm
          have hi' : i < (cyc f n h).length := by omega
          have e2 : (cyc f n h)[i]? = (cyc f n h)[j]? := by rw [List.getElem?_eq_getElem hi', e, hat]
          have := (List.getElem?_inj hi' (cyc_nodup p hh)).mp e2
          omega
      · omega
    · rintro rfl
      rw [cyc_end p hh]
      refine List.mem_append_right _ ?_
      rw [List.take_length]
      exact cyc_self h
  · have ec : cmin f n h = [] := if_neg q
    rw [ec] at hj ⊢
    have : j = 0 := by simpa using hj
    subst this
    constructor
    · intro _; rfl
    · intro _
      exact List.mem_append_left _ (not_min_in p hh (by simpa using q))
theorem cmin_at {f : Nat → Nat} {n h j : Nat} (p : PermOn f n) (hh : h < n) (hj : j < (cmin f n h).length) : (cmin f n h)[j]? = some (it f j h) := by
  by_cases q : isMin f n h = true
  · have ec : cmin f n h = cyc f n h := if_pos q
    rw [ec] at hj ⊢
    exact cyc_at p hh hj
  · have ec : cmin f n h = [] := if_neg q
    rw [ec] at hj
    exact absurd hj (Nat.not_lt_zero _)
theorem cmin_len {f : Nat → Nat} {n h : Nat} (p : PermOn f n) (hh : h < n) : (cmin f n h).length ≤ n := by
  unfold cmin
  by_cases q : isMin f n h = true
  · rw [if_pos q]; exact cyc_len p hh
  · rw [if_neg q]; exact Nat.zero_le _
theorem nodup_len : ∀ (n : Nat) (l : List Nat), l.Nodup → (∀ x ∈ l, x < n) → l.length ≤ n := by
  intro n l hN hB
  rcases Nat.lt_or_ge n l.length with h | h
  · exfalso
    obtain ⟨i, j, hij, hj, e⟩ := pigeon n (fun i => l.getD i 0) (fun i hi => by
      have hi' : i < l.length := by omega
      show l.getD i 0 < n
      rw [List.getD_eq_getElem?_getD, List.getElem?_eq_getElem hi']
      exact hB _ (List.getElem_mem _))
    have hi' : i < l.length := by omega
    have hj' : j < l.length := by omega
    have e' : l.getD i 0 = l.getD j 0 := e
    rw [List.getD_eq_getElem?_getD, List.getD_eq_getElem?_getD, List.getElem?_eq_getElem hi', List.getElem?_eq_getElem hj'] at e'
    have e2 : l[i]? = l[j]? := by
      rw [List.getElem?_eq_getElem hi', List.getElem?_eq_getElem hj']
      exact congrArg some e'
    have := (List.getElem?_inj hi' hN).mp e2
    omega
  · exact h
theorem flat_len {f : Nat → Nat} {n m : Nat} (p : PermOn f n) (hm : m ≤ n) : (rnds f n m).flatten.length ≤ n := by
  refine nodup_len n _ (rnds_nodup p m hm) fun x hx => ?_
  obtain ⟨g, hg, _, hx⟩ := mem_flat.mp hx
  exact cyc_lt p (by omega) hx
theorem inv_of {ns L : List Nat} (m : IsMesh ns) (hl : L.length = ns.length) (h : ∀ j x : Nat, ns[j]? = some x → L[x]? = some j) : L = inv ns := by
  refine List.ext_getElem? fun x => ?_
  rcases Nat.lt_or_ge x ns.length with hx | hx
  · rw [inv_at hx, h _ _ (idx_at (m.mem hx))]
  · rw [List.getElem?_eq_none (by omega), List.getElem?_eq_none (by rw [inv_len]; omega)]
end Pf

namespace Pf
open PySem PySem.Spec PyProof.Rows L2 MM
def sp_areX (K : PySem.W.Frag) : Sp := fun vs H Q _ => ∃ (a : Addr) (xs : List V), vs = [.ref a] ∧ SqL K H a xs ∧ xs.all isIB = true ∧ xs.length ≤ 1000 ∧ ∀ H', Same H H' → Q (.bl (xs.all isI)) H'
def sp_initX (A : Ad) : Sp := fun vs H Q E => ∃ (p dx q : Addr) (xs : List V), vs = [.ref p, .ref q] ∧ H p = some (.ins A.c_Mesh dx []) ∧ H q = some (.lst xs) ∧ xs.length ≤ 62 ∧ xs.all isIB = true ∧
  (Bad xs → ∀ H', Same H H' → E (.ref A.c_NotAMesh) none H') ∧
  (∀ ns, xs = vns ns → IsMesh ns → ∀ (H' : Hp) (a b : Addr), H a = none → H b = none → a ≠ b → MeshAt A H' p a b ns → SameX p H H' → Q .non H')
end Pf

namespace Pf
open PySem PySem.Spec PyProof.Rows L2 MM
section
variable {P : Program} {w : World} {K : PySem.W.Frag} {mg : Str → Option Value} {base : Heap} {A : Ad}
theorem ok_rounds (T : Txt K mg A) : FnOk P w K mg base CX0 1 A.f_rounds A.d_rounds ["steps"] (sp_rounds K) := by
  refine T.F_rounds.ok sc_rounds (fun vs H Q E h => ?_) (fun cdv Ar outer s H vs Q E hr h => ?_)
  · obtain ⟨a, st, rfl, _⟩ := h
    rfl
  · obtain ⟨a, st, rfl, hS, pf, hn, q⟩ := h
    refine ⟨_, (pss_cons (ps_set (i := 1) sc_rounds.nd rfl (Or.inl rfl) pe_dnewK)
      (pss_cons (ps_set (i := 2) sc_rounds.nd rfl (Or.inl rfl) (pe_lst pa_nil))
      (pss_cons (ps_for PassesOwn.never rfl (pi_range1 (by rfl) T.z_range (pa_cons (pe_callB (RD.k_len (K := K) rfl) (by rfl) T.z_len (by decide +kernel) (pa_cons (pv 0) pa_nil)) pa_nil)) (pg_name (i := 3) sc_rounds.nd rfl (Or.inl rfl))
      (pss_cons (ps_set (i := 4) sc_rounds.nd rfl (Or.inl rfl) (pe_lst pa_nil))
      (pss_cons (ps_while PassesOwn.never (pt_cmp (pc_dnotin (hu_of hr) (pv 3) (pv 1)))
      (pss_cons (ps_dput (hu_of hr) (pv 1) (pv 3) pe_bl rfl)
      (pss_cons (ps_expr (RD.k_bm (K := K) rfl PySem.F.plainAttrs_list PySem.F.slot_list_append PySem.F.type_list_append mt_append (pv 4) (pa_cons (pv 3) pa_nil)))
      (pss_one (ps_set (i := 3) sc_rounds.nd rfl (Or.inl rfl) (pe_ix (RD.k_ixL (K := K) rfl) (pv 0) (pv 3) (fun _ _ => rfl)))))))
      (pss_one (ps_if (RD.k_tru (K := K) rfl (pv 4) (by intro _; rfl))
      (pss_one (ps_expr (RD.k_bm (K := K) rfl PySem.F.plainAttrs_list PySem.F.slot_list_append PySem.F.type_list_append mt_append (pv 2) (pa_cons (pv 4) pa_nil))))
      pss_nil)))))
      (pss_one (ps_ret (pv 2)))))), ?_⟩
    show tSeq _ _ _ [some (.ref a), none, none, none, none] H
    walk_at "rd"
    intro d nd
    walk_at "rd"
    refine ⟨Nat.zero_le _, fun fo nfo => ?_⟩
    have s0 : Same H (upd H d (.dK [])) := RD.same_new nd
    have s1 : Same H (upd (upd H d (.dK [])) fo (.lst [])) := s0.trans (RD.same_new nfo)
    have nfo0 : H fo = none := s0.free nfo
    have dfo : d ≠ fo := ne_of_none upd_same nfo
    walk_at "rd"
    refine RD.len (s1.seq hS) ?_
    rw [vns_len]
    walk_at "rd"
    refine RD.goR (n := st.length) (by omega) (by omega) (by omega) (fun i σ H2 => ∃ (qs : List Addr) (o3 o4 : Option V), σ = [some (.ref a), some (.ref d), some (.ref fo), o3, o4] ∧ Same H H2 ∧
        H2 d = some (.dK ((rnds (fn st) st.length i).flatten.map mkK)) ∧ (∀ x ∈ qs, H x = none ∧ x ≠ fo ∧ x ≠ d) ∧ LL H2 fo qs (rnds (fn st) st.length i))
      ⟨[], none, none, rfl, s1, by rw [upd_ne dfo, upd_same]; rfl, (by intro x hx; cases hx), upd_same, .nil⟩ ?_ ?_
    · rintro i σ H2 hi ⟨qs, o3, o4, rfl, s2, ed, hqs, ll⟩
      walk_at "rd"
      refine ⟨Nat.zero_le _, fun m nm => ?_⟩
      have nm0 : H m = none := s2.free nm
      have dm : d ≠ m := ne_of_none ed nm
      have fm : fo ≠ m := ne_of_none ll.top nm
      have qm : ∀ x ∈ qs, x ≠ m := fun x hx => by
        obtain ⟨b, _, e⟩ := paired_mem ll.each x hx
        exact ne_of_none e nm
      walk_at "rd"
      -- the walk
      refine RD.whl (fun k σ H3 => ∃ j, j + k = (cmin (fn st) st.length i).length ∧ σ = [some (.ref a), some (.ref d), some (.ref fo), some (vn (it (fn st) j i)), some (.ref m)] ∧ Same H H3 ∧
          H3 d = some (.dK (((rnds (fn st) st.length i).flatten ++ (cmin (fn st) st.length i).take j).map mkK)) ∧ H3 m = some (.lst (vns ((cmin (fn st) st.length i).take j))) ∧ LL H3 fo qs (rnds (fn st) st.length i))
        (cmin (fn st) st.length i).length ⟨0, by omega, rfl, RD.same_mut s2 nm0, by rw [upd_ne dm, List.take_zero, List.append_nil]; exact ed, upd_same, ll.same (RD.same_new nm)⟩ ?_
      rintro k σ H3 ⟨j, hj, rfl, s3, ed3, em3, ll3⟩
      have hst := cmin_stop (j := j) pf hi (by omega)
      walk_at "rd"
      refine ⟨d, _, rfl, DGet.k (k := Sum.inl ((it (fn st) j i : Nat) : Int)) ed3, ?_⟩
      rw [val_mk]
      by_cases hend : j = (cmin (fn st) st.length i).length
      · rw [if_pos (hst.mpr hend)]
        walk_at "rd"
        show (if false = true then _ else _)
        walk_at "rd"
        refine RD.truL (sq em3) ?_
        rw [hend, List.take_length] at em3 ed3 ⊢
        cases hc : (cmin (fn st) st.length i) with
        | nil =>
          rw [hc] at ed3
          walk_at "rd"
          refine ⟨qs, _, _, rfl, s3, ?_, hqs, ?_⟩
          · rw [rnds_next, hc]
            simpa using ed3
          · rw [rnds_next, hc]
            simpa using ll3
        | cons c0 cr =>
          rw [hc] at ed3 em3
          show (if true = true then _ else _)
          walk_at "rd"
          refine ⟨RD.tyL (sq ll3.top), ?_⟩
          walk_at "rd"
          have hl := rnds_len (f := fn st) (n := st.length) i
          have hl2 := paired_len ll3.each
          refine RD.app ll3.top (by rw [List.length_map]; exact szt (by omega)) ?_
          refine ⟨qs ++ [m], _, _, rfl, RD.same_mut s3 nfo0, ?_, ?_, ?_, ?_⟩
          · rw [upd_ne dfo, rnds_next, hc]
            simpa using ed3
          · intro x hx
            rcases List.mem_append.mp hx with hx | hx
            · exact hqs x hx
            · rw [List.mem_singleton.mp hx]
              exact ⟨nm0, fm.symm, dm.symm⟩
          · rw [upd_same, List.map_append]
            rfl
          · rw [rnds_next, hc]
            have e1 : Paired (fun q xs => (upd H3 fo (.lst (qs.map V.ref ++ [V.ref m]))) q = some (.lst (vns xs))) qs (rnds (fn st) st.length i) := by
              exact paired_upd ll3.each fun x hx => (hqs x hx).2.1
            refine paired_app e1 (.cons ?_ .nil)
            rw [upd_ne fm.symm]
            exact em3
      · have hlt : j < (cmin (fn st) st.length i).length := by omega
        have hnot := fun z => hend (hst.mp z)
        rw [if_neg hnot]
        walk_at "rd"
        show (if true = true then _ else _)
        walk_at "rd"
        refine RD.wN ?_
        walk_at "rd"
        have hfl := flat_len (m := i) pf (by omega)
        have hcl := cmin_len pf hi
        refine ⟨d, _, rfl, DPut.k (k := Sum.inl ((it (fn st) j i : Nat) : Int)) ed3 ?_, ?_⟩
        · rw [List.length_map, List.length_append, List.length_take]
          exact szt (by omega)
        rw [putK_new _ (by rw [val_mk, if_neg hnot])]
        have em4 : ∀ o, (upd H3 d o) m = some (.lst (vns ((cmin (fn st) st.length i).take j))) := fun o => by rw [upd_ne dm.symm]; exact em3
        walk_at "rd"
        refine ⟨RD.tyL (sq (em4 _)), ?_⟩
        walk_at "rd"
        refine RD.app (em4 _) (by rw [vns_len, List.length_take]; exact szt (by omega)) ?_
        have hx : it (fn st) j i < st.length := pf.it_lt j i hi
        have hS' : SqL K (upd (upd H3 d (.dK (((rnds (fn st) st.length i).flatten ++ (cmin (fn st) st.length i).take j).map mkK ++ [(Sum.inl ((it (fn st) j i : Nat) : Int), .bl true)]))) m (.lst (vns ((cmin (fn st) st.length i).take j) ++ [vn (it (fn st) j i)]))) a (vns st) := (RD.same_mut (RD.same_mut s3 nd) nm0).seq hS
        walk_at "rd"
        refine RD.ixL hS' (at_n (vns_at (fn_at hx))) ?_
        walk_at "rd"
        have tk := RD.take_one (cmin_at pf hi hlt)
        refine ⟨k - 1, by omega, j + 1, by omega, rfl, RD.same_mut (RD.same_mut s3 nd) nm0, ?_, ?_, ?_⟩
        · rw [upd_ne dm, upd_same, tk]
          simp only [List.map_append, List.append_assoc]
          rfl
        · rw [upd_same, tk, vns_app]
          rfl
        · refine ⟨by rw [upd_ne fm, upd_ne dfo.symm]; exact ll3.top, paired_upd (paired_upd ll3.each fun x hx => (hqs x hx).2.2) qm⟩
    · rintro σ H2 ⟨qs, o3, o4, rfl, s2, ed, hqs, ll⟩
      walk_at "rd"
      exact q H2 fo qs s2 nfo0 (fun x hx => ⟨(hqs x hx).1, (hqs x hx).2.1⟩) ll
end
end Pf

namespace Pf
open PySem PySem.Spec PyProof.Rows L2 MM
section
variable {P : Program} {w : World} {K : PySem.W.Frag} {mg : Str → Option Value} {base : Heap} {A : Ad}
theorem ok_are_integers (T : Txt K mg A) : FnOk P w K mg base CX0 1 A.f_are_integers A.d_are_integers ["values"] (sp_areX K) := by
  refine T.F_are_integers.ok sc_are_integers (fun vs H Q E h => ?_) (fun cdv Ar outer s H vs Q E hr h => ?_)
  · obtain ⟨a, xs, rfl, _⟩ := h
    rfl
  · obtain ⟨a, xs, rfl, hS, hib, hl, q⟩ := h
    refine ⟨_, (pss_one (ps_ret (pe_callB (RD.k_all (K := K) rfl rfl) (by rfl) T.z_all (by decide +kernel) (pa_cons (pe_lc (own := [("value", 1)]) (g := gName 1) (by rfl) sc_are_integers.nd (RD.k_pil (K := K) rfl (pv 0)) (blkOk_by (own := [("value", 1)]) (N := ["values", "value"]) (sc := defScope s_are_integers) (by decide +kernel)) (fun _ _ _ _ _ => (pg_name (i := 1) sc_are_integers.nd rfl (Or.inl rfl))) (fun _ _ _ _ _ => pts_nil) (fun _ _ _ _ _ => (pe_and (pe_callB (RD.k_isi (K := K) rfl) (by rfl) T.z_isinstance (by decide +kernel) (pa_cons (pv 1) (pa_cons (pe_bltn (v := .ty "int") (by rfl) T.z_int (by decide +kernel) rfl) pa_nil))) (pe_one (pe_not (pe_callB (RD.k_isi (K := K) rfl) (by rfl) T.z_isinstance (by decide +kernel) (pa_cons (pv 1) (pa_cons (pe_bltn (v := .ty "bool") (by rfl) T.z_bool (by decide +kernel) rfl) pa_nil)))))))) pa_nil)))), ?_⟩
    show tRet _ _ [some (.ref a), none] H
    walk_at "rd"
    refine RD.lcL hS (szl (by omega)) (fun _ => true) (fun v => .bl (isI v)) (fun i x H1 Q' R' hx s1 kT kF => ?_) (fun H1 l nl s1 el => ?_)
    · have hxb := List.all_eq_true.mp hib x (List.mem_of_getElem? hx)
      walk_at "wp"
      walk_at "rd"
      refine ⟨rfl, ?_⟩
      walk_at "rd"
      cases x with
      | int z =>
        refine RD.isi (.ty "int") (.base (.int z)) (kit_ty (r := true) (by decide +kernel)) ?_
        walk_at "rd"
        refine RD.isi (.ty "bool") (.base (.int z)) (kit_ty (r := false) (by decide +kernel)) ?_
        walk_at "rd"
        exact kT rfl _ (Same.refl _)
      | bl z =>
        refine RD.isi (.ty "int") (.base (.bl z)) (kit_ty (r := true) (by decide +kernel)) ?_
        walk_at "rd"
        refine RD.isi (.ty "bool") (.base (.bl z)) (kit_ty (r := true) (by decide +kernel)) ?_
        walk_at "rd"
        exact kT rfl _ (Same.refl _)
      | _ => exact absurd hxb (by intro z; cases z)
    rw [RD.pick_all (fun _ => rfl)] at el
    walk_at "rd"
    refine RD.all1 (bs := xs.map isI) (sq (by rw [el, List.map_map]; rfl)) ?_
    have e : (xs.map isI).all id = xs.all isI := by rw [List.all_map]; rfl
    rw [e]
    exact q H1 s1
theorem ok_Mesh_d_initd_ (T : Txt K mg A) : FnOk P w K mg base (L2.CX P w) 2 A.f_Mesh_d_initd_ A.d_Mesh_d_initd_ ["self", "nexts"] (sp_initX A) := by
  have G_are_integers := ok_are_integers (P := P) (w := w) (base := base) T
  refine T.F_Mesh_d_initd_.okX sc_Mesh_d_initd_ (fun vs H Q E h => ?_) (fun cdv Ar outer s H vs Q E hr h => ?_)
  · obtain ⟨p, dx, r, xs, rfl, _⟩ := h
    rfl
  · obtain ⟨p, dx, r, xs, rfl, hp, hr0, hl, hib, qB, qG⟩ := h
    refine ⟨_, (pss_cons (ps_set (i := 2) sc_Mesh_d_initd_.nd rfl (Or.inl rfl) (pe_callB (RD.k_len (K := K) rfl) (by rfl) T.z_len (by decide +kernel) (pa_cons (pv 1) pa_nil)))
      (pss_cons (ps_if (PW.pt (pw_or (pt_cmpR op_eq (pe_op op_mod (pv 2) pe_int) pe_int (nomark _)) (pw_or (pt_not (pt_val (pe_call G_are_integers (hr.mono (by decide)) (by rfl) T.g_are_integers T.F_are_integers.kp T.b_are_integers .nil pass0 (pa_cons (pv 1) pa_nil)))) (pw_or1 (pt_cmpR (RD.k_neD (K := K) rfl hr.units) (pe_callB (RD.k_sorted (K := K) rfl) (by rfl) T.z_sorted (by decide +kernel) (pa_cons (pv 1) pa_nil)) (pe_listRg (by rfl) (by rfl) T.z_list (prg_1 (by rfl) T.z_range (pv 2))) (nomark _))))))
      (pss_one (ps_raise rfl (takes_of rfl rfl rfl rfl) (RD.pmk_own0 PySem.F.excBase_ValueError T.x_NotAMesh T.g_NotAMesh T.k_NotAMesh (raises_own T.s_NotAMesh T.t_NotAMesh) rfl)))
      pss_nil)
      (PSs.nox (pss_cons (RD.k_sfld (K := K) rfl (pv 0) (pe_callTy (RD.k_list (K := K) rfl) (by rfl) T.z_list (by decide +kernel) (pa_cons (pv 1) pa_nil)) rfl)
      (pss_cons (RD.k_sfld (K := K) rfl (pv 0) (pe_op op_rep (pe_lst (pa_cons pe_int pa_nil)) (pv 2)) rfl)
      (pss_one (ps_for PassesOwn.never rfl (RD.k_pie (K := K) rfl (by rfl) T.z_enumerate (pa_cons (RD.k_fld (K := K) rfl (pv 0) rfl) pa_nil)) (RD.k_gtup (K := K) (n := 2) rfl rfl (pgs_cons (pg_name (i := 3) sc_Mesh_d_initd_.nd rfl (Or.inl rfl)) (pgs_cons (pg_name (i := 4) sc_Mesh_d_initd_.nd rfl (Or.inl rfl)) pgs_nil)))
      (pss_one (ps_asg (pv 3) (pg_sub (RD.k_fld (K := K) rfl (pv 0) rfl) (pv 4) set_list)))))))))), ?_⟩
    show tSeq _ _ _ [some (.ref p), some (.ref r), none, none, none] H
    walk_at "rd"
    refine RD.len (sq hr0) ?_
    walk_at "rd"
    refine RD.iC (by decide) ?_
    walk_at "rd"
    refine RD.dec (fun hodd => ?_) (fun hev => ?_)
    · walk_at "rd"
      exact qB ⟨hib, .inl (by omega)⟩ H (Same.refl H)
    walk_at "rd"
    refine ⟨r, xs, rfl, sq hr0, hib, by omega, fun H1 s1 => ?_⟩
    walk_at "rd"
    have hr1 := s1 _ _ hr0
    cases hai : xs.all isI with
    | false =>
      show (if true = true then _ else _)
      walk_at "rd"
      exact qB ⟨hib, .inr (.inl hai)⟩ H1 s1
    | true =>
    show (if false = true then _ else _)
    walk_at "rd"
    have exs := all_ints hai
    refine RD.sort1 (ns := xs.map toI) (by rw [← exs]; exact sq hr1) (by rw [List.length_map]; omega) fun ns' c pm so nc => ?_
    have s2 := RD.same_new (o := .lst (ns'.map V.int)) nc
    walk_at "rd"
    refine ⟨RgOk.of_le (by omega) (by omega) (by omega) (by omega), fun c2 nc2 => ?_⟩
    have erg : rgV 0 (xs.length : Int) = ((List.range xs.length).map (fun n : Nat => (n : Int))).map V.int := by
      unfold rgV
      rw [List.map_map, show ((xs.length : Int) - 0).toNat = xs.length by omega]
      refine List.map_congr_left fun x _ => ?_
      show V.int (0 + (x : Int)) = V.int (x : Int)
      rw [Int.zero_add]
    rw [erg]
    have s3 := RD.same_new (o := .lst (((List.range xs.length).map (fun n : Nat => (n : Int))).map V.int)) nc2
    refine RD.neD (dp_I (sq (s3 _ _ upd_same))) (dp_I (sq upd_same)) (sh_dI _) (sh_dI _) ?_
    rw [eqv_dI]
    walk_at "rd"
    have s4 := (s1.trans s2).trans s3
    have hfull := sorted_iff pm so
    rw [List.length_map] at hfull
    refine RD.ndec (fun hne => ?_) (fun heq => ?_)
    · walk_at "rd"
      exact qB ⟨hib, .inr (.inr fun f => hne (hfull.mpr f))⟩ _ s4
    obtain ⟨ns, en, hpm⟩ := full_mesh (hfull.mp heq)
    have exn : xs = vns ns := by rw [vns_int, ← en]; exact exs
    subst exn
    rw [vns_len] at hl hev
    have hM : IsMesh ns := ⟨hpm, by omega⟩
    have q := qG ns rfl hM
    clear qB qG hfull heq hib hai exs en pm so erg
    have he := hM.even
    clear s2 s3
    rw [vns_len] at s4 ⊢
    generalize (upd (upd H1 c (.lst (ns'.map V.int))) c2 (.lst (((List.range ns.length).map (fun n : Nat => (n : Int))).map V.int))) = Hk at s4 ⊢
    walk_at "rd"
    refine RD.list (sq (s4 _ _ hr0)) fun a na => ?_
    have s5 := RD.same_new (o := .lst (vns ns)) na
    have pa : p ≠ a := ne_of_none (s4 _ _ hp) na
    walk_at "rd"
    refine ⟨p, _, dx, [], rfl, s5 _ _ (s4 _ _ hp), T.cl_Mesh, T.n_Mesh_following, by decide, ?_⟩
    walk_at "rd"
    refine ⟨szl (by simp), fun z nz => ?_⟩
    walk_at "rd"
    refine RD.rep upd_same (by omega) (by omega) ?_ fun b nb => ?_
    · rw [Int.toNat_natCast]
      exact szl (by simp; omega)
    have ezr : (List.replicate ((ns.length : Int)).toNat [V.int 0]).flatten = vns (List.replicate ns.length 0) := by
      rw [Int.toNat_natCast]
      unfold vns
      rw [List.map_replicate]
      generalize ns.length = m0
      induction m0 with
      | zero => rfl
      | succ m ih => rw [List.replicate_succ, List.flatten_cons, ih, List.replicate_succ]; rfl
    rw [ezr]
    have pz : p ≠ z := ne_of_none upd_same nz
    have s6 := RD.same_new (o := .lst [V.int 0]) nz
    have pb : p ≠ b := ne_of_none (s6 _ _ upd_same) nb
    have s7 := RD.same_new (o := .lst (vns (List.replicate ns.length 0))) nb
    have ab : a ≠ b := ne_of_none (s6 _ _ (by rw [upd_ne pa.symm]; exact upd_same)) nb
    have s8 := s6.trans s7
    have na0 : H a = none := s4.free na
    have nb0 : H b = none := by
      have e1 : H b = none ∨ b = p := by
        by_cases e : b = p
        · exact .inr e
        · left
          have := s6.free nb
          rw [upd_ne e] at this
          exact s4.free (s5.free this)
      rcases e1 with e | e
      · exact e
      · exact absurd e.symm pb
    walk_at "rd"
    refine ⟨p, _, dx, _, rfl, s8 _ _ upd_same, T.cl_Mesh, T.n_Mesh_preceding, (by show 1 < 1000; decide), ?_⟩
    have ep : ∀ X : Hp, (upd X p (.ins A.c_Mesh dx (putF "preceding" (.ref b) (putF "following" (.ref a) [])))) p = some (.ins A.c_Mesh dx (mflds a b)) := fun _ => upd_same
    walk_at "rd"
    refine ⟨p, _, dx, _, _, rfl, ep _, T.cl_Mesh, T.n_Mesh_following, mf_f a b, ?_⟩
    walk_at "rd"
    have ea : (upd (upd (upd (upd (upd Hk a (.lst (vns ns))) p (.ins A.c_Mesh dx (putF "following" (.ref a) []))) z (.lst [V.int 0])) b (.lst (vns (List.replicate ns.length 0)))) p (.ins A.c_Mesh dx (putF "preceding" (.ref b) (putF "following" (.ref a) [])))) a = some (.lst (vns ns)) := by
      rw [upd_ne pa.symm]
      exact s8 _ _ (by rw [upd_ne pa.symm]; exact upd_same)
    refine RD.goE (sq ea) (fun i σ H3 => ∃ (L : List Nat) (o3 o4 : Option V), σ = [some (.ref p), some (.ref r), some (.int (ns.length : Int)), o3, o4] ∧ L.length = ns.length ∧ (∀ j x : Nat, j < i → ns[j]? = some x → L[x]? = some j) ∧
        H3 p = some (.ins A.c_Mesh dx (mflds a b)) ∧ H3 a = some (.lst (vns ns)) ∧ H3 b = some (.lst (vns L)) ∧ SameX p H H3)
      ⟨List.replicate ns.length 0, none, none, rfl, List.length_replicate, fun j x hj => absurd hj (Nat.not_lt_zero _), upd_same, ea, by rw [upd_ne pb.symm, upd_same], ?_⟩ (fun i σ H3 _ ⟨L, o3, o4, _, _, _, _, e, _⟩ => sq e) ?_ ?_
    · exact (((((Same.x s4).trans (Same.x s5)).put).trans (Same.x s8))).put
    · rintro i x σ H3 tp hx ⟨L, o3, o4, rfl, hL, hj, e1, e2, e3, s9⟩ ntp
      obtain ⟨m, hm, rfl⟩ := of_vns hx
      have sT := RD.same_new (o := .tup [V.int ((i : Nat) : Int), vn m]) ntp
      refine RD.gtup2 (st upd_same) ?_
      walk_at "rd"
      refine ⟨p, _, dx, _, _, rfl, sT _ _ e1, T.cl_Mesh, T.n_Mesh_preceding, mf_p a b, ?_⟩
      walk_at "rd"
      have hml : m < L.length := by rw [hL]; exact hM.lt (List.mem_of_getElem? hm)
      refine RD.setL (sT _ _ e3) (by rw [vns_len]; exact ix_n hml) ?_
      have ebt : b ≠ tp := ne_of_none e3 ntp
      refine ⟨L.set m i, _, _, rfl, by rw [List.length_set]; exact hL, fun j x hji hjx => ?_, by rw [upd_ne pb]; exact sT _ _ e1, by rw [upd_ne ab]; exact sT _ _ e2, ?_, ?_⟩
      · by_cases e : j = i
        · subst e
          rw [hm] at hjx
          cases hjx
          rw [List.getElem?_set_self hml]
        · have hne : m ≠ x := fun z => by
            subst z
            have hjl : j < ns.length := (List.getElem?_eq_some_iff.mp hjx).1
            exact e ((List.getElem?_inj hjl hM.nodup).mp (hjx.trans hm.symm))
          rw [List.getElem?_set_ne hne]
          exact hj j x (by omega) hjx
      · rw [upd_same]
        show some (HO.lst ((vns L).set m (vn i))) = _
        unfold vns
        rw [List.map_set]
      · exact (s9.trans (Same.x sT)).mut nb0
    · rintro σ H3 ⟨L, o3, o4, rfl, hL, hj, e1, e2, e3, s9⟩
      rw [vns_len] at hj
      have eL : L = inv ns := inv_of hM hL fun j x hjx => hj j x (List.getElem?_eq_some_iff.mp hjx).1 hjx
      subst eL
      exact q H3 a b na0 nb0 ab ⟨⟨dx, e1⟩, e2, e3⟩ s9
end
end Pf

namespace Pf
open PySem PySem.Spec PyProof.Rows L2 MM
section
variable {P : Program} {w : World} {K : PySem.W.Frag} {mg : Str → Option Value} {base : Heap} {A : Ad}
theorem ok_Mesh_faces (T : Txt K mg A) : FnOk P w K mg base CX0 2 A.f_Mesh_faces A.d_Mesh_faces ["self"] (sp_lists A true) := by
  have G_rounds := ok_rounds (P := P) (w := w) (base := base) T
  refine T.F_Mesh_faces.ok sc_Mesh_faces (fun vs H Q E h => ?_) (fun cdv Ar outer s H vs Q E hr h => ?_)
  · obtain ⟨p, a, b, ns, rfl, _⟩ := h
    rfl
  · obtain ⟨p, a, b, ns, rfl, ⟨⟨dx, h1⟩, h2, h3⟩, hM, hl, q⟩ := h
    refine ⟨_, (pss_one (ps_ret (pe_call G_rounds (hr.mono (by decide)) (by rfl) T.g_rounds T.F_rounds.kp T.b_rounds .nil pass0 (pa_cons (RD.k_fld (K := K) rfl (pv 0) rfl) pa_nil)))), ?_⟩
    show tRet _ _ [some (.ref p)] H
    walk_at "rd"
    refine ⟨p, _, dx, _, _, rfl, h1, T.cl_Mesh, T.n_Mesh_following, mf_f a b, ?_⟩
    walk_at "rd"
    exact ⟨a, ns, rfl, sq h2, hM.fnp, hl, q⟩
end
end Pf

namespace Pf
open PySem PySem.Spec PyProof.Rows L2 MM
def sp_mlen (A : Ad) : Sp := fun vs H Q _ => ∃ (p a b : Addr) (ns : List Nat), vs = [.ref p] ∧ MeshAt A H p a b ns ∧ Q (vn ns.length) H
def sp_mcont (A : Ad) : Sp := fun vs H Q _ => ∃ (p a b : Addr) (ns : List Nat) (z : Int), vs = [.ref p, .int z] ∧ MeshAt A H p a b ns ∧ Q (.bl (decide (0 ≤ z ∧ z < (ns.length : Int)))) H
def sp_meq (K : PySem.W.Frag) (A : Ad) : Sp := fun vs H Q _ => ∃ (p a b : Addr) (ns : List Nat) (y : V), vs = [.ref p, y] ∧ MeshAt A H p a b ns ∧
  ((∃ p2 a2 b2 ms, y = .ref p2 ∧ MeshAt A H p2 a2 b2 ms ∧ Q (.bl (decide (ns = ms))) H) ∨ (∃ t, TyX K H y t ∧ PySem.W.kitOne K t (.ref A.c_Mesh) = some false ∧ Q (.bl false) H))
theorem kit_self {K : PySem.W.Frag} {t : Value} : PySem.W.kitOne K t t = some true := by
  unfold PySem.W.kitOne
  rw [if_pos (by simp)]
theorem nf_self {K : PySem.W.Frag} {C : Addr} : PySem.W.notFirst K C (.ref C) = true := by
  unfold PySem.W.notFirst
  simp
section
variable {P : Program} {w : World} {K : PySem.W.Frag} {mg : Str → Option Value} {base : Heap} {A : Ad}
theorem mesh_ty (T : Txt K mg A) {H : Hp} {p a b : Addr} {ns : List Nat} (m : MeshAt A H p a b ns) : TyX K H (.ref p) (.ref A.c_Mesh) := by
  obtain ⟨dx, h⟩ := m.ob
  exact .base (.ins h T.cl_Mesh T.xa_Mesh T.oc_get T.oc_tak T.xm_Mesh)
theorem ok_Mesh_d_lend_ (T : Txt K mg A) : FnOk P w K mg base CX0 1 A.f_Mesh_d_lend_ A.d_Mesh_d_lend_ ["self"] (sp_mlen A) := by
  refine T.F_Mesh_d_lend_.ok sc_Mesh_d_lend_ (fun vs H Q E h => ?_) (fun cdv Ar outer s H vs Q E hr h => ?_)
  · obtain ⟨p, a, b, ns, rfl, _⟩ := h
    rfl
  · obtain ⟨p, a, b, ns, rfl, ⟨⟨dx, h1⟩, h2, h3⟩, q⟩ := h
    refine ⟨_, (pss_one (ps_ret (pe_callB (RD.k_len (K := K) rfl) (by rfl) T.z_len (by decide +kernel) (pa_cons (RD.k_fld (K := K) rfl (pv 0) rfl) pa_nil)))), ?_⟩
    show tRet _ _ [some (.ref p)] H
    walk_at "rd"
    refine ⟨p, _, dx, _, _, rfl, h1, T.cl_Mesh, T.n_Mesh_following, mf_f a b, ?_⟩
    walk_at "rd"
    refine RD.len (sq h2) ?_
    rw [vns_len]
    exact q
theorem ok_Mesh_d_containsd_ (T : Txt K mg A) : FnOk P w K mg base CX0 1 A.f_Mesh_d_containsd_ A.d_Mesh_d_containsd_ ["self", "half"] (sp_mcont A) := by
  refine T.F_Mesh_d_containsd_.ok sc_Mesh_d_containsd_ (fun vs H Q E h => ?_) (fun cdv Ar outer s H vs Q E hr h => ?_)
  · obtain ⟨p, a, b, ns, z, rfl, _⟩ := h
    rfl
  · obtain ⟨p, a, b, ns, z, rfl, ⟨⟨dx, h1⟩, h2, h3⟩, q⟩ := h
    refine ⟨_, (pss_one (ps_ret (pe_chain op_le op_lt pe_int (pv 1) (pe_callB (RD.k_len (K := K) rfl) (by rfl) T.z_len (by decide +kernel) (pa_cons (RD.k_fld (K := K) rfl (pv 0) rfl) pa_nil))))), ?_⟩
    show tRet _ _ [some (.ref p), some (.int z)] H
    walk_at "rd"
    refine RD.dec (fun e => ?_) (fun e => ?_)
    · walk_at "rd"
      refine ⟨p, _, dx, _, _, rfl, h1, T.cl_Mesh, T.n_Mesh_following, mf_f a b, ?_⟩
      walk_at "rd"
      refine RD.len (sq h2) ?_
      rw [vns_len]
      walk_at "rd"
      have e2 : decide (0 ≤ z ∧ z < (ns.length : Int)) = decide (z < (ns.length : Int)) := by simp [e]
      rw [← e2]
      exact q
    · have e2 : decide (0 ≤ z ∧ z < (ns.length : Int)) = false := decide_eq_false fun h => e h.1
      rw [e2] at q
      exact q
theorem ok_Mesh_d_eqd_ (T : Txt K mg A) : FnOk P w K mg base CX0 1 A.f_Mesh_d_eqd_ A.d_Mesh_d_eqd_ ["self", "other"] (sp_meq K A) := by
  refine T.F_Mesh_d_eqd_.ok sc_Mesh_d_eqd_ (fun vs H Q E h => ?_) (fun cdv Ar outer s H vs Q E hr h => ?_)
  · obtain ⟨p, a, b, ns, y, rfl, _⟩ := h
    rfl
  · obtain ⟨p, a, b, ns, y, rfl, m, hy⟩ := h
    refine ⟨_, (pss_one (ps_ret (pe_and (pe_callB (RD.k_isi (K := K) rfl) (by rfl) T.z_isinstance (by decide +kernel) (pa_cons (pv 1) (pa_cons (pe_glob (v := .ref A.c_Mesh) rfl T.g_Mesh rfl) pa_nil))) (pe_one (pe_cmpR (RD.k_eqD (K := K) rfl hr.units) (RD.k_fld (K := K) rfl (pv 0) rfl) (RD.k_fld (K := K) rfl (pv 1) rfl) (nomark _)))))), ?_⟩
    show tRet _ _ [some (.ref p), some (y)] H
    walk_at "rd"
    rcases hy with ⟨p2, a2, b2, ms, rfl, m2, q⟩ | ⟨t, ty, kt, q⟩
    · refine RD.isi (.own _) (mesh_ty T m2) kit_self ?_
      obtain ⟨⟨dx, h1⟩, h2, h3⟩ := m
      obtain ⟨⟨dy, g1⟩, g2, g3⟩ := m2
      walk_at "rd"
      refine ⟨p, _, dx, _, _, rfl, h1, T.cl_Mesh, T.n_Mesh_following, mf_f a b, ?_⟩
      walk_at "rd"
      refine ⟨p2, _, dy, _, _, rfl, g1, T.cl_Mesh, T.n_Mesh_following, mf_f a2 b2, ?_⟩
      refine RD.eqD (dp_N (sq h2)) (dp_N (sq g2)) (sh_dN _) (sh_dN _) ?_
      rw [eqv_dN]
      exact q
    · refine RD.isi (.own _) ty kt ?_
      walk_at "rd"
      exact q
theorem eq_mesh (T : Txt K mg A) {H : Hp} {Q : VK} {E : XK} {p a b p2 a2 b2 : Addr} {ns ms : List Nat} (m : MeshAt A H p a b ns) (m2 : MeshAt A H p2 a2 b2 ms) (q : Q (.bl (decide (ns = ms))) H) : RD.rEqOwn K A.c_Mesh (sp_meq K A) E (.ref p) (.ref p2) H Q := by
  obtain ⟨dx, h1⟩ := m.ob
  exact ⟨p, dx, _, _, rfl, h1, mesh_ty T m2, nf_self, p, a, b, ns, _, rfl, m, .inl ⟨p2, a2, b2, ms, rfl, m2, _, rfl, q⟩⟩
theorem eq_other {H : Hp} {Q : VK} {E : XK} {p a b : Addr} {ns : List Nat} {y : V} {t : Value} (m : MeshAt A H p a b ns) (ty : TyX K H y t) (nf : PySem.W.notFirst K A.c_Mesh t = true) (kt : PySem.W.kitOne K t (.ref A.c_Mesh) = some false) (q : Q (.bl false) H) : RD.rEqOwn K A.c_Mesh (sp_meq K A) E (.ref p) y H Q := by
  obtain ⟨dx, h1⟩ := m.ob
  exact ⟨p, dx, _, _, rfl, h1, ty, nf, p, a, b, ns, _, rfl, m, .inr ⟨t, ty, kt, _, rfl, q⟩⟩
theorem len_mesh {H : Hp} {Q : VK} {E : XK} {p a b : Addr} {ns : List Nat} (m : MeshAt A H p a b ns) (hl : ns.length ≤ 1000) (q : Q (vn ns.length) H) : RD.rLenOwn A.c_Mesh (sp_mlen A) E [.ref p] H Q := by
  obtain ⟨dx, h1⟩ := m.ob
  exact ⟨p, dx, _, rfl, h1, p, a, b, ns, rfl, m, _, rfl, by omega, by omega, q⟩
theorem in_mesh {H : Hp} {Q : VK} {E : XK} {p a b : Addr} {ns : List Nat} {z : Int} (m : MeshAt A H p a b ns) (q : Q (.bl (decide (0 ≤ z ∧ z < (ns.length : Int)))) H) : RD.rInOwn A.c_Mesh (sp_mcont A) E false (.int z) (.ref p) H Q := by
  obtain ⟨dx, h1⟩ := m.ob
  exact ⟨p, dx, _, rfl, h1, p, a, b, ns, z, rfl, m, _, rfl, q⟩
theorem nin_mesh {H : Hp} {Q : VK} {E : XK} {p a b : Addr} {ns : List Nat} {z : Int} (m : MeshAt A H p a b ns) (q : Q (.bl (!decide (0 ≤ z ∧ z < (ns.length : Int)))) H) : RD.rInOwn A.c_Mesh (sp_mcont A) E true (.int z) (.ref p) H Q := by
  obtain ⟨dx, h1⟩ := m.ob
  exact ⟨p, dx, _, rfl, h1, p, a, b, ns, z, rfl, m, _, rfl, q⟩
end
end Pf

namespace Pf
open PySem PySem.Spec PyProof.Rows L2 MM
def sp_l_turned (K : PySem.W.Frag) : Sp := fun vs H Q _ => ∃ (a : Addr) (ns : List Nat) (h : Nat), vs = [.ref a, vn h] ∧ SqL K H a (vns ns) ∧ IsMesh ns ∧ ns.length ≤ 1000 ∧ h < ns.length ∧ Q (vn (tw (ns.idxOf h))) H
def sp_l_round (K : PySem.W.Frag) : Sp := fun vs H Q _ => ∃ (a : Addr) (ns : List Nat) (h : Nat) (b : Bool), vs = [.ref a, vn h, .bl b] ∧ SqL K H a (vns ns) ∧ IsMesh ns ∧ ns.length ≤ 1000 ∧ h < ns.length ∧
  ∀ (H' : Hp) (p : Addr), Same H H' → H p = none → H' p = some (.lst (vns (cyc (fn (stp ns b)) ns.length h))) → Q (.ref p) H'
def sp_l_rounds (K : PySem.W.Frag) : Sp := fun vs H Q _ => ∃ (a : Addr) (ns : List Nat) (b : Bool), vs = [.ref a, .bl b] ∧ SqL K H a (vns ns) ∧ IsMesh ns ∧ ns.length ≤ 1000 ∧
  ∀ (H' : Hp) (q : Addr) (qs : List Addr), Same H H' → H q = none → (∀ x ∈ qs, H x = none ∧ x ≠ q) → LL H' q qs (rnds (fn (stp ns b)) ns.length ns.length) → Q (.ref q) H'
theorem idx_of {ns : List Nat} (m : IsMesh ns) {i h : Nat} (e : ns[i]? = some h) : ns.idxOf h = i := by
  have hi := (List.getElem?_eq_some_iff.mp e).1
  have hh := List.mem_of_getElem? e
  exact ((List.getElem?_inj (idx_lt hh) m.nodup).mp ((idx_at hh).trans e.symm))
theorem cyc_ne {f : Nat → Nat} {n h i : Nat} (p : PermOn f n) (hh : h < n) (h0 : 0 < i) (hi : i < (cyc f n h).length) : it f i h ≠ h := fun e => by
  have h1 := cyc_at p hh hi
  have h2 : (cyc f n h)[0]? = some h := rfl
  rw [e, ← h2] at h1
  have := (List.getElem?_inj hi (cyc_nodup p hh)).mp h1
  omega
theorem min_is {f : Nat → Nat} {n h : Nat} {m : Int} (hm : m ∈ (cyc f n h).map (fun n : Nat => (n : Int))) (hl : ∀ y ∈ (cyc f n h).map (fun n : Nat => (n : Int)), m ≤ y) : m = (h : Int) ↔ isMin f n h = true := by
  constructor
  · intro e
    refine isMin_iff.mpr fun x hx => ?_
    have := hl _ (List.mem_map_of_mem hx)
    omega
  · intro e
    obtain ⟨x, hx, rfl⟩ := List.mem_map.mp hm
    have h1 := isMin_iff.mp e x hx
    have h2 := hl _ (List.mem_map_of_mem (cyc_self (f := f) (n := n) h))
    have h3 : (x : Int) ≤ ((h : Nat) : Int) := h2
    omega
/-- nexts[x] if by_face else turned(nexts, x) -/
theorem rd_step {K : PySem.W.Frag} {H : Hp} {a : Addr} {ns : List Nat} {b : Bool} {x i : Nat} {σ : L2.St} {Q : VK} (h0 : σ[0]? = some (some (.ref a))) (hi : σ[i]? = some (some (vn x))) (hS : SqL K H a (vns ns)) (hM : IsMesh ns) (hl : ns.length ≤ 1000) (hx : x < ns.length)
    (q : Q (vn (fn (stp ns b) x)) H) : if b = true then tOp (rIxL K) (tVar 0) (tVar i) σ H Q else tCall (sp_l_turned K) [] E0 (tCons (tVar 0) (tCons (tVar i) tNil)) σ H Q := by
  cases b with
  | true =>
    refine RD.bT ⟨_, h0, _, hi, RD.ixL hS (at_n (vns_at (fn_at hx))) q⟩
  | false =>
    rw [fn_stp hx] at q
    refine RD.bF ⟨_, h0, _, hi, a, ns, x, rfl, hS, hM, hl, hx, q⟩
section
variable {P : Program} {w : World} {K : PySem.W.Frag} {mg : Str → Option Value} {base : Heap} {A : Ad}
theorem ok_l_twin (T : Txt K mg A) : FnOk P w K mg base CX0 1 A.f_l_twin A.d_l_twin ["_law_half"] (sp_twin_of) := by
  refine T.F_l_twin.ok sc_l_twin (fun vs H Q E h => ?_) (fun cdv Ar outer s H vs Q E hr h => ?_)
  · obtain ⟨n, rfl, _⟩ := h
    rfl
  · obtain ⟨n, rfl, q⟩ := h
    refine ⟨_, (pss_one (ps_ret (pe_op op_sub (pe_op op_add (pv 0) pe_int) (pe_op op_mul pe_int (pe_op op_mod (pe_callTy RD.k_int (by rfl) T.z_int (by decide +kernel) (pa_cons (pv 0) pa_nil)) pe_int))))), ?_⟩
    show tRet _ _ [some (vn n)] H
    walk_at "rd"
    refine RD.iC (by decide) ?_
    walk_at "rd"
    refine RD.iC (.inl ⟨by decide, by decide⟩) ?_
    walk_at "rd"
    have e2 : ((n : Int) + 1 - 2 * ((n : Int) % 2)) = ((tw n : Nat) : Int) := by
      unfold tw
      by_cases h : n % 2 = 0
      · rw [if_pos h]; omega
      · rw [if_neg h]; omega
    rw [e2]
    exact q
theorem ok_l_turned (T : Txt K mg A) : FnOk P w K mg base CX0 2 A.f_l_turned A.d_l_turned ["_law_nexts_here", "_law_half"] (sp_l_turned K) := by
  have G_l_twin := ok_l_twin (P := P) (w := w) (base := base) T
  refine T.F_l_turned.ok sc_l_turned (fun vs H Q E h => ?_) (fun cdv Ar outer s H vs Q E hr h => ?_)
  · obtain ⟨a, ns, n, rfl, _⟩ := h
    rfl
  · obtain ⟨a, ns, n, rfl, hS, hM, hl, hn, q⟩ := h
    refine ⟨_, (pss_cons (ps_for PassesOwn.never rfl (pi_range1 (by rfl) T.z_range (pa_cons (pe_callB (RD.k_len (K := K) rfl) (by rfl) T.z_len (by decide +kernel) (pa_cons (pv 0) pa_nil)) pa_nil)) (pg_name (i := 2) sc_l_turned.nd rfl (Or.inl rfl))
      (pss_one (ps_if (pt_cmpR op_eq (pe_ix (RD.k_ixL (K := K) rfl) (pv 0) (pv 2) (fun _ _ => rfl)) (pv 1) (nomark _))
      (pss_one (ps_ret (pe_call G_l_twin (hr.mono (by decide)) (by rfl) T.g_l_twin T.F_l_twin.kp T.b_l_twin .nil pass0 (pa_cons (pv 2) pa_nil))))
      pss_nil)))
      (pss_one (ps_ret (pe_un un_neg pe_int)))), ?_⟩
    show tSeq _ _ _ [some (.ref a), some (vn n), none] H
    walk_at "rd"
    refine RD.len hS ?_
    rw [vns_len]
    walk_at "rd"
    refine RD.goR (n := ns.length) (by omega) (by omega) (by omega) (fun i σ H2 => ∃ o2, σ = [some (.ref a), some (vn n), o2] ∧ H2 = H ∧ ∀ j, j < i → ns[j]? ≠ some n) ⟨none, rfl, rfl, fun j hj => absurd hj (Nat.not_lt_zero _)⟩ ?_ ?_
    · rintro i σ H2 hi ⟨o2, rfl, rfl, hj⟩
      walk_at "rd"
      refine RD.ixL hS (at_n (vns_at (fn_at hi))) ?_
      walk_at "rd"
      refine RD.dec (fun e => ?_) (fun e => ?_)
      · walk_at "rd"
        have e1 : ns[i]? = some n := by rw [fn_at hi]; exact congrArg some (Int.ofNat.inj e)
        refine ⟨i, rfl, ?_⟩
        rw [idx_of hM e1] at q
        exact q
      · walk_at "rd"
        refine ⟨_, rfl, rfl, fun j hji z => ?_⟩
        by_cases e2 : j = i
        · subst e2
          rw [fn_at hi] at z
          exact e (congrArg _ (Option.some.inj z))
        · exact hj j (by omega) z
    · rintro σ H2 ⟨o2, rfl, rfl, hj⟩
      exact absurd (idx_at (hM.mem hn)) (hj _ (idx_lt (hM.mem hn)))
theorem ok_l_round (T : Txt K mg A) : FnOk P w K mg base CX0 3 A.f_l_round A.d_l_round ["_law_nexts_here", "_law_half", "_law_by_face"] (sp_l_round K) := by
  have G_l_turned := ok_l_turned (P := P) (w := w) (base := base) T
  refine T.F_l_round.ok sc_l_round (fun vs H Q E h => ?_) (fun cdv Ar outer s H vs Q E hr h => ?_)
  · obtain ⟨a, ns, n, b, rfl, _⟩ := h
    rfl
  · obtain ⟨a, ns, n, b, rfl, hS, hM, hl, hn, q⟩ := h
    refine ⟨_, (pss_cons (ps_set (i := 3) sc_l_round.nd rfl (Or.inl rfl) (pe_lst (pa_cons (pv 1) pa_nil)))
      (pss_cons (ps_set (i := 4) sc_l_round.nd rfl (Or.inl rfl) (pe_ifExp (pt_val (pv 2)) (pe_ix (RD.k_ixL (K := K) rfl) (pv 0) (pv 1) (fun _ _ => rfl)) (pe_call G_l_turned (hr.mono (by decide)) (by rfl) T.g_l_turned T.F_l_turned.kp T.b_l_turned .nil pass0 (pa_cons (pv 0) (pa_cons (pv 1) pa_nil)))))
      (pss_cons (ps_while PassesOwn.never (PW.pt (pw_and (pt_cmpR op_ne (pv 4) (pv 1) (nomark _)) (pw_and1 (pt_cmpR op_le (pe_callB (RD.k_len (K := K) rfl) (by rfl) T.z_len (by decide +kernel) (pa_cons (pv 3) pa_nil)) (pe_callB (RD.k_len (K := K) rfl) (by rfl) T.z_len (by decide +kernel) (pa_cons (pv 0) pa_nil)) (nomark _)))))
      (pss_cons (ps_expr (RD.k_bm (K := K) rfl PySem.F.plainAttrs_list PySem.F.slot_list_append PySem.F.type_list_append mt_append (pv 3) (pa_cons (pv 4) pa_nil)))
      (pss_one (ps_set (i := 4) sc_l_round.nd rfl (Or.inl rfl) (pe_ifExp (pt_val (pv 2)) (pe_ix (RD.k_ixL (K := K) rfl) (pv 0) (pv 4) (fun _ _ => rfl)) (pe_call G_l_turned (hr.mono (by decide)) (by rfl) T.g_l_turned T.F_l_turned.kp T.b_l_turned .nil pass0 (pa_cons (pv 0) (pa_cons (pv 4) pa_nil))))))))
      (pss_one (ps_ret (pv 3)))))), ?_⟩
    show tSeq _ _ _ [some (.ref a), some (vn n), some (.bl b), none, none] H
    walk_at "rd"
    refine ⟨szl (by simp), fun p np => ?_⟩
    have s1 := RD.same_new (o := .lst [vn n]) np
    have pf := hM.stp b
    have hlen := cyc_len pf hn
    walk_at "rd"
    refine rd_step rfl rfl (s1.seq hS) hM hl hn ?_
    walk_at "rd"
    refine RD.whl (fun k σ H2 => ∃ j, j + 1 + k = (cyc (fn (stp ns b)) ns.length n).length ∧ σ = [some (.ref a), some (vn n), some (.bl b), some (.ref p), some (vn (it (fn (stp ns b)) (j + 1) n))] ∧ Same H H2 ∧ H2 p = some (.lst (vns ((cyc (fn (stp ns b)) ns.length n).take (j + 1)))))
      ((cyc (fn (stp ns b)) ns.length n).length - 1) ⟨0, ?_, rfl, s1, upd_same⟩ ?_
    · have : 0 < (cyc (fn (stp ns b)) ns.length n).length := Nat.succ_pos _
      omega
    rintro k σ H2 ⟨j, hj, rfl, s2, ep⟩
    walk_at "rd"
    refine RD.ndec (fun e => ?_) (fun e => ?_)
    · have hlt : j + 1 < (cyc (fn (stp ns b)) ns.length n).length := by
        rcases Nat.lt_or_ge (j + 1) (cyc (fn (stp ns b)) ns.length n).length with h | h
        · exact h
        · exfalso
          have : j + 1 = (cyc (fn (stp ns b)) ns.length n).length := by omega
          rw [this, cyc_end pf hn] at e
          exact e rfl
      walk_at "rd"
      refine RD.len (sq ep) ?_
      walk_at "rd"
      refine RD.len (s2.seq hS) ?_
      rw [vns_len, vns_len, List.length_take]
      walk_at "rd"
      refine RD.decT (by omega) ?_
      refine RD.wN ?_
      walk_at "rd"
      refine ⟨RD.tyL (sq ep), ?_⟩
      walk_at "rd"
      refine RD.app ep (by rw [vns_len, List.length_take]; exact szt (by omega)) ?_
      have s3 : Same H (upd H2 p (.lst (vns ((cyc (fn (stp ns b)) ns.length n).take (j + 1)) ++ [vn (it (fn (stp ns b)) (j + 1) n)]))) := RD.same_mut s2 np
      walk_at "rd"
      refine rd_step rfl rfl (s3.seq hS) hM hl (pf.it_lt _ _ hn) ?_
      walk_at "rd"
      refine ⟨k - 1, by omega, j + 1, by omega, rfl, s3, ?_⟩
      rw [upd_same, RD.take_one (cyc_at pf hn hlt), vns_app]
      rfl
    · walk_at "rd"
      have hend : j + 1 = (cyc (fn (stp ns b)) ns.length n).length := by
        rcases Nat.lt_or_ge (j + 1) (cyc (fn (stp ns b)) ns.length n).length with h | h
        · exact absurd (Int.ofNat.inj e) (cyc_ne pf hn (by omega) h)
        · omega
      rw [hend, List.take_length] at ep
      exact q H2 p s2 np ep
theorem ok_l_rounds (T : Txt K mg A) : FnOk P w K mg base CX0 4 A.f_l_rounds A.d_l_rounds ["_law_nexts_here", "_law_by_face"] (sp_l_rounds K) := by
  have G_l_round := ok_l_round (P := P) (w := w) (base := base) T
  refine T.F_l_rounds.ok sc_l_rounds (fun vs H Q E h => ?_) (fun cdv Ar outer s H vs Q E hr h => ?_)
  · obtain ⟨a, ns, b, rfl, _⟩ := h
    rfl
  · obtain ⟨a, ns, b, rfl, hS, hM, hl, q⟩ := h
    refine ⟨_, (pss_cons (ps_set (i := 2) sc_l_rounds.nd rfl (Or.inl rfl) (pe_lst pa_nil))
      (pss_cons (ps_for PassesOwn.never rfl (pi_range1 (by rfl) T.z_range (pa_cons (pe_callB (RD.k_len (K := K) rfl) (by rfl) T.z_len (by decide +kernel) (pa_cons (pv 0) pa_nil)) pa_nil)) (pg_name (i := 3) sc_l_rounds.nd rfl (Or.inl rfl))
      (pss_cons (ps_set (i := 4) sc_l_rounds.nd rfl (Or.inl rfl) (pe_call G_l_round (hr.mono (by decide)) (by rfl) T.g_l_round T.F_l_round.kp T.b_l_round .nil pass0 (pa_cons (pv 0) (pa_cons (pv 3) (pa_cons (pv 1) pa_nil)))))
      (pss_one (ps_if (pt_cmpR op_eq (pe_callB (RD.k_min (K := K) rfl rfl) (by rfl) T.z_min (by decide +kernel) (pa_cons (pv 4) pa_nil)) (pv 3) (nomark _))
      (pss_one (ps_expr (RD.k_bm (K := K) rfl PySem.F.plainAttrs_list PySem.F.slot_list_append PySem.F.type_list_append mt_append (pv 2) (pa_cons (pv 4) pa_nil))))
      pss_nil))))
      (pss_one (ps_ret (pv 2))))), ?_⟩
    show tSeq _ _ _ [some (.ref a), some (.bl b), none, none, none] H
    walk_at "rd"
    refine ⟨Nat.zero_le _, fun fo nfo => ?_⟩
    have s1 := RD.same_new (o := .lst []) nfo
    have pf := hM.stp b
    walk_at "rd"
    refine RD.len (s1.seq hS) ?_
    rw [vns_len]
    walk_at "rd"
    refine RD.goR (n := ns.length) (by omega) (by omega) (by omega) (fun i σ H2 => ∃ (qs : List Addr) (o3 o4 : Option V), σ = [some (.ref a), some (.bl b), some (.ref fo), o3, o4] ∧ Same H H2 ∧
        (∀ x ∈ qs, H x = none ∧ x ≠ fo) ∧ LL H2 fo qs (rnds (fn (stp ns b)) ns.length i))
      ⟨[], none, none, rfl, s1, (by intro x hx; cases hx), upd_same, .nil⟩ ?_ ?_
    · rintro i σ H2 hi ⟨qs, o3, o4, rfl, s2, hqs, ll⟩
      walk_at "rd"
      refine ⟨a, ns, i, b, rfl, s2.seq hS, hM, hl, hi, fun H3 m s3 nm em => ?_⟩
      have ll3 := ll.same s3
      have fm : fo ≠ m := ne_of_none ll.top nm
      walk_at "rd"
      refine RD.min1 (ns := (cyc (fn (stp ns b)) ns.length i).map (fun n : Nat => (n : Int))) (by rw [← vns_int]; exact sq em) (by rw [List.length_map]; exact Nat.succ_pos _) fun mn hm hle => ?_
      have hmin := min_is hm hle
      walk_at "rd"
      refine RD.dec (fun e => ?_) (fun e => ?_)
      · have hq := hmin.mp e
        have hl1 := rnds_len (f := fn (stp ns b)) (n := ns.length) i
        have hl2 := paired_len ll3.each
        walk_at "rd"
        refine ⟨RD.tyL (sq ll3.top), ?_⟩
        walk_at "rd"
        refine RD.app ll3.top (by rw [List.length_map]; exact szt (by omega)) ?_
        refine ⟨qs ++ [m], _, _, rfl, RD.same_mut (s2.trans s3) nfo, fun x hx => ?_, by rw [upd_same, List.map_append]; rfl, ?_⟩
        · rcases List.mem_append.mp hx with hx | hx
          · exact hqs x hx
          · rw [List.mem_singleton.mp hx]
            exact ⟨s2.free nm, fm.symm⟩
        · show Paired _ _ (rnds (fn (stp ns b)) ns.length i ++ (if isMin (fn (stp ns b)) ns.length i = true then [cyc (fn (stp ns b)) ns.length i] else []))
          rw [if_pos hq]
          refine paired_app (paired_upd ll3.each fun x hx => (hqs x hx).2) (.cons ?_ .nil)
          rw [upd_ne fm.symm]
          exact em
      · walk_at "rd"
        refine ⟨qs, _, _, rfl, s2.trans s3, hqs, ?_⟩
        have e1 : rnds (fn (stp ns b)) ns.length (i + 1) = rnds (fn (stp ns b)) ns.length i := by
          show rnds (fn (stp ns b)) ns.length i ++ (if isMin (fn (stp ns b)) ns.length i = true then [cyc (fn (stp ns b)) ns.length i] else []) = _
          rw [if_neg fun z => e (hmin.mpr z), List.append_nil]
        rw [e1]
        exact ll3
    · rintro σ H2 ⟨qs, o3, o4, rfl, s2, hqs, ll⟩
      walk_at "rd"
      exact q H2 fo qs s2 nfo hqs ll
end
end Pf

namespace Pf
open PySem PySem.Spec PyProof.Rows L2 MM SX TX RD
def optV : Option Nat → V
  | none => .non
  | some n => vn n
def kvO (q : Nat × Option Nat) : Key × V := (Sum.inl (q.1 : Int), optV q.2)
def sp_read_number : Sp := fun vs H Q _ => ∃ l : List Nat, vs = [vst l] ∧ l.length ≤ 100000 ∧ Q (optV (rdN l)) H
theorem lD : Str.ofString "0123456789" = S [48, 49, 50, 51, 52, 53, 54, 55, 56, 57] := by decide +kernel
theorem l48 : Str.ofString "0" = S [48] := by decide +kernel
theorem dig_mem (c : Nat) : decide (c ∈ [48, 49, 50, 51, 52, 53, 54, 55, 56, 57]) = isDig c := by
  unfold isDig
  by_cases h : 48 ≤ c ∧ c ≤ 57
  · rw [decide_eq_true h.1, decide_eq_true h.2, decide_eq_true]
    · rfl
    · have : c = 48 ∨ c = 49 ∨ c = 50 ∨ c = 51 ∨ c = 52 ∨ c = 53 ∨ c = 54 ∨ c = 55 ∨ c = 56 ∨ c = 57 := by omega
      simp
      omega
  · have e : (decide (48 ≤ c) && decide (c ≤ 57)) = false := by
      rw [← Bool.not_eq_true, Bool.and_eq_true, decide_eq_true_eq, decide_eq_true_eq]
      exact h
    rw [e, decide_eq_false]
    simp
    omega
section
variable {P : Program} {w : World} {K : PySem.W.Frag} {mg : Str → Option Value} {base : Heap} {A : Ad}
theorem ok_BadLine_d_initd_ (T : Txt K mg A) : FnOk P w K mg base CX0 1 A.f_BadLine_d_initd_ A.d_BadLine_d_initd_ ["self", "line"] (sp_exi1 A.c_BadLine "line") := by
  refine T.F_BadLine_d_initd_.ok sc_BadLine_d_initd_ (fun vs H Q E h => ?_) (fun cdv Ar outer s H vs Q E hr h => ?_)
  · obtain ⟨a, v, rfl, _⟩ := h
    rfl
  · obtain ⟨a, v, rfl, ha, q⟩ := h
    refine ⟨_, (pss_one (ps_ost (pv 0) (pv 1))), ?_⟩
    show tOst _ _ _ _ _ [some (.ref a), some (v)] H
    walk_at "rd"
    exact ⟨a, A.c_BadLine, rfl, T.oex_BadLine, T.na_BadLine_line, .inl ⟨ha, q⟩⟩
theorem ok_read_number (T : Txt K mg A) : FnOk P w K mg base CX0 1 A.f_read_number A.d_read_number ["word"] (sp_read_number) := by
  refine T.F_read_number.ok sc_read_number (fun vs H Q E h => ?_) (fun cdv Ar outer s H vs Q E hr h => ?_)
  · obtain ⟨l, rfl, _⟩ := h
    rfl
  · obtain ⟨l, rfl, hl, q⟩ := h
    refine ⟨_, (RD.pss_cut (ps_if (PW.pt (pw_or (pt_not (pt_chain op_le op_le pe_int (pe_callB RD.k_lenS (by rfl) T.z_len (by decide +kernel) (pa_cons (pv 0) pa_nil)) (RD.pe_glI (by rfl) T.k_LONGEST_NUMBER))) (pw_or1 (PW.pt (pw_and (pt_cmpR op_eq (pe_ix ix_str (pv 0) pe_int (fun _ _ => rfl)) pe_str (nomark _)) (pw_and1 (pt_cmpR op_ne (pv 0) pe_str (nomark _))))))))
      (pss_one (ps_ret pe_non))
      pss_nil)
      (pss_cons (ps_for PassesOwn.never rfl (pi_str (pv 0)) (pg_name (i := 1) sc_read_number.nd rfl (Or.inl rfl))
      (pss_one (ps_if (pt_cmpR RD.k_nsgn (pv 1) (RD.pe_gl (by rfl) T.k_DIGITS) (by rfl))
      (pss_one (ps_ret pe_non))
      pss_nil)))
      (pss_one (ps_ret (pe_callTy RD.k_intS (by rfl) T.z_int (by decide +kernel) (pa_cons (pv 0) pa_nil)))))), ?_⟩
    show RD.tCut _ _ _ [some (vst l), none] H
    have no : ∀ e : rdN l = none, Q .non H := fun e => by
      rw [e] at q
      exact q
    refine RD.cut (fun σ H' => σ = [some (vst l), none] ∧ H' = H ∧ 1 ≤ l.length ∧ l.length ≤ 4 ∧ ¬ (l.head? = some 48 ∧ l ≠ [48])) ?_ ?_
    · walk_at "rd"
      refine RD.lenS (by rw [S_len]; exact szl (by omega)) ?_
      rw [S_len]
      walk_at "rd"
      refine RD.dec (fun h1 => ?_) (fun h1 => ?_)
      · walk_at "rd"
        by_cases h4 : (l.length : Int) ≤ 4
        · rw [decide_eq_true h4]
          walk_at "rn"
          obtain ⟨c, r, rfl⟩ : ∃ c r, l = c :: r := by
            cases l with
            | nil => exact absurd h1 (by decide)
            | cons c r => exact ⟨c, r, rfl⟩
          refine RD.ixS (by omega) (c := c) (show atI (c :: r) ((0 : Nat) : Int) = some c from atI_nat rfl) ?_
          walk_at "rd"
          rw [l48, dstr]
          refine RD.dec (fun h0 => ?_) (fun h0 => ?_)
          · walk_at "rd"
            rw [dstr]
            have hc : c = 48 := by simpa using h0
            refine RD.ndec (fun h2 => ?_) (fun h2 => ?_)
            · walk_at "rd"
              exact no (rdN_none (.inr (.inr (.inl ⟨by rw [hc]; rfl, h2⟩))))
            · walk_at "rd"
              exact ⟨rfl, rfl, by omega, by omega, fun z => z.2 h2⟩
          · walk_at "rd"
            refine ⟨rfl, rfl, by omega, by omega, fun z => h0 ?_⟩
            have : c = 48 := by simpa using z.1
            rw [this]
        · rw [decide_eq_false h4]
          walk_at "rn"
          exact no (rdN_none (.inr (.inl (by omega))))
      · walk_at "rn"
        refine no (rdN_none (.inl ?_))
        cases l with
        | nil => rfl
        | cons c r => exact absurd (by simp; omega : (1 : Int) ≤ ((c :: r).length : Int)) h1
    rintro σ H' ⟨rfl, rfl, h1, h4, hz⟩
    walk_at "rd"
    refine RD.goS (fun i σ H2 => ∃ o1, σ = [some (vst l), o1] ∧ H2 = H' ∧ (l.take i).all isDig = true) ⟨none, rfl, rfl, rfl⟩ ?_ ?_
    · rintro i d σ H2 hd ⟨o1, rfl, rfl, ha⟩
      walk_at "rd"
      rw [lD]
      refine RD.nsg ?_
      rw [dig_mem]
      walk_at "rd"
      cases hg : isDig d with
      | false =>
        walk_at "rn"
        exact no (rdN_none (.inr (.inr (.inr ⟨d, List.mem_of_getElem? hd, hg⟩))))
      | true =>
        walk_at "rn"
        refine ⟨_, rfl, rfl, ?_⟩
        rw [RD.take_one hd, List.all_append, ha, Bool.true_and, List.all_cons, hg]
        rfl
    · rintro σ H2 ⟨o1, rfl, rfl, ha⟩
      rw [List.take_length] at ha
      walk_at "rd"
      have e : rdN l = some (NumText.digitsVal l) := by
        unfold rdN
        exact if_pos ⟨h4, h1, hz, ha⟩
      rw [e] at q
      exact ⟨S l, _, rfl, SX.int_S ha (fun z => by rw [z] at h1; exact absurd h1 (by decide)) (by omega), by rw [S_len]; omega, q⟩
end
end Pf

namespace TX
open PySem SX MM
theorem fold_dig : ∀ (l : List Nat) (a : Nat), (∀ c ∈ l, c ≤ 57) → l.foldl (fun acc c => acc * 10 + (c - 48)) a < (a + 1) * 10 ^ l.length
  | [], a, _ => by simp
  | c :: r, a, h => by
    have h1 := fold_dig r (a * 10 + (c - 48)) fun x hx => h x (List.mem_cons_of_mem _ hx)
    have h2 := h c List.mem_cons_self
    rw [List.foldl_cons, List.length_cons, Nat.pow_succ]
    refine Nat.lt_of_lt_of_le h1 ?_
    rw [Nat.mul_comm (10 ^ r.length) 10, ← Nat.mul_assoc]
    exact Nat.mul_le_mul_right _ (by omega)
theorem rdN_lt {l : List Nat} {n : Nat} (h : rdN l = some n) : n < 10000 := by
  unfold rdN at h
  by_cases c : l.length ≤ 4 ∧ 1 ≤ l.length ∧ ¬ (l.head? = some 48 ∧ l ≠ [48]) ∧ l.all isDig = true
  · rw [if_pos c] at h
    have e : NumText.digitsVal l = n := Option.some.inj h
    have h2 := fold_dig l 0 fun x hx => ((dig_all.mp c.2.2.2) x hx).2
    have h3 : NumText.digitsVal l < 1 * 10 ^ l.length := h2
    have h4 : 10 ^ l.length ≤ 10 ^ 4 := Nat.pow_le_pow_right (by decide) c.1
    omega
  · rw [if_neg c] at h
    cases h
theorem mems_lt {l : List Nat} {x : Nat} (h : x ∈ mems l) : x < 10000 := by
  obtain ⟨w, _, e⟩ := List.mem_filterMap.mp h
  exact rdN_lt e
theorem tab_small {ps : List (Nat × Nat)} (h : ∀ p ∈ ps, p.1 < 10000) : (tab ps).length ≤ 10000 := by
  have hk : ∀ (ps : List (Nat × Nat)) (kvs : List (Nat × Option Nat)), (∀ p ∈ ps, p.1 < 10000) → (∀ x ∈ kvs.map (·.1), x < 10000) → ∀ x ∈ (ps.foldl put kvs).map (·.1), x < 10000 := by
    intro ps
    induction ps with
    | nil => intro kvs _ h; exact h
    | cons p r ih =>
      intro kvs hp hk
      refine ih (put kvs p) (fun q hq => hp q (List.mem_cons_of_mem _ hq)) fun x hx => ?_
      rw [put_keys] at hx
      by_cases c : p.1 ∈ kvs.map (·.1)
      · rw [if_pos c] at hx; exact hk x hx
      · rw [if_neg c] at hx
        rcases List.mem_append.mp hx with hx | hx
        · exact hk x hx
        · rw [List.mem_singleton.mp hx]; exact hp p List.mem_cons_self
  have h1 := fold_keys ps [] List.nodup_nil
  have h2 := Pf.nodup_len 10000 _ h1 (hk ps [] h fun x hx => nomatch hx)
  rw [List.length_map] at h2
  exact h2
theorem spl_ne (c : Nat) : ∀ (l acc : List Nat), TL.spl [c] 0 acc l ≠ []
  | [], acc => by rw [TL.spl_nil]; simp
  | x :: r, acc => by
    by_cases h : TL.pre [c] (x :: r) = true
    · rw [TL.spl_hit h]; simp
    · rw [TL.spl_miss (by simpa using h)]
      exact spl_ne c r _
theorem good_all {l : List Nat} (h : bad l = false) : ∀ w ∈ wrds l, ∃ n, rdN w = some n := fun w hw => by
  cases e : rdN w with
  | some n => exact ⟨n, rfl⟩
  | none =>
    rw [bad_word rfl hw e] at h
    cases h
end TX
namespace Pf
open PySem PySem.Spec PyProof.Rows L2 MM SX TX RD
theorem flat_opt (o : Option Nat) : flatV (optV o) = true := by cases o <;> rfl
theorem inV_opt (os : List (Option Nat)) : inV .non (os.map optV) = os.any (·.isNone) := by
  induction os with
  | nil => rfl
  | cons o r ih =>
    have e : inV .non ((o :: r).map optV) = (eqV (optV o) .non || inV .non (r.map optV)) := rfl
    rw [e, ih, List.any_cons]
    cases o <;> rfl
theorem good_map {l : List Nat} (h : bad l = false) : (wrds l).map (fun w => optV (rdN w)) = vns (mems l) := by
  unfold mems vns
  have hg := good_all h
  generalize wrds l = ws at hg
  induction ws with
  | nil => rfl
  | cons w r ih =>
    obtain ⟨n, e⟩ := hg w List.mem_cons_self
    rw [List.map_cons, List.filterMap_cons, e, ih fun x hx => hg x (List.mem_cons_of_mem _ hx)]
    rfl
theorem val_kvO (x : Nat) : ∀ kvs : List (Nat × Option Nat), (valV (kvs.map kvO) (Sum.inl (x : Int) : Key)).isSome = decide (x ∈ kvs.map (·.1))
  | [] => rfl
  | q :: r => by
    rw [List.map_cons, List.map_cons]
    by_cases e : q.1 = x
    · rw [valV_pos (by show (Sum.inl ((q.1 : Nat) : Int) : Key) = _; rw [e]), e, decide_eq_true List.mem_cons_self]
      rfl
    · have ne : ¬ (kvO q).1 = (Sum.inl (x : Int) : Key) := fun z => e (Int.ofNat.inj (Sum.inl.inj z))
      rw [valV_neg ne, val_kvO x r]
      have : x ∈ q.1 :: r.map (·.1) ↔ x ∈ r.map (·.1) := ⟨fun z => by
        rcases List.mem_cons.mp z with z | z
        · exact absurd z.symm e
        · exact z, List.mem_cons_of_mem _⟩
      simp only [this]
theorem put_old {kvs : List (Nat × Option Nat)} {p : Nat × Nat} (h : p.1 ∈ kvs.map (·.1)) : putK (kvs.map kvO) (Sum.inl (p.1 : Int) : Key) .non = (put kvs p).map kvO := by
  unfold putK put
  rw [valV_any, val_kvO, if_pos (decide_eq_true h), if_pos h, List.map_map, List.map_map]
  refine List.map_congr_left fun q _ => ?_
  show (if (kvO q).1 = (Sum.inl (p.1 : Int) : Key) then ((kvO q).1, V.non) else kvO q) = kvO (if q.1 = p.1 then (q.1, none) else q)
  by_cases e : q.1 = p.1
  · rw [if_pos e, if_pos (by show (Sum.inl ((q.1 : Nat) : Int) : Key) = _; rw [e])]
    rfl
  · rw [if_neg e]
    exact if_neg fun z => e (Int.ofNat.inj (Sum.inl.inj z))
theorem put_fresh {kvs : List (Nat × Option Nat)} {p : Nat × Nat} (h : p.1 ∉ kvs.map (·.1)) : putK (kvs.map kvO) (Sum.inl (p.1 : Int) : Key) (vn p.2) = (put kvs p).map kvO := by
  have e : valV (kvs.map kvO) (Sum.inl (p.1 : Int) : Key) = none := by
    have := val_kvO p.1 kvs
    rw [decide_eq_false h] at this
    cases z : valV (kvs.map kvO) (Sum.inl (p.1 : Int) : Key) with
    | none => rfl
    | some v => rw [z] at this; cases this
  rw [putK_new _ e]
  unfold put
  rw [if_neg h, List.map_append]
  rfl
theorem val_bare : ∀ (ps : List (Nat × Nat)) (x y : Nat), (ps.map (·.1)).Nodup → (x, y) ∈ ps → valV ((ps.map bare).map kvO) (Sum.inl (x : Int) : Key) = some (vn y)
  | q :: r, x, y, hn, h => by
    rw [List.map_cons, List.nodup_cons] at hn
    rw [List.map_cons, List.map_cons]
    rcases List.mem_cons.mp h with h | h
    · subst h
      exact valV_pos (p := kvO (bare (x, y))) rfl
    · have e : ¬ q.1 = x := fun z => hn.1 (by rw [z]; exact List.mem_map.mpr ⟨(x, y), h, rfl⟩)
      rw [valV_neg fun z => e (Int.ofNat.inj (Sum.inl.inj z))]
      exact val_bare r x y hn.2 h
def allC (t : List Nat) : List (List Nat) := (lns t).map mems
def sp_read_mesh (A : Ad) : Sp := fun vs H Q E => ∃ t : List Nat, vs = [vst t] ∧ t.length ≤ 40000 ∧
  ((t = [] ∧ ∀ (H' : Hp) (p a b : Addr), Same H H' → H p = none → H a = none → H b = none → MeshAt A H' p a b [] → Q (.ref p) H') ∨
   (t ≠ [] ∧ ∃ (i : Nat) (l : List Nat), (lns t)[i]? = some l ∧ bad l = true ∧ (∀ j m, j < i → (lns t)[j]? = some m → bad m = false) ∧ ∀ (H' : Hp) (dd : Addr), Same H H' → H' dd = some (.xd [("line", vn (i + 1))]) → E (.ref A.c_BadLine) (some dd) H') ∨
   (t ≠ [] ∧ (∀ l ∈ lns t, bad l = false) ∧ (allC t).flatten.length ≤ 62 ∧
     (((¬ (allC t).flatten.Perm (List.range (allC t).flatten.length) ∨ (allC t).flatten.length % 2 = 1) ∧ ∀ H', Same H H' → E (.ref A.c_NotAMesh) none H') ∨
      ∃ ns, IsMesh ns ∧ (allC t).flatten.Perm (List.range ns.length) ∧ (∀ c ∈ allC t, Rot ns c) ∧ ∀ (H' : Hp) (p a b : Addr), Same H H' → H p = none → H a = none → H b = none → MeshAt A H' p a b ns → Q (.ref p) H')))
end Pf

namespace Pf
open PySem PySem.Spec PyProof.Rows L2 MM
theorem ib_vns (ns : List Nat) : (vns ns).all isIB = true := by rw [vns_int]; exact ib_int _
theorem not_bad {ns : List Nat} (m : IsMesh ns) : ¬ Bad (vns ns) := fun hb => by
  rcases hb.no with h | h | h
  · rw [vns_len] at h
    have := m.even
    omega
  · rw [vns_int, ← Bool.not_eq_true, List.all_eq_true] at h
    exact h fun x hx => by
      obtain ⟨z, _, rfl⟩ := List.mem_map.mp hx
      rfl
  · rw [vns_int, to_int] at h
    exact h (mesh_full m.perm)
theorem vns_inj {l m : List Nat} (h : vns l = vns m) : l = m := by
  rw [vns_int, vns_int] at h
  have := congrArg (List.map toI) h
  rw [to_int, to_int] at this
  exact map_nat_inj this
/-- Mesh(r), r a right list -/
theorem mk_mesh {A : Ad} {H : Hp} {r : Addr} {ns : List Nat} {Q : VK} {E : XK} (hr : H r = some (.lst (vns ns))) (hM : IsMesh ns) (hl : ns.length ≤ 62)
    (q : ∀ (H' : Hp) (p a b : Addr), H p = none → H a = none → H b = none → Same H H' → MeshAt A H' p a b ns → Q (.ref p) H') : RD.MKE A.c_Mesh (sp_initX A) [] E [.ref r] H Q := by
  intro x dx nx ndx ne
  have s0 : Same H (upd (upd H dx (.own x)) x (.ins A.c_Mesh dx [])) := RD.same_mut (RD.same_new ndx) nx
  refine ⟨x, dx, r, vns ns, rfl, upd_same, s0 _ _ hr, by rw [vns_len]; exact hl, ib_vns ns, fun hb => absurd hb (not_bad hM), fun ns' e m H' a b na nb _ ma sx => ⟨rfl, ?_⟩⟩
  rw [← vns_inj e] at ma
  exact q H' x a b nx (s0.free na) (s0.free nb) (fun c o h => sx c o (s0 c o h) (ne_of_none h nx)) ma
end Pf

namespace TX
theorem spl_small (c : Nat) : ∀ (l acc w : List Nat), w ∈ TL.spl [c] 0 acc l → w.length ≤ acc.length + l.length
  | [], acc, w, h => by
    rw [TL.spl_nil] at h
    rw [List.mem_singleton.mp h]
    simp
  | x :: r, acc, w, h => by
    by_cases hp : TL.pre [c] (x :: r) = true
    · rw [TL.spl_hit hp] at h
      rcases List.mem_cons.mp h with h | h
      · rw [h]; omega
      · have := spl_small c r [] w h
        rw [List.length_cons]
        simp at this
        omega
    · rw [TL.spl_miss (by simpa using hp)] at h
      have := spl_small c r (acc ++ [x]) w h
      rw [List.length_append] at this
      simp at this ⊢
      omega
theorem spl_len (c : Nat) : ∀ (l acc : List Nat), (TL.spl [c] 0 acc l).length ≤ l.length + 1
  | [], acc => by rw [TL.spl_nil]; simp
  | x :: r, acc => by
    by_cases hp : TL.pre [c] (x :: r) = true
    · rw [TL.spl_hit hp]
      have := spl_len c r []
      simp at this ⊢
      omega
    · rw [TL.spl_miss (by simpa using hp)]
      have := spl_len c r (acc ++ [x])
      simp at this ⊢
      omega
end TX
namespace Pf
open PySem PySem.Spec PyProof.Rows L2 MM SX TX RD
section
variable {P : Program} {w : World} {K : PySem.W.Frag} {mg : Str → Option Value} {base : Heap} {A : Ad}
theorem ok_read_mesh (T : Txt K mg A) : FnOk P w K mg base (L2.CX P w) 4 A.f_read_mesh A.d_read_mesh ["text"] (sp_read_mesh A) := by
  have G_Mesh_d_initd_ := ok_Mesh_d_initd_ (P := P) (w := w) (base := base) T
  have G_read_number := ok_read_number (P := P) (w := w) (base := base) T
  have G_BadLine_d_initd_ := ok_BadLine_d_initd_ (P := P) (w := w) (base := base) T
  refine T.F_read_mesh.okX sc_read_mesh (fun vs H Q E h => ?_) (fun cdv Ar outer s H vs Q E hr h => ?_)
  · obtain ⟨t, rfl, _⟩ := h
    rfl
  · obtain ⟨t, rfl, ht, alt⟩ := h
    refine ⟨_, (pss_cons (ps_if (pt_cmpR op_eq (pv 0) pe_str (nomark _))
      (pss_one (ps_ret (pe_make T.mk_Mesh G_Mesh_d_initd_ (hr.mono (by decide)) (by rfl) T.g_Mesh T.b_Mesh_d_initd_ .nil (passes_call (takes_of rfl rfl rfl rfl) (fun _ _ _ _ h => h)) (pa_cons (pe_lst pa_nil) pa_nil))))
      pss_nil)
      (pss_cons (ps_set (i := 1) sc_read_mesh.nd rfl (Or.inr rfl) pe_dnewK)
      (pss_cons (ps_for PassesOwn.leaving rfl (RD.k_pie (K := K) rfl (by rfl) T.z_enumerate (pa_cons (RD.k_split (pv 0) pe_str) pa_nil)) (RD.k_gtup (K := K) (n := 2) rfl rfl (pgs_cons (pg_name (i := 2) sc_read_mesh.nd rfl (Or.inl rfl)) (pgs_cons (pg_name (i := 3) sc_read_mesh.nd rfl (Or.inl rfl)) pgs_nil)))
      (pss_cons (ps_setLc (i := 4) (own := [("word", 7)]) (g := gName 7) (by rfl) sc_read_mesh.nd rfl rfl (sw_true rfl rfl rfl (by decide +kernel)) (RD.k_pil (K := K) rfl (RD.k_split (pv 3) pe_str)) (blkOk_by (own := [("word", 7)]) (N := ["text", "nexts", "index", "line", "members", "half", "after", "word"]) (sc := defScope s_read_mesh) (by decide +kernel)) (fun _ _ _ _ _ => (pg_name (i := 7) sc_read_mesh.nd rfl (Or.inl rfl))) (fun _ _ _ _ _ => pts_nil) (fun _ _ _ _ _ => (pe_call G_read_number (hr.mono (by decide)) (by rfl) T.g_read_number T.F_read_number.kp T.b_read_number .nil pass0 (pa_cons (pv 7) pa_nil))))
      (pss_cons (ps_if (pt_cmpR (RD.k_in (K := K) rfl) pe_non (pv 4) (by rfl))
      (pss_one (ps_raise rfl (takes_of rfl rfl rfl rfl) (pmk_oex T.oex_BadLine T.ini_BadLine T.tin_BadLine G_BadLine_d_initd_ (hr.mono (by decide)) T.b_BadLine_d_initd_ .nil pass0 (by rfl) T.g_BadLine (pa_cons (pe_op op_add (pv 2) pe_int) pa_nil))))
      pss_nil)
      (PSs.nox (pss_one (ps_for PassesOwn.never rfl (RD.k_piz (K := K) rfl (by rfl) T.z_zip (pa_cons (pv 4) (pa_cons (pe_lst (StX.pa_star (pe_slice (RD.k_slL (K := K) rfl) (pv 4) (po_some pe_int) po_none) (pa_cons (pe_ix (RD.k_ixL (K := K) rfl) (pv 4) pe_int (fun _ _ => rfl)) pa_nil))) pa_nil))) (RD.k_gtup (K := K) (n := 2) rfl rfl (pgs_cons (pg_name (i := 5) sc_read_mesh.nd rfl (Or.inl rfl)) (pgs_cons (pg_name (i := 6) sc_read_mesh.nd rfl (Or.inl rfl)) pgs_nil)))
      (pss_cons (ps_if (pt_cmp (pc_din (hu_of hr) (pv 5) (pv 1)))
      (pss_one (ps_set (i := 6) sc_read_mesh.nd rfl (Or.inl rfl) pe_non))
      pss_nil)
      (pss_one (ps_dput (hu_of hr) (pv 1) (pv 5) (pv 6) rfl)))))))))
      (pss_cons (ps_if (PW.pt (pw_or (RD.pt_lock (pt_cmp (RD.pc_inVals rfl pe_non (pv 1)))) (pw_or1 (pt_cmpR (RD.k_neD (K := K) rfl hr.units) (pe_callB (RD.k_sortedD rfl) (by rfl) T.z_sorted (by decide +kernel) (pa_cons (pv 1) pa_nil)) (pe_listRg (by rfl) (by rfl) T.z_list (prg_1 (by rfl) T.z_range (pe_callB RD.k_lenD (by rfl) T.z_len (by decide +kernel) (pa_cons (pv 1) pa_nil)))) (nomark _)))))
      (pss_one (ps_raise rfl (takes_of rfl rfl rfl rfl) (RD.pmk_own0 PySem.F.excBase_ValueError T.x_NotAMesh T.g_NotAMesh T.k_NotAMesh (raises_own T.s_NotAMesh T.t_NotAMesh) rfl)))
      pss_nil)
      (pss_one (ps_ret (pe_make T.mk_Mesh G_Mesh_d_initd_ (hr.mono (by decide)) (by rfl) T.g_Mesh T.b_Mesh_d_initd_ .nil (passes_call (takes_of rfl rfl rfl rfl) (fun _ _ _ _ h => h)) (pa_cons (pe_lc (own := [("half", 5)]) (g := gName 5) (by rfl) sc_read_mesh.nd (pi_range1 (by rfl) T.z_range (pa_cons (pe_callB RD.k_lenD (by rfl) T.z_len (by decide +kernel) (pa_cons (pv 1) pa_nil)) pa_nil)) (blkOk_by (own := [("half", 5)]) (N := ["text", "nexts", "index", "line", "members", "half", "after", "word"]) (sc := defScope s_read_mesh) (by decide +kernel)) (fun _ _ _ _ _ => (pg_name (i := 5) sc_read_mesh.nd rfl (Or.inl rfl))) (fun _ _ _ _ _ => pts_nil) (fun _ _ _ _ _ => (pe_dget (hu_of hr) (pv 1) (pv 5) (fun _ _ => rfl)))) pa_nil)))))))), ?_⟩
    show tSeq _ _ _ [some (vst t), none, none, none, none, none, none, none] H
    walk_at "rd"
    rw [l0, dstr]
    refine RD.dec (fun e0 => ?_) (fun e0 => ?_)
    · walk_at "rd"
      refine ⟨Nat.zero_le _, fun r nr => ?_⟩
      have s0 := RD.same_new (o := .lst []) nr
      refine mk_mesh (ns := []) upd_same ⟨List.Perm.refl _, rfl⟩ (by simp) fun H1 p a b np na nb s1 m1 => ?_
      rcases alt with ⟨_, q⟩ | ⟨h, _⟩ | ⟨h, _⟩
      · exact q H1 p a b (s0.trans s1) (s0.free np) (s0.free na) (s0.free nb) m1
      · exact absurd e0 h
      · exact absurd e0 h
    walk_at "rd"
    intro d nd
    have s1 := RD.same_new (o := .dK []) nd
    walk_at "rd"
    refine ⟨⟨_, rfl⟩, ?_⟩
    walk_at "rd"
    rw [l10]
    refine RD.splt (by decide) (by omega) fun L nL => ?_
    rw [show TL.spl [10] 0 [] t = lns t from rfl]
    have s2 := s1.trans (RD.same_new (o := .lst (vsts (lns t))) nL)
    have dL : d ≠ L := ne_of_none upd_same nL
    have nL0 : H L = none := s1.free nL
    walk_at "rd"
    refine RD.goE (K := K) (sq upd_same) (fun i σ H2 => ∃ o2 o3 o4 o5 o6, σ = [some (vst t), some (.ref d), o2, o3, o4, o5, o6, none] ∧ Same H H2 ∧ H2 L = some (.lst (vsts (lns t))) ∧
        H2 d = some (.dK ((tab ((((lns t).take i).map mems).flatMap prs)).map kvO)) ∧ ∀ l ∈ (lns t).take i, bad l = false)
      ⟨_, _, _, _, _, rfl, s2, upd_same, by rw [upd_ne dL, upd_same]; rfl, (fun l hl => by rw [List.take_zero] at hl; cases hl)⟩ (fun i σ H2 _ ⟨_, _, _, _, _, _, _, e, _⟩ => sq e) ?_ ?_
    · rintro i x σ H2 tp hx ⟨o2, o3, o4, o5, o6, rfl, s3, eL, ed, hg⟩ ntp
      obtain ⟨l, hl, rfl⟩ := of_vsts hx
      have sT := RD.same_new (o := .tup [V.int ((i : Nat) : Int), vst l]) ntp
      refine RD.gtup2 (st upd_same) ?_
      walk_at "rd"
      refine ⟨⟨_, rfl⟩, ?_⟩
      walk_at "rd"
      rw [l32]
      have hlt := List.mem_of_getElem? hl
      have hll : l.length ≤ 40000 := Nat.le_trans (spl_small 10 t [] l hlt) (by rw [List.length_nil, Nat.zero_add]; exact ht)
      refine RD.splt (by decide) (by omega) fun W nW => ?_
      rw [show TL.spl [32] 0 [] l = wrds l from rfl]
      have s4 := sT.trans (RD.same_new (o := .lst (vsts (wrds l))) nW)
      walk_at "rd"
      have hwl : (wrds l).length ≤ 40001 := by
        have := spl_len 32 l []
        have : (wrds l).length ≤ l.length + 1 := this
        omega
      refine RD.lcL (K := K) (sq upd_same) (by rw [vsts_len]; exact szl (by omega)) (fun _ => true) (fun v => match v with | .str z => optV (rdN z.cps.toList) | _ => v) (fun j x H4 Q' R' hx s5 kT kF => ?_) (fun H4 m nm s5 em => ?_)
      · obtain ⟨wd, hw, rfl⟩ := of_vsts hx
        have hwd := spl_small 32 l [] wd (List.mem_of_getElem? hw)
        rw [List.length_nil, Nat.zero_add] at hwd
        walk_at "wp"
        walk_at "rd"
        refine ⟨rfl, ?_⟩
        walk_at "rd"
        exact ⟨wd, rfl, by omega, kT rfl _ (Same.refl _)⟩
      rw [RD.pick_all (fun _ => rfl)] at em
      have e1 : (vsts (wrds l)).map (fun v => match v with | .str z => optV (rdN z.cps.toList) | _ => v) = ((wrds l).map rdN).map optV := by
        unfold vsts
        rw [List.map_map, List.map_map]
        rfl
      rw [e1] at em
      have s6 := s4.trans s5
      have hbad : inV .non (((wrds l).map rdN).map optV) = bad l := by
        rw [inV_opt, List.any_map]
        rfl
      walk_at "rd"
      refine RD.inL (sq em) rfl (by rw [List.all_map]; exact List.all_eq_true.mpr fun x _ => flat_opt x) ?_
      rw [hbad]
      walk_at "rd"
      cases hb : bad l with
      | true =>
        walk_at "rd"
        show tMkO A.c_BadLine (sp_exi1 A.c_BadLine "line") [] _ _ _ _
        show tCons _ _ _ _ _
        walk_at "rd"
        refine RD.mk1 fun dd ndd => ?_
        rcases alt with ⟨z, _⟩ | ⟨_, i0, l0', h1, h2, h3, q⟩ | ⟨_, hgd, _⟩
        · exact absurd z e0
        · have ei : i0 = i := by
            rcases Nat.lt_trichotomy i i0 with z | z | z
            · rw [h3 i l z hl] at hb; cases hb
            · exact z.symm
            · have hm : l0' ∈ (lns t).take i := by
                rw [List.mem_take_iff_getElem]
                have h4 := (List.getElem?_eq_some_iff.mp h1)
                exact ⟨i0, by have := h4.1; omega, h4.2⟩
              rw [hg l0' hm] at h2; cases h2
          subst ei
          have e2 : ((i0 : Int) + 1) = ((i0 + 1 : Nat) : Int) := by omega
          rw [e2]
          exact q _ dd ((s3.trans s6).trans (RD.same_new ndd)) upd_same
        · rw [hgd l hlt] at hb; cases hb
      | false =>
        walk_at "rd"
        have em2 : H4 m = some (.lst (vns (mems l))) := by
          rw [em, List.map_map, ← good_map hb]
          rfl
        have hne : mems l ≠ [] := fun z => by
          have h1 := good_map hb
          rw [z] at h1
          exact spl_ne 32 l [] (List.map_eq_nil_iff.mp h1)
        have hml : (mems l).length ≤ 40001 := Nat.le_trans (List.length_filterMap_le _ _) hwl
        obtain ⟨c0, cr, hc⟩ : ∃ c0 cr, mems l = c0 :: cr := by
          cases e : mems l with
          | nil => exact absurd e hne
          | cons c0 cr => exact ⟨c0, cr, rfl⟩
        have ed4 := s6 _ _ ed
        have eL4 := s6 _ _ eL
        have dm : d ≠ m := ne_of_none ((s4 _ _ ed)) nm
        have hgT : ∀ p ∈ (((lns t).take i).map mems).flatMap prs, p.1 < 10000 := fun p hp => by
          obtain ⟨c, hc1, hp⟩ := List.mem_flatMap.mp hp
          obtain ⟨l1, _, rfl⟩ := List.mem_map.mp hc1
          have : p.1 ∈ (prs (mems l1)).map (·.1) := List.mem_map.mpr ⟨p, hp, rfl⟩
          rw [prs_keys] at this
          exact mems_lt this
        have hgp : ∀ p ∈ prs (mems l), p.1 < 10000 := fun p hp => by
          have : p.1 ∈ (prs (mems l)).map (·.1) := List.mem_map.mpr ⟨p, hp, rfl⟩
          rw [prs_keys] at this
          exact mems_lt this
        refine RD.slL (sq em2) fun c1 nc1 => ?_
        have ecut : cutV (vns (mems l)) (some (1 : Int)) none = vns ((mems l).drop 1) := by
          have := cut_from (vns (mems l)) 1
          refine this.trans ?_
          unfold vns
          exact List.map_drop.symm
        rw [ecut]
        have s7 := RD.same_new (o := .lst (vns ((mems l).drop 1))) nc1
        refine RD.starL (sq upd_same) ?_
        walk_at "rd"
        refine RD.ixL (v := vn c0) (sq (s7 _ _ em2)) (show atI (vns (mems l)) ((0 : Nat) : Int) = some (vn c0) by rw [hc]; exact atI_nat rfl) ?_
        walk_at "rd"
        have e3 : vns ((mems l).drop 1) ++ [vn c0] = vns ((mems l).drop 1 ++ (mems l).take 1) := by
          rw [vns_app, hc]
          rfl
        rw [e3]
        refine ⟨by rw [vns_len, List.length_append, List.length_drop, List.length_take]; exact szl (by omega), fun c2 nc2 => ?_⟩
        have s8 := s7.trans (RD.same_new (o := .lst (vns ((mems l).drop 1 ++ (mems l).take 1))) nc2)
        have dc2 : d ≠ c2 := ne_of_none (s7 _ _ ed4) nc2
        walk_at "rd"
        refine RD.goZ (K := K) (sq (s8 _ _ em2)) (sq upd_same) (by rw [vns_len, vns_len, List.length_append, List.length_drop, List.length_take]; omega)
          (fun j σ H5 => ∃ o5 o6, σ = [some (vst t), some (.ref d), some (vn i), some (vst l), some (.ref m), o5, o6, none] ∧ Same H H5 ∧ H5 L = some (.lst (vsts (lns t))) ∧ H5 m = some (.lst (vns (mems l))) ∧ H5 c2 = some (.lst (vns ((mems l).drop 1 ++ (mems l).take 1))) ∧
            H5 d = some (.dK ((((prs (mems l)).take j).foldl put (tab ((((lns t).take i).map mems).flatMap prs))).map kvO)))
          ⟨_, _, rfl, (s3.trans s6).trans s8, s8 _ _ eL4, s8 _ _ em2, upd_same, s8 _ _ ed4⟩ (fun j σ H5 _ ⟨_, _, _, _, _, e1, e2, _⟩ => ⟨sq e1, sq e2⟩) ?_ ?_
        · rintro j x y σ H5 tq hx hy ⟨o5, o6, rfl, s9, eL5, em5, ec5, ed5⟩ ntq
          obtain ⟨a1, ha1, rfl⟩ := of_vns hx
          obtain ⟨b1, hb1, rfl⟩ := of_vns hy
          have hp : (prs (mems l))[j]? = some (a1, b1) := by
            unfold prs
            rw [List.getElem?_zip_eq_some]
            exact ⟨ha1, hb1⟩
          rw [RD.take_one hp, List.foldl_append]
          have hT2 : ∃ ps, (∀ p ∈ ps, p.1 < 10000) ∧ ((prs (mems l)).take j).foldl put (tab ((((lns t).take i).map mems).flatMap prs)) = tab ps := by
            refine ⟨(((lns t).take i).map mems).flatMap prs ++ (prs (mems l)).take j, fun p hp => ?_, by unfold tab; rw [List.foldl_append]⟩
            rcases List.mem_append.mp hp with hp | hp
            · exact hgT p hp
            · exact hgp p (List.mem_of_mem_take hp)
          obtain ⟨ps, hps, eps⟩ := hT2
          have hsm := tab_small hps
          rw [← eps] at hsm
          generalize ((prs (mems l)).take j).foldl put (tab ((((lns t).take i).map mems).flatMap prs)) = T2 at ed5 hsm ⊢
          have sq5 := RD.same_new (o := .tup [vn a1, vn b1]) ntq
          have edq := sq5 _ _ ed5
          have dq : d ≠ tq := ne_of_none ed5 ntq
          refine RD.gtup2 (st upd_same) ?_
          walk_at "rd"
          refine ⟨d, _, rfl, DGet.k (k := Sum.inl ((a1 : Nat) : Int)) edq, ?_⟩
          rw [val_kvO]
          have fin : ∀ (H6 : Hp) (o6 : Option V), H6 = upd (upd H5 tq (.tup [vn a1, vn b1])) d (.dK ((put T2 (a1, b1)).map kvO)) → ∃ o5' o6', [some (vst t), some (V.ref d), some (vn i), some (vst l), some (V.ref m), some (vn a1), o6, none] = [some (vst t), some (.ref d), some (vn i), some (vst l), some (.ref m), o5', o6', none] ∧ Same H H6 ∧ H6 L = some (.lst (vsts (lns t))) ∧ H6 m = some (.lst (vns (mems l))) ∧ H6 c2 = some (.lst (vns ((mems l).drop 1 ++ (mems l).take 1))) ∧
              H6 d = some (.dK (([(a1, b1)].foldl put T2).map kvO)) := by
            rintro H6 o6 rfl
            refine ⟨_, _, rfl, RD.same_mut (s9.trans sq5) nd, ?_, ?_, ?_, upd_same⟩
            · rw [upd_ne dL.symm]; exact sq5 _ _ eL5
            · rw [upd_ne dm.symm]; exact sq5 _ _ em5
            · rw [upd_ne dc2.symm]; exact sq5 _ _ ec5
          walk_at "rd"
          refine RD.dec (fun hin => ?_) (fun hin => ?_)
          · walk_at "rd"
            refine ⟨d, _, rfl, DPut.k (k := Sum.inl ((a1 : Nat) : Int)) edq (by rw [List.length_map]; exact szt (by omega)), ?_⟩
            rw [put_old (p := (a1, b1)) hin]
            exact fin _ _ rfl
          · walk_at "rd"
            refine ⟨d, _, rfl, DPut.k (k := Sum.inl ((a1 : Nat) : Int)) edq (by rw [List.length_map]; exact szt (by omega)), ?_⟩
            rw [put_fresh (p := (a1, b1)) hin]
            exact fin _ _ rfl
        · rintro σ H5 ⟨o5, o6, rfl, s9, eL5, em5, ec5, ed5⟩
          have hpl : (prs (mems l)).length = (vns (mems l)).length := by
            rw [vns_len, ← List.length_map (f := (·.1)), prs_keys]
          rw [← hpl, List.take_length] at ed5
          refine ⟨_, _, _, _, _, rfl, s9, eL5, ?_, fun l1 hl1 => ?_⟩
          · rw [ed5, RD.take_one hl, List.map_append, List.flatMap_append]
            unfold tab
            rw [List.foldl_append]
            simp
          · rw [RD.take_one hl] at hl1
            rcases List.mem_append.mp hl1 with z | z
            · exact hg l1 z
            · rw [List.mem_singleton.mp z]; exact hb
    · rintro σ H2 ⟨o2, o3, o4, o5, o6, rfl, s3, eL, ed, hg⟩
      rw [vsts_len, List.take_length] at ed hg
      obtain ⟨hlen, alt2⟩ : (allC t).flatten.length ≤ 62 ∧ (((¬ (allC t).flatten.Perm (List.range (allC t).flatten.length) ∨ (allC t).flatten.length % 2 = 1) ∧ ∀ H', Same H H' → E (.ref A.c_NotAMesh) none H') ∨
          ∃ ns, IsMesh ns ∧ (allC t).flatten.Perm (List.range ns.length) ∧ (∀ c ∈ allC t, Rot ns c) ∧ ∀ (H' : Hp) (p a b : Addr), Same H H' → H p = none → H a = none → H b = none → MeshAt A H' p a b ns → Q (.ref p) H') := by
        rcases alt with ⟨z, _⟩ | ⟨_, i0, l0', h1, h2, _⟩ | ⟨_, _, h1, h2⟩
        · exact absurd z e0
        · rw [hg l0' (List.mem_of_getElem? h1)] at h2; cases h2
        · exact ⟨h1, h2⟩
      have hkeys : ((allC t).flatMap prs).map (·.1) = (allC t).flatten := all_keys _
      have hrot : ∀ p ∈ (allC t).flatMap prs, ∀ ns, (∀ c ∈ allC t, Rot ns c) → fn ns p.1 = p.2 := fun p hp ns hr => by
        obtain ⟨c, hc, hp⟩ := List.mem_flatMap.mp hp
        exact hr c hc p hp
      have ed : H2 d = some (.dK ((tab ((allC t).flatMap prs)).map kvO)) := ed
      generalize (allC t).flatMap prs = ps at ed hkeys hrot
      generalize hF : (allC t).flatten = F at hkeys hlen alt2
      walk_at "rd"
      refine RD.lockVals rfl ed (by rw [List.all_map]; exact List.all_eq_true.mpr fun x _ => flat_opt x.2) ?_
      have e1 : inV .non (((tab ps).map kvO).map (·.2)) = ((tab ps).map (·.2)).any (·.isNone) := by
        rw [← inV_opt, List.map_map, List.map_map]
        rfl
      rw [e1]
      by_cases hnd : F.Nodup
      · have htab : tab ps = ps.map bare := tab_ok (by rw [hkeys]; exact hnd)
        have e2 : ((tab ps).map (·.2)).any (·.isNone) = false := by
          rw [htab, List.map_map, List.any_map]
          exact Bool.eq_false_iff.mpr fun z => by
            obtain ⟨x, _, h⟩ := List.any_eq_true.mp z
            cases h
        rw [e2]
        walk_at "rd"
        have hkl : ps.length = F.length := by rw [← hkeys, List.length_map]
        refine ⟨d, _, F.map (fun n : Nat => (n : Int)), rfl, Rd.of ed, ?_, by rw [List.length_map]; omega, fun ys r pm so nr => ?_⟩
        · rw [htab, List.map_map, List.map_map, List.map_map, ← hkeys, List.map_map]
          rfl
        have s4 := RD.same_new (o := .lst (ys.map V.int)) nr
        have ed4 := s4 _ _ ed
        walk_at "rd"
        refine RD.lenD ed4 ?_
        rw [htab, List.length_map, List.length_map, hkl]
        walk_at "rd"
        refine ⟨RgOk.of_le (by omega) (by omega) (by omega) (by omega), fun c2 nc2 => ?_⟩
        have erg : rgV 0 (F.length : Int) = ((List.range F.length).map (fun n : Nat => (n : Int))).map V.int := by
          unfold rgV
          rw [List.map_map, show ((F.length : Int) - 0).toNat = F.length by omega]
          refine List.map_congr_left fun x _ => ?_
          show V.int (0 + (x : Int)) = V.int (x : Int)
          rw [Int.zero_add]
        rw [erg]
        have s5 := RD.same_new (o := .lst (((List.range F.length).map (fun n : Nat => (n : Int))).map V.int)) nc2
        refine RD.neD (dp_I (sq (s5 _ _ upd_same))) (dp_I (sq upd_same)) (sh_dI _) (sh_dI _) ?_
        rw [eqv_dI]
        have s6 := s4.trans s5
        have ed6 := s6 _ _ ed
        have hperm : ys = (List.range F.length).map (fun n : Nat => (n : Int)) ↔ F.Perm (List.range F.length) := by
          constructor
          · intro e
            rw [e] at pm
            have := pm.map Int.toNat
            rw [List.map_map, List.map_map] at this
            have ei : ∀ l : List Nat, l.map (Int.toNat ∘ fun n : Nat => (n : Int)) = l := fun l => by
              conv => rhs; rw [← List.map_id l]
              exact List.map_congr_left fun x _ => rfl
            rw [ei, ei] at this
            exact this.symm
          · intro e
            refine List.Perm.eq_of_pairwise (le := (· ≤ ·)) (fun x y _ _ h1 h2 => Int.le_antisymm h1 h2) so ?_ (pm.trans (e.map _))
            refine List.pairwise_map.mpr (List.Pairwise.imp ?_ (List.pairwise_lt_range (n := F.length)))
            intro x y hxy
            omega
        generalize upd (upd H2 r (.lst (ys.map V.int))) c2 (.lst (((List.range F.length).map (fun n : Nat => (n : Int))).map V.int)) = H6 at s6 ed6 ⊢
        walk_at "rd"
        refine RD.ndec (fun hne => ?_) (fun heq => ?_)
        · walk_at "rd"
          show E (.ref A.c_NotAMesh) none _
          rcases alt2 with ⟨_, q⟩ | ⟨ns, hM, hp, _⟩
          · exact q _ (s3.trans s6)
          · have hl : F.length = ns.length := by have := hp.length_eq; rw [List.length_range] at this; exact this
            rw [← hl] at hp
            exact absurd (hperm.mpr hp) hne
        · walk_at "rd"
          have hp := hperm.mp heq
          refine RD.lenD ed6 ?_
          rw [htab, List.length_map, List.length_map, hkl]
          walk_at "rd"
          have hget : ∀ x, x < F.length → ∃ y, (x, y) ∈ ps := fun x hx => by
            have : x ∈ F := hp.mem_iff.mpr (List.mem_range.mpr hx)
            rw [← hkeys] at this
            obtain ⟨⟨a1, b1⟩, h1, rfl⟩ := List.mem_map.mp this
            exact ⟨b1, h1⟩
          obtain ⟨nx, hnx⟩ : ∃ nx : Nat → Nat, ∀ x, x < F.length → (x, nx x) ∈ ps := by
            refine ⟨fun x => if h : x < F.length then Classical.choose (hget x h) else 0, fun x hx => ?_⟩
            show (x, if h : x < F.length then Classical.choose (hget x h) else 0) ∈ ps
            rw [dif_pos hx]
            exact Classical.choose_spec (hget x hx)
          refine RD.lcR (z := (F.length : Int)) (n := F.length) (by omega) (by omega) (by omega) (fun _ => true) (fun x => vn (nx x)) (fun i H7 Q' R' hi s7 kT kF => ?_) (fun H7 u nu s7 eu => ?_)
          · walk_at "wp"
            walk_at "rd"
            refine ⟨rfl, ?_⟩
            walk_at "rd"
            refine ⟨d, _, rfl, ?_, kT rfl _ (Same.refl _)⟩
            have := DGet.k (k := Sum.inl ((i : Nat) : Int)) (s7 _ _ ed6)
            rw [htab, val_bare ps i (nx i) (by rw [hkeys]; exact hnd) (hnx i hi)] at this
            exact this
          rw [RD.pick_all (fun _ => rfl)] at eu
          have eu : H7 u = some (.lst (vns ((List.range F.length).map nx))) := by
            rw [eu]
            unfold vns
            rw [List.map_map]
            rfl
          walk_at "rd"
          have s8 := (s3.trans s6).trans s7
          rcases alt2 with ⟨hodd, q⟩ | ⟨ns, hM, hp2, hr, q⟩
          · have hodd : F.length % 2 = 1 := by
              rcases hodd with z | z
              · exact absurd hp z
              · exact z
            intro x dx nx' ndx ne
            have s9 : Same H7 (upd (upd H7 dx (.own x)) x (.ins A.c_Mesh dx [])) := RD.same_mut (RD.same_new ndx) nx'
            refine ⟨x, dx, u, vns ((List.range F.length).map nx), rfl, upd_same, s9 _ _ eu, by rw [vns_len, List.length_map, List.length_range]; omega, ib_vns _, fun _ H' s10 => q H' ((s8.trans s9).trans s10), fun ns' e hm => ?_⟩
            have e2 := hm.even
            rw [← vns_inj e, List.length_map, List.length_range] at e2
            omega
          · have hl : F.length = ns.length := by have := hp2.length_eq; rw [List.length_range] at this; exact this
            have ens : (List.range F.length).map nx = ns := by
              refine List.ext_getElem? fun x => ?_
              rw [List.getElem?_map]
              rcases Nat.lt_or_ge x F.length with hx | hx
              · rw [List.getElem?_range hx, fn_at (by omega)]
                exact congrArg some (hrot _ (hnx x hx) ns hr).symm
              · rw [List.getElem?_eq_none (by rw [List.length_range]; exact hx), List.getElem?_eq_none (by omega)]
                rfl
            rw [ens] at eu
            refine mk_mesh eu hM (by omega) fun H8 p a b np na nb s9 m9 => ?_
            exact q H8 p a b (s8.trans s9) (s8.free np) (s8.free na) (s8.free nb) m9
      · have e2 : ((tab ps).map (·.2)).any (·.isNone) = true := by
          refine List.any_eq_true.mpr ⟨none, tab_dup ps [] List.nodup_nil ?_, rfl⟩
          rw [List.map_nil, List.nil_append, hkeys]
          exact hnd
        rw [e2]
        walk_at "rd"
        show E (.ref A.c_NotAMesh) none _
        rcases alt2 with ⟨_, q⟩ | ⟨ns, hM, hp, _⟩
        · exact q _ s3
        · exact absurd (hp.nodup_iff.mpr List.nodup_range) hnd
end
end Pf

namespace TX
open PySem SX MM
theorem num4 {n : Nat} (h : n < 10000) : (TL.numL n).length ≤ 4 := TL.numL_len (by decide) h
theorem line_len {c : List Nat} (hb : ∀ x ∈ c, x < 10000) : (line c).length ≤ c.length * 5 := by
  have := jn_len (c := 32) (c.map TL.numL) 4 fun l hl => by
    obtain ⟨n, hn, rfl⟩ := List.mem_map.mp hl
    exact num4 (hb n hn)
  rw [List.length_map] at this
  exact this
end TX
namespace Pf
open PySem PySem.Spec PyProof.Rows L2 MM SX TX RD
/-- a list of lists, each turned, in another order -/
def Turned (c d : List Nat) : Prop := ∃ k, k < d.length ∧ c = d.drop k ++ d.take k
def Mixed (cs xss : List (List Nat)) : Prop := ∃ ds : List (List Nat), ds.Perm xss ∧ Paired Turned cs ds
def sp_l_line (K : PySem.W.Frag) : Sp := fun vs H Q _ => ∃ (a : Addr) (c : List Nat), vs = [.ref a] ∧ SqL K H a (vns c) ∧ c.length ≤ 1000 ∧ (∀ x ∈ c, x < 10000) ∧ ∀ H', Same H H' → Q (vst (line c)) H'
def sp_text (A : Ad) : Sp := fun vs H Q _ => ∃ (p a b : Addr) (ns : List Nat), vs = [.ref p] ∧ MeshAt A H p a b ns ∧ IsMesh ns ∧ ns.length ≤ 62 ∧ ∀ H', Same H H' → Q (vst (jn 10 ((rnds (fn ns) ns.length ns.length).map line))) H'
theorem strs_map (c : List Nat) : (vns c).map (fun v => match v with | .int i => vst (TL.numL i.toNat) | _ => v) = vsts (c.map TL.numL) := by
  unfold vns vsts
  rw [List.map_map, List.map_map]
  rfl
section
variable {P : Program} {w : World} {K : PySem.W.Frag} {mg : Str → Option Value} {base : Heap} {A : Ad}
theorem ok_l_line (T : Txt K mg A) : FnOk P w K mg base CX0 1 A.f_l_line A.d_l_line ["_law_members"] (sp_l_line K) := by
  refine T.F_l_line.ok sc_l_line (fun vs H Q E h => ?_) (fun cdv Ar outer s H vs Q E hr h => ?_)
  · obtain ⟨a, c, rfl, _⟩ := h
    rfl
  · obtain ⟨a, c, rfl, hS, hl, hb, q⟩ := h
    refine ⟨_, (pss_one (ps_ret (RD.k_join (K := K) rfl pe_str (pe_lc (own := [("_law_half", 1)]) (g := gName 1) (by rfl) sc_l_line.nd (RD.k_pil (K := K) rfl (pv 0)) (blkOk_by (own := [("_law_half", 1)]) (N := ["_law_members", "_law_half"]) (sc := defScope s_l_line) (by decide +kernel)) (fun _ _ _ _ _ => (pg_name (i := 1) sc_l_line.nd rfl (Or.inl rfl))) (fun _ _ _ _ _ => pts_nil) (fun _ _ _ _ _ => (pe_callTy RD.k_strI (by rfl) T.z_str (by decide +kernel) (pa_cons (pv 1) pa_nil))))))), ?_⟩
    show tRet _ _ [some (.ref a), none] H
    walk_at "rd"
    refine ⟨⟨_, rfl⟩, ?_⟩
    walk_at "rd"
    rw [l32]
    refine RD.lcL hS (by rw [vns_len]; exact szl (by omega)) (fun _ => true) (fun v => match v with | .int i => vst (TL.numL i.toNat) | _ => v) (fun i x H1 Q' R' hx s1 kT kF => ?_) (fun H1 m nm s1 em => ?_)
    · obtain ⟨n, hn, rfl⟩ := of_vns hx
      have := hb n (List.mem_of_getElem? hn)
      walk_at "wp"
      walk_at "rd"
      refine ⟨rfl, ?_⟩
      walk_at "rd"
      exact RD.strN (by omega) (kT rfl _ (Same.refl _))
    rw [RD.pick_all (fun _ => rfl), strs_map] at em
    refine RD.jnd (k := 4) (sq em) (fun l hl => ?_) (by rw [List.length_map]; omega) (q H1 s1)
    obtain ⟨n, hn, rfl⟩ := List.mem_map.mp hl
    exact num4 (hb n hn)
theorem ok_Mesh_text (T : Txt K mg A) : FnOk P w K mg base CX0 3 A.f_Mesh_text A.d_Mesh_text ["self"] (sp_text A) := by
  have G_Mesh_faces := ok_Mesh_faces (P := P) (w := w) (base := base) T
  refine T.F_Mesh_text.ok sc_Mesh_text (fun vs H Q E h => ?_) (fun cdv Ar outer s H vs Q E hr h => ?_)
  · obtain ⟨p, a, b, ns, rfl, _⟩ := h
    rfl
  · obtain ⟨p, a, b, ns, rfl, m, hM, hl, q⟩ := h
    obtain ⟨dx, h1⟩ := m.ob
    refine ⟨_, (pss_one (ps_ret (RD.k_join (K := K) rfl pe_str (pe_lc (own := [("members", 1)]) (g := gName 1) (by rfl) sc_Mesh_text.nd (RD.k_pil (K := K) rfl (pe_meth0 (pv 0) T.cl_Mesh T.m_Mesh_faces G_Mesh_faces (hr.mono (by decide)) T.b_Mesh_faces .nil pass0)) (blkOk_by (own := [("members", 1)]) (N := ["self", "members", "half"]) (sc := defScope s_Mesh_text) (by decide +kernel)) (fun _ _ _ _ _ => (pg_name (i := 1) sc_Mesh_text.nd rfl (Or.inl rfl))) (fun _ _ _ _ _ => pts_nil) (fun _ _ _ _ _ => (RD.k_join (K := K) rfl pe_str (pe_lc (own := [("half", 2)]) (g := gName 2) (by rfl) sc_Mesh_text.nd (RD.k_pil (K := K) rfl (pv 1)) (blkOk_by (own := [("half", 2)]) (N := ["self", "members", "half"]) (by kernel_rfl)) (fun _ _ _ _ _ => (pg_name (i := 2) sc_Mesh_text.nd rfl (Or.inl rfl))) (fun _ _ _ _ _ => pts_nil) (fun _ _ _ _ _ => (pe_callTy RD.k_strI (by rfl) T.z_str (by decide +kernel) (pa_cons (pv 2) pa_nil)))))))))), ?_⟩
    show tRet _ _ [some (.ref p), none, none] H
    walk_at "rd"
    refine ⟨⟨_, rfl⟩, ?_⟩
    walk_at "rd"
    rw [l10]
    refine ⟨p, dx, _, rfl, h1, mf_no _ _ (by decide +kernel) (by decide +kernel), ?_⟩
    walk_at "rd"
    refine ⟨p, a, b, ns, rfl, m, hM, by omega, fun H1 f fs s1 nf nfs lf => ?_⟩
    have lf : LL H1 f fs (rnds (fn ns) ns.length ns.length) := lf
    have hl1 := paired_len lf.each
    have hl2 := rnds_len (f := fn ns) (n := ns.length) ns.length
    have hbd : ∀ c ∈ rnds (fn ns) ns.length ns.length, c.length ≤ 62 ∧ ∀ x ∈ c, x < 10000 := fun c hc => by
      refine ⟨by have := (rnds_each hM.fnp (Nat.le_refl _) hc).1; omega, fun x hx => ?_⟩
      obtain ⟨g, hg, _, rfl⟩ := (mem_rnds _).mp hc
      have := cyc_lt hM.fnp hg hx
      omega
    generalize rnds (fn ns) ns.length ns.length = xss at lf hl1 hl2 hbd q
    refine RD.lcP xss (sq lf.top) hl1 (szl (by omega)) (fun _ => true) (fun c => vst (line c)) (fun i c d H2 Q' R' hc hd s2 kT kF => ?_) (fun H2 l nl s2 el => ?_)
    · have e2 := s2 _ _ (paired_at lf.each hc hd)
      have hdb := hbd d (List.mem_of_getElem? hd)
      walk_at "wp"
      walk_at "rd"
      refine ⟨rfl, ?_⟩
      walk_at "rd"
      refine ⟨⟨_, rfl⟩, ?_⟩
      walk_at "rd"
      rw [l32]
      refine RD.lcL (sq e2) (by rw [vns_len]; exact szl (by omega)) (fun _ => true) (fun v => match v with | .int i => vst (TL.numL i.toNat) | _ => v) (fun i x H3 Q' R' hx s3 kT kF => ?_) (fun H3 m nm s3 em => ?_)
      · obtain ⟨n, hn, rfl⟩ := of_vns hx
        have := hdb.2 n (List.mem_of_getElem? hn)
        walk_at "wp"
        walk_at "rd"
        refine ⟨rfl, ?_⟩
        walk_at "rd"
        exact RD.strN (by omega) (kT rfl _ (Same.refl _))
      rw [RD.pick_all (fun _ => rfl), strs_map] at em
      refine RD.jnd (k := 4) (sq em) (fun l hl => ?_) (by rw [List.length_map]; omega) (kT rfl H3 s3)
      obtain ⟨n, hn, rfl⟩ := List.mem_map.mp hl
      exact num4 (hdb.2 n hn)
    rw [RD.pick_all (fun _ => rfl)] at el
    have el : H2 l = some (.lst (vsts (xss.map line))) := by
      rw [el]
      unfold vsts
      rw [List.map_map]
      rfl
    refine RD.jnd (k := 310) (sq el) (fun l hl => ?_) (by rw [List.length_map]; omega) (q H2 (s1.trans s2))
    obtain ⟨c, hc, rfl⟩ := List.mem_map.mp hl
    have h1 := line_len (hbd c hc).2
    have h2 := (hbd c hc).1
    omega
end
end Pf

namespace Pf
open PySem PySem.Spec PyProof.Rows L2
theorem paired_sameX {H H' : Hp} {t : Addr} (s : SameX t H H') : ∀ {ps : List Addr} {xss : List (List Nat)}, Paired (fun q xs => H q = some (.lst (vns xs))) ps xss → t ∉ ps → Paired (fun q xs => H' q = some (.lst (vns xs))) ps xss
  | _, _, .nil, _ => .nil
  | _, _, .cons r k, n => .cons (s _ _ r fun z => n (by rw [z]; exact List.mem_cons_self)) (paired_sameX s k fun z => n (List.mem_cons_of_mem _ z))
theorem LL.sameX {H H' : Hp} {t p : Addr} {ps : List Addr} {xss : List (List Nat)} (h : LL H p ps xss) (s : SameX t H H') (n1 : p ≠ t) (n2 : t ∉ ps) : LL H' p ps xss := ⟨s _ _ h.top n1, paired_sameX s h.each n2⟩
end Pf

namespace Pf
open PySem PySem.Spec PyProof.Rows L2
theorem TapeAt.ne {H : Hp} {a p : Addr} (t : TapeAt H a) (n : H p = none) : p ≠ a := fun z => by
  obtain ⟨x, y, h, _⟩ := t
  rw [z, h] at n
  cases n
/-- [_ for _ in range(n)], each a draw from the tape -/
theorem lcTape {σ : L2.St} {H : Hp} {Q : VK} {te : TE} {g : TG} {tt : TT} {vs : List Nat} {z : Int} {n : Nat} {t : Addr} (hz : z.toNat = n) (hz2 : z < 10000) (hz1 : -10000 < z) (R : Nat → Prop) (h0 : TapeAt H t)
    (turn : ∀ i H1 (Q' : VK) (R' : Hp → Prop), i < n → TapeAt H1 t → SameX t H H1 → (∀ (v : Nat) H4, R v → TapeAt H4 t → SameX t H1 H4 → Q' (vn v) H4) →
      g (.int (i : Nat)) (wipe σ vs) H1 fun σ2 H3 => wipe σ2 vs = wipe σ vs ∧ tt σ2 H3 fun b H5 => if b = true then te σ2 H5 Q' else R' H5)
    (hd : ∀ H' q (l : List Nat), H q = none → TapeAt H' t → SameX t H H' → l.length = n → (∀ x ∈ l, R x) → H' q = some (.lst (vns l)) → Q (.ref q) H') :
    ∃ j : Int, [V.int z] = [.int j] ∧ -(2 ^ 62) ≤ j ∧ j < 2 ^ 62 ∧ RD.LR (Itr 0 j.toNat) g tt te vs σ H Q := by
  subst hz
  refine ⟨z, rfl, by omega, by omega, ?_⟩
  intro D hD
  have Dt : D ≠ t := h0.ne hD
  refine lc_it (walk_range (lo := 0) (n := z.toNat)) (fun i H1 => TapeAt H1 t ∧ SameX t H H1 ∧ ∃ l : List Nat, l.length = i ∧ (∀ x ∈ l, R x) ∧ H1 D = some (.lst (vns l))) ⟨h0.same (RD.same_new hD), (SameX.refl t H).mut hD, [], rfl, (fun x hx => nomatch hx), upd_same⟩ (fun i H1 _ hp => trivial) (fun i x H1 H2 hi hp y => ?_) (fun H1 hp => ?_)
  · obtain ⟨rfl, rfl⟩ := y
    obtain ⟨t1, s1, l, hl, hR, eD⟩ := hp
    have e : (0 + (i : Int)) = ((i : Nat) : Int) := by omega
    show g (V.int (0 + (i : Int))) _ _ _
    rw [e]
    refine turn i _ _ _ hi t1 s1 fun v H4 rv t4 s4 => ?_
    have e4 := s4 _ _ eD Dt
    refine ⟨_, e4, by rw [vns_len]; exact szt (by omega), ?_, (s1.trans s4).mut hD, l ++ [v], by rw [List.length_append, hl]; rfl, fun x hx => ?_, by rw [upd_same, vns_app]; rfl⟩
    · obtain ⟨x, y, h, r⟩ := t4
      exact ⟨x, y, by rw [upd_ne Dt.symm]; exact h, r⟩
    · rcases List.mem_append.mp hx with hx | hx
      · exact hR x hx
      · rw [List.mem_singleton.mp hx]; exact rv
  · obtain ⟨t1, s1, l, hl, hR, eD⟩ := hp
    exact hd H1 D l hD t1 s1 hl hR eD
end Pf

namespace Pf
open PySem PySem.Spec PyProof.Rows L2 MM SX TX RD
theorem paired_erase {α β : Type} {F : α → β → Prop} : ∀ {l : List α} {m : List β}, Paired F l m → ∀ i, Paired F (l.eraseIdx i) (m.eraseIdx i)
  | _, _, .nil, _ => .nil
  | _, _, .cons _ t, 0 => t
  | _, _, .cons r t, i + 1 => .cons r (paired_erase t i)
theorem cut_back (xs : List V) (k : Nat) : cutV xs (some (k : Int)) none = xs.drop k := cut_from xs k
theorem cutE {α : Type} (f : α → V) (xs : List α) (k : Nat) : cutV (xs.map f) none (some (k : Int)) ++ cutV (xs.map f) (some ((k : Int) + 1)) none = (xs.eraseIdx k).map f := by
  rw [cut_to, show ((k : Int) + 1) = ((k + 1 : Nat) : Int) by omega, cut_from, List.eraseIdx_eq_take_drop_succ, List.map_append, List.map_take, List.map_drop]
def sp_l_mixed : Sp := fun vs H Q _ => ∃ (t f : Addr) (fs : List Addr) (xss : List (List Nat)), vs = [.ref t, .ref f] ∧ TapeAt H t ∧ f ≠ t ∧ t ∉ fs ∧ LL H f fs xss ∧ xss.length ≤ 62 ∧ (∀ c ∈ xss, c ≠ [] ∧ c.length ≤ 62 ∧ ∀ x ∈ c, x < 10000) ∧
  ∀ (H' : Hp) (r : Addr) (cs : List (List Nat)), TapeAt H' t → SameX t H H' → H r = none → H' r = some (.lst (vsts (cs.map line))) → Mixed cs xss → Q (.ref r) H'
section
variable {P : Program} {w : World} {K : PySem.W.Frag} {mg : Str → Option Value} {base : Heap} {A : Ad}
theorem ok_l_mixed (T : Txt K mg A) : FnOk P w K mg base CX0 2 A.f_l_mixed A.d_l_mixed ["_law_tape_here", "_law_faces"] (sp_l_mixed) := by
  have G_l_pick := ok_l_pick (P := P) (w := w) (base := base) T
  have G_l_line := ok_l_line (P := P) (w := w) (base := base) T
  refine T.F_l_mixed.ok sc_l_mixed (fun vs H Q E h => ?_) (fun cdv Ar outer s H vs Q E hr h => ?_)
  · obtain ⟨t, f, fs, xss, rfl, _⟩ := h
    rfl
  · obtain ⟨t, f, fs, xss, rfl, tp, ft, tfs, lf, hxl, hbd, q⟩ := h
    refine ⟨_, (pss_cons (ps_setLc (i := 2) (own := [("_law_members", 6)]) (g := gName 6) (by rfl) sc_l_mixed.nd rfl rfl (sw_true rfl rfl rfl (by decide +kernel)) (RD.k_pil (K := K) rfl (pv 1)) (blkOk_by (own := [("_law_members", 6)]) (N := ["_law_tape_here", "_law_faces", "_law_left", "_law_lines", "_law_k", "_law_at", "_law_members", "_law_first"]) (sc := defScope s_l_mixed) (by decide +kernel)) (fun _ _ _ _ _ => (pg_name (i := 6) sc_l_mixed.nd rfl (Or.inl rfl))) (fun _ _ _ _ _ => pts_nil) (fun _ _ _ _ _ => (pv 6)))
      (pss_cons (ps_set (i := 3) sc_l_mixed.nd rfl (Or.inl rfl) (pe_lst pa_nil))
      (pss_cons (ps_for PassesOwn.never rfl (pi_range1 (by rfl) T.z_range (pa_cons (pe_callB (RD.k_len (K := K) rfl) (by rfl) T.z_len (by decide +kernel) (pa_cons (pv 1) pa_nil)) pa_nil)) (pg_name (i := 4) sc_l_mixed.nd rfl (Or.inl rfl))
      (pss_cons (ps_set (i := 5) sc_l_mixed.nd rfl (Or.inl rfl) (pe_call G_l_pick (hr.mono (by decide)) (by rfl) T.g_l_pick T.F_l_pick.kp T.b_l_pick .nil pass0 (pa_cons (pv 0) (pa_cons (pe_callB (RD.k_len (K := K) rfl) (by rfl) T.z_len (by decide +kernel) (pa_cons (pv 2) pa_nil)) pa_nil))))
      (pss_cons (ps_set (i := 6) sc_l_mixed.nd rfl (Or.inl rfl) (pe_ix (RD.k_ixL (K := K) rfl) (pv 2) (pv 5) (fun _ _ => rfl)))
      (pss_cons (ps_set (i := 7) sc_l_mixed.nd rfl (Or.inl rfl) (pe_call G_l_pick (hr.mono (by decide)) (by rfl) T.g_l_pick T.F_l_pick.kp T.b_l_pick .nil pass0 (pa_cons (pv 0) (pa_cons (pe_callB (RD.k_len (K := K) rfl) (by rfl) T.z_len (by decide +kernel) (pa_cons (pv 6) pa_nil)) pa_nil))))
      (pss_cons (ps_expr (RD.k_bm (K := K) rfl PySem.F.plainAttrs_list PySem.F.slot_list_append PySem.F.type_list_append mt_append (pv 3) (pa_cons (pe_call G_l_line (hr.mono (by decide)) (by rfl) T.g_l_line T.F_l_line.kp T.b_l_line .nil pass0 (pa_cons (pe_op op_cat (pe_slice (RD.k_slL (K := K) rfl) (pv 6) (po_some (pv 7)) po_none) (pe_slice (RD.k_slL (K := K) rfl) (pv 6) po_none (po_some (pv 7)))) pa_nil)) pa_nil)))
      (pss_one (ps_set (i := 2) sc_l_mixed.nd rfl (Or.inl rfl) (pe_op op_cat (pe_slice (RD.k_slL (K := K) rfl) (pv 2) po_none (po_some (pv 5))) (pe_slice (RD.k_slL (K := K) rfl) (pv 2) (po_some (pe_op op_add (pv 5) pe_int)) po_none)))))))))
      (pss_one (ps_ret (pv 3)))))), ?_⟩
    show tSeq _ _ _ [some (.ref t), some (.ref f), none, none, none, none, none, none] H
    have hl1 := paired_len lf.each
    walk_at "rd"
    refine RD.lcL (K := K) (sq lf.top) (by rw [List.length_map]; exact szl (by omega)) (fun _ => true) id (fun i x H1 Q' R' hx s1 kT kF => ?_) (fun H1 l nl s1 el => ?_)
    · walk_at "wp"
      walk_at "rd"
      refine ⟨rfl, ?_⟩
      walk_at "rd"
      exact kT rfl _ (Same.refl _)
    rw [RD.pick_all (fun _ => rfl), List.map_id] at el
    have tp1 := tp.same s1
    have lf1 := lf.same s1
    walk_at "rd"
    refine ⟨Nat.zero_le _, fun r nr => ?_⟩
    have s2 := RD.same_new (o := .lst []) nr
    have nr0 : H r = none := s1.free nr
    have rt : r ≠ t := tp1.ne nr
    have lt : l ≠ t := tp.ne nl
    have lr : l ≠ r := ne_of_none el nr
    walk_at "rd"
    refine RD.len (K := K) (sq (s2 _ _ lf1.top)) ?_
    rw [List.length_map]
    walk_at "rd"
    refine RD.goR (n := fs.length) (by omega) (by omega) (by omega) (fun i σ H2 => ∃ (l' : Addr) (ls : List Addr) (zs ds cs : List (List Nat)) (o4 o5 o6 o7 : Option V), σ = [some (.ref t), some (.ref f), some (.ref l'), some (.ref r), o4, o5, o6, o7] ∧ l' ≠ t ∧ l' ≠ r ∧ (∀ x ∈ ls, x ≠ t ∧ x ≠ r) ∧ TapeAt H2 t ∧ SameX t H H2 ∧
        LL H2 l' ls zs ∧ (ds ++ zs).Perm xss ∧ Paired Turned cs ds ∧ ds.length = i ∧ H2 r = some (.lst (vsts (cs.map line))))
      ⟨l, fs, xss, [], [], _, _, _, _, rfl, lt, lr, fun x hx => ⟨fun z => tfs (by rw [← z]; exact hx), ?_⟩, tp1.same s2, (Same.x s1).mut nr0, ⟨s2 _ _ el, (lf1.same s2).each⟩, List.Perm.refl _, .nil, rfl, upd_same⟩ ?_ ?_
    · obtain ⟨c, _, e⟩ := paired_mem lf1.each x hx
      exact ne_of_none e nr
    · rintro i σ H2 hi ⟨l', ls, zs, ds, cs, o4, o5, o6, o7, rfl, l't, l'r, hls, tp2, sx2, ll, pm, tu, hdl, er⟩
      have hlen := pm.length_eq
      rw [List.length_append, hdl] at hlen
      have hzl := paired_len ll.each
      have hcl := paired_len tu
      walk_at "rd"
      refine RD.len (K := K) (sq ll.top) ?_
      rw [List.length_map]
      refine ⟨t, _, rfl, tp2, by omega, by omega, fun v H3 hv tp3 sx3 => ?_⟩
      have ll3 := ll.sameX sx3 l't fun z => (hls t z).1 rfl
      have er3 := sx3 _ _ er rt
      have hvl : v < ls.length := by omega
      have hvz : v < zs.length := by omega
      walk_at "rd"
      refine RD.ixL (v := V.ref ls[v]) (sq ll3.top) (at_n (by rw [List.getElem?_map, List.getElem?_eq_getElem hvl]; rfl)) ?_
      walk_at "rd"
      have hz : zs[v] ∈ xss := pm.mem_iff.mp (List.mem_append_right _ (List.getElem_mem hvz))
      have hzb := hbd _ hz
      have em := paired_at ll3.each (List.getElem?_eq_getElem hvl) (List.getElem?_eq_getElem hvz)
      have hzp : 0 < zs[v].length := List.length_pos_iff.mpr hzb.1
      refine RD.len (K := K) (sq em) ?_
      rw [vns_len]
      refine ⟨t, _, rfl, tp3, by omega, by omega, fun k H4 hk tp4 sx4 => ?_⟩
      have hkl : k < zs[v].length := by omega
      have mt : ls[v] ≠ t := (hls _ (List.getElem_mem hvl)).1
      have em4 := sx4 _ _ em mt
      have ll4 := ll3.sameX sx4 l't fun z => (hls t z).1 rfl
      have er4 := sx4 _ _ er3 rt
      walk_at "rd"
      refine ⟨RD.tyL (sq er4), ?_⟩
      walk_at "rd"
      refine RD.slL (sq em4) fun c1 nc1 => ?_
      have s5 := RD.same_new (o := .lst (cutV (vns zs[v]) (some (k : Int)) none)) nc1
      walk_at "rd"
      refine RD.slL (sq (s5 _ _ em4)) fun c2 nc2 => ?_
      have s6 := RD.same_new (o := .lst (cutV (vns zs[v]) none (some (k : Int)))) nc2
      refine RD.cat (s6 _ _ upd_same) upd_same (by have := cutV_length (vns zs[v]) (some (k : Int)) none; have := cutV_length (vns zs[v]) none (some (k : Int)); rw [vns_len] at *; exact szl (by omega)) fun c3 nc3 => ?_
      have ecut : cutV (vns zs[v]) (some (k : Int)) none ++ cutV (vns zs[v]) none (some (k : Int)) = vns (zs[v].drop k ++ zs[v].take k) := by
        rw [cut_from, cut_to, vns_app]
        unfold vns
        rw [List.map_drop, List.map_take]
      rw [ecut]
      have s7 := (s5.trans s6).trans (RD.same_new (o := .lst (vns (zs[v].drop k ++ zs[v].take k))) nc3)
      walk_at "rd"
      refine ⟨c3, _, rfl, sq upd_same, by rw [List.length_append, List.length_drop, List.length_take]; omega, fun x hx => ?_, fun H5 s8 => ?_⟩
      · rcases List.mem_append.mp hx with hx | hx
        · exact hzb.2.2 x (List.mem_of_mem_drop hx)
        · exact hzb.2.2 x (List.mem_of_mem_take hx)
      have s9 := s7.trans s8
      have er5 := s9 _ _ er4
      have ll5 := ll4.same s9
      have tp5 := tp4.same s9
      have sx5 : SameX t H H5 := (sx2.trans sx3).trans (sx4.trans (Same.x s9))
      walk_at "rd"
      refine RD.app er5 (by rw [vsts_len, List.length_map]; exact szt (by omega)) ?_
      have el6 : ∀ o, (upd H5 r o) l' = some (.lst (ls.map V.ref)) := fun o => by rw [upd_ne l'r]; exact ll5.top
      walk_at "rd"
      refine RD.slL (sq (el6 _)) fun d1 nd1 => ?_
      have u1 := RD.same_new (o := .lst (cutV (ls.map V.ref) none (some (v : Int)))) nd1
      walk_at "rd"
      refine RD.slL (sq (u1 _ _ (el6 _))) fun d2 nd2 => ?_
      have u2 := RD.same_new (o := .lst (cutV (ls.map V.ref) (some ((v : Int) + 1)) none)) nd2
      refine RD.cat (u2 _ _ upd_same) upd_same (by have := cutV_length (ls.map V.ref) none (some (v : Int)); have := cutV_length (ls.map V.ref) (some ((v : Int) + 1)) none; rw [List.length_map] at *; exact szl (by omega)) fun d3 nd3 => ?_
      rw [cutE]
      have u3 := (u1.trans u2).trans (RD.same_new (o := .lst ((ls.eraseIdx v).map V.ref)) nd3)
      walk_at "rd"
      have er6 := u3 _ _ (upd_same (H := H5) (a := r) (o := .lst (vsts (cs.map line) ++ [vst (line (zs[v].drop k ++ zs[v].take k))])))
      have tp6 : TapeAt (upd H5 r (.lst (vsts (cs.map line) ++ [vst (line (zs[v].drop k ++ zs[v].take k))]))) t := by
        obtain ⟨x, y, hA, rr⟩ := tp5
        exact ⟨x, y, by rw [upd_ne rt.symm]; exact hA, rr⟩
      have pe := paired_upd (p := r) (o := .lst (vsts (cs.map line) ++ [vst (line (zs[v].drop k ++ zs[v].take k))])) ll5.each fun x hx => (hls x hx).2
      have lle : LL (upd (upd (upd (upd H5 r (.lst (vsts (cs.map line) ++ [vst (line (zs[v].drop k ++ zs[v].take k))]))) d1 (.lst (cutV (ls.map V.ref) none (some (v : Int))))) d2 (.lst (cutV (ls.map V.ref) (some ((v : Int) + 1)) none))) d3 (.lst ((ls.eraseIdx v).map V.ref))) d3 (ls.eraseIdx v) (zs.eraseIdx v) :=
        ⟨upd_same, paired_erase (paired_imp (fun _ _ e => u3 _ _ e) pe) v⟩
      refine ⟨d3, ls.eraseIdx v, zs.eraseIdx v, ds ++ [zs[v]], cs ++ [zs[v].drop k ++ zs[v].take k], _, _, _, _, rfl, (tp6.same (u1.trans u2)).ne nd3, (ne_of_none ((u1.trans u2) _ _ upd_same) nd3).symm, fun x hx => hls x (List.mem_of_mem_eraseIdx hx), tp6.same u3, (sx5.mut nr0).trans (Same.x u3), lle, ?_, ?_, by rw [List.length_append, hdl]; rfl, ?_⟩
      · rw [List.append_assoc]
        exact (List.Perm.append_left ds (MM.perm_erase zs v hvz)).trans pm
      · exact paired_app tu (.cons ⟨k, hkl, rfl⟩ .nil)
      · rw [er6, List.map_append, vsts_app]
        rfl
    · rintro σ H2 ⟨l', ls, zs, ds, cs, o4, o5, o6, o7, rfl, l't, l'r, hls, tp2, sx2, ll, pm, tu, hdl, er⟩
      have hlen := pm.length_eq
      rw [List.length_append, hdl] at hlen
      have e0 : zs = [] := List.eq_nil_of_length_eq_zero (by omega)
      subst e0
      rw [List.append_nil] at pm
      walk_at "rd"
      exact q H2 r cs tp2 sx2 nr0 er ⟨ds, pm, tu⟩
end
end Pf

namespace TX
open PySem SX MM
theorem spl_mem (c : Nat) : ∀ (l acc w : List Nat) (x : Nat), w ∈ TL.spl [c] 0 acc l → x ∈ w → x ∈ acc ∨ x ∈ l
  | [], acc, w, x, h, hx => by
    rw [TL.spl_nil] at h
    rw [List.mem_singleton.mp h] at hx
    exact .inl hx
  | y :: r, acc, w, x, h, hx => by
    by_cases hp : TL.pre [c] (y :: r) = true
    · rw [TL.spl_hit hp] at h
      rcases List.mem_cons.mp h with h | h
      · rw [h] at hx; exact .inl hx
      · rcases spl_mem c r [] w x h hx with z | z
        · cases z
        · exact .inr (List.mem_cons_of_mem _ z)
    · rw [TL.spl_miss (by simpa using hp)] at h
      rcases spl_mem c r _ w x h hx with z | z
      · rcases List.mem_append.mp z with z | z
        · exact .inl z
        · rw [List.mem_singleton.mp z]; exact .inr List.mem_cons_self
      · exact .inr (List.mem_cons_of_mem _ z)
theorem pre_one (c y : Nat) (r : List Nat) : TL.pre [c] (y :: r) = decide (y = c) := by
  by_cases h : y = c
  · subst h
    rw [decide_eq_true rfl]
    exact TL.pre_self [y] r
  · rw [decide_eq_false h]
    exact TL.pre_of_head [] r h
theorem spl_free (c : Nat) : ∀ (l acc w : List Nat), c ∉ acc → w ∈ TL.spl [c] 0 acc l → c ∉ w
  | [], acc, w, ha, h => by
    rw [TL.spl_nil] at h
    rw [List.mem_singleton.mp h]
    exact ha
  | y :: r, acc, w, ha, h => by
    by_cases hp : TL.pre [c] (y :: r) = true
    · rw [TL.spl_hit hp] at h
      rcases List.mem_cons.mp h with h | h
      · rw [h]; exact ha
      · exact spl_free c r [] w (fun z => nomatch z) h
    · rw [TL.spl_miss (by simpa using hp)] at h
      refine spl_free c r _ w (fun z => ?_) h
      rcases List.mem_append.mp z with z | z
      · exact ha z
      · rw [pre_one, List.mem_singleton.mp z, decide_eq_true rfl] at hp
        exact hp rfl
theorem spl_sum (c : Nat) : ∀ (l acc : List Nat), ((TL.spl [c] 0 acc l).map List.length).sum + (TL.spl [c] 0 acc l).length = acc.length + l.length + 1
  | [], acc => by rw [TL.spl_nil]; simp
  | y :: r, acc => by
    by_cases hp : TL.pre [c] (y :: r) = true
    · have := spl_sum c r []
      rw [TL.spl_hit hp]
      simp at this ⊢
      omega
    · have := spl_sum c r (acc ++ [y])
      rw [TL.spl_miss (by simpa using hp)]
      simp at this ⊢
      omega
theorem jn_sum (c : Nat) : ∀ ls : List (List Nat), (jn c ls).length ≤ (ls.map List.length).sum + ls.length
  | [] => Nat.zero_le _
  | [l] => by show l.length ≤ _; simp
  | l :: m :: r => by
    have := jn_sum c (m :: r)
    rw [jn_cons (by simp), List.length_append, List.length_cons]
    simp only [List.map_cons, List.sum_cons, List.length_cons] at this ⊢
    omega
/-- one word put in the place of another -/
theorem swap_sum (ws : List (List Nat)) (k : Nat) (x : List Nat) : ((ws.take k ++ [x] ++ ws.drop (k + 1)).map List.length).sum ≤ (ws.map List.length).sum + x.length := by
  have e : (ws.map List.length).sum = ((ws.take k).map List.length).sum + ((ws.drop k).map List.length).sum := by
    rw [← List.sum_append_nat, ← List.map_append, List.take_append_drop]
  have e2 : ((ws.drop (k + 1)).map List.length).sum ≤ ((ws.drop k).map List.length).sum := by
    rcases Nat.lt_or_ge k ws.length with h | h
    · rw [List.drop_eq_getElem_cons h, List.map_cons, List.sum_cons]
      omega
    · rw [List.drop_of_length_le h, List.drop_of_length_le (by omega)]
      exact Nat.le_refl _
  simp only [List.map_append, List.sum_append_nat, List.map_cons, List.map_nil, List.sum_cons, List.sum_nil]
  omega
theorem jn_space (A B : List (List Nat)) (w : List Nat) : jn 32 (A ++ [w ++ [32]] ++ B) = jn 32 (A ++ [w, []] ++ B) := by
  have h1 : jn 32 ((w ++ [32]) :: B) = jn 32 (w :: [] :: B) := by
    rw [jn_cons (l := w) (by simp)]
    cases B with
    | nil => show w ++ [32] = w ++ (32 :: []); rfl
    | cons b r => rw [jn_cons (l := w ++ [32]) (r := b :: r) (by simp), jn_cons (l := ([] : List Nat)) (r := b :: r) (by simp)]; simp
  cases A with
  | nil => exact h1
  | cons a r =>
    rw [List.append_assoc, List.append_assoc, jn_app (a :: r) _ (by simp) (by simp), jn_app (a :: r) _ (by simp) (by simp)]
    show _ ++ (32 :: jn 32 ((w ++ [32]) :: B)) = _
    rw [h1]
    rfl
theorem jn_sub {c : Nat} {w : List Nat} : ∀ {ls : List (List Nat)}, w ∈ ls → w ⊆ jn c ls
  | [l], h => by
    rw [List.mem_singleton.mp h]
    exact fun x hx => hx
  | l :: m :: r, h => by
    rw [jn_cons (by simp)]
    rcases List.mem_cons.mp h with h | h
    · rw [h]
      exact fun x hx => List.mem_append_left _ hx
    · exact fun x hx => List.mem_append_right _ (List.mem_cons_of_mem _ (jn_sub h hx))
end TX
namespace Pf
open PySem PySem.Spec PyProof.Rows L2 MM SX TX RD
def sp_l_told (A : Ad) : Sp := fun vs H Q _ => ∃ t : List Nat, vs = [vst t] ∧ t.length ≤ 40000 ∧ t ≠ [] ∧
  ((∃ (i : Nat) (l : List Nat), (lns t)[i]? = some l ∧ bad l = true ∧ (∀ j m, j < i → (lns t)[j]? = some m → bad m = false) ∧ ∀ (H' : Hp) (r : Addr), Same H H' → H' r = some (.lst [.str "line", vn (i + 1), .bl true]) → Q (.ref r) H') ∨
   ((∀ l ∈ lns t, bad l = false) ∧ (allC t).flatten.length ≤ 62 ∧ (¬ (allC t).flatten.Perm (List.range (allC t).flatten.length) ∨ (allC t).flatten.length % 2 = 1) ∧ ∀ (H' : Hp) (r : Addr), Same H H' → H' r = some (.lst [.str "mesh", .bl true]) → Q (.ref r) H'))
section
variable {P : Program} {w : World} {K : PySem.W.Frag} {mg : Str → Option Value} {base : Heap} {A : Ad}
theorem ok_l_told (T : Txt K mg A) : FnOk P w K mg base CX0 5 A.f_l_told A.d_l_told ["_law_text"] (sp_l_told A) := by
  have G_read_mesh := ok_read_mesh (P := P) (w := w) (base := base) T
  refine T.F_l_told.ok sc_l_told (fun vs H Q E h => ?_) (fun cdv Ar outer s H vs Q E hr h => ?_)
  · obtain ⟨t, rfl, _⟩ := h
    rfl
  · obtain ⟨t, rfl, ht, hne, alt⟩ := h
    refine ⟨_, (pss_cons (RD.ps_try_manyA (i := 1) (n := "e") (tb := fun W => tDrop (tCallS (sp_read_mesh A) (WE W) (tCons (tVar 0) tNil))) (Wo := fun _ _ _ _ => False) rfl rfl sc_l_told.nd rfl rfl takes0
        (fun W pn xe tk _ => pss_one (ps_expr (by exact (pe_callS G_read_mesh (hr.mono (by decide)) rfl T.g_read_mesh T.F_read_mesh.kp T.b_read_mesh (fun σ => passAt tk σ) (by exact (pa_cons (pv 0) pa_nil))))))
        (RD.HdsA.cons (c := .ref A.c_BadLine) (ts := fun a cls d => RD.tWhen (cls = .ref A.c_BadLine ∧ ∃ dd, d = some dd) (tRet (tLst (tCons (tC (.str "line")) (tCons (tXf a cls d A.c_BadLine "line" (tVar 1)) (tCons (tCB (RD.rIsX K A.c_BadLine a (d.getD 0)) (tCons (tVar 1) (tCons (tC (.ref A.c_MeshError)) tNil))) tNil)))))) ⟨rfl, by decide, Or.inl T.g_BadLine⟩
        (fun a oe cls d pn hz hf => RD.pss_when fun hcd => by (obtain ⟨rfl, dd, rfl⟩ := hcd; exact (pss_one (ps_ret (pe_lst (pa_cons pe_str (pa_cons (pe_xf T.xf_BadLine T.na_BadLine_line hz hf (pv 1)) (pa_cons (pe_callB (RD.k_isX (K := K) rfl T.exc_BadLine hz hf) (by rfl) T.z_isinstance (by decide +kernel) (pa_cons (pv 1) (pa_cons (pe_glob (v := .ref A.c_MeshError) rfl T.g_MeshError rfl) pa_nil))) pa_nil))))))))
        (RD.HdsA.cons (c := .ref A.c_NotAMesh) (ts := fun a cls d => RD.tWhen (cls = .ref A.c_NotAMesh ∧ d = none) (tRet (tLst (tCons (tC (.str "mesh")) (tCons (tCB (rIsE K A.c_NotAMesh a) (tCons (tVar 1) (tCons (tC (.ref A.c_MeshError)) tNil))) tNil))))) ⟨rfl, by decide, Or.inl T.g_NotAMesh⟩
        (fun a oe cls d pn hz hf => RD.pss_when fun hcd => by (obtain ⟨rfl, rfl⟩ := hcd; exact (pss_one (ps_ret (pe_lst (pa_cons pe_str (pa_cons (pe_callB (RD.k_isE (K := K) rfl T.exc_NotAMesh hz hf) (by rfl) T.z_isinstance (by decide +kernel) (pa_cons (pv 1) (pa_cons (pe_glob (v := .ref A.c_MeshError) rfl T.g_MeshError rfl) pa_nil))) pa_nil)))))))
        RD.HdsA.nil)))
      (pss_one (ps_ret (pe_lst (pa_cons pe_str pa_nil))))), ?_⟩
    show tSeq _ _ _ [some (vst t), none] H
    refine RD.seq ?_
    show tDrop (tCallS _ _ _) _ _ _
    refine RD.drp ?_
    refine RD.callS ?_
    walk_at "rd"
    rcases alt with ⟨i, l, h1, h2, h3, q⟩ | ⟨h1, h2, h3, q⟩
    · refine ⟨t, rfl, ht, .inr (.inl ⟨hne, i, l, h1, h2, h3, fun H' dd s1 edd => ?_⟩)⟩
      refine ⟨true, T.te_BadLine, fun _ a na => ⟨⟨rfl, dd, rfl⟩, ?_⟩, fun z => nomatch z⟩
      show tRet _ _ [some (vst t), some (.ref a)] H'
      walk_at "rd"
      refine ⟨rfl, rfl, dd, _, vn (i + 1), rfl, edd, rfl, ?_⟩
      walk_at "rd"
      refine RD.isX edd T.ki_BadLine_MeshError ?_
      walk_at "rd"
      refine ⟨szl (by simp), fun r nr => ?_⟩
      exact q _ r (s1.trans (RD.same_new nr)) upd_same
    · refine ⟨t, rfl, ht, .inr (.inr ⟨hne, h1, h2, .inl ⟨h3, fun H' s1 => ?_⟩⟩)⟩
      refine ⟨false, T.em_NotAMesh_BadLine, fun z => (nomatch z), fun _ => ⟨true, T.te_NotAMesh, fun _ a na => ⟨⟨rfl, rfl⟩, ?_⟩, fun z => nomatch z⟩⟩
      show tRet _ _ [some (vst t), some (.ref a)] H'
      walk_at "rd"
      refine RD.isE T.ki_NotAMesh_MeshError ?_
      walk_at "rd"
      refine ⟨szl (by simp), fun r nr => ?_⟩
      exact q _ r (s1.trans (RD.same_new nr)) upd_same
end
end Pf

namespace Pf
open PySem PySem.Spec PyProof.Rows L2 MM SX TX RD
theorem cut1 {α : Type} (f : α → V) (xs : List α) (k : Nat) : cutV (xs.map f) none (some (k : Int)) = (xs.take k).map f := by rw [cut_to, List.map_take]
theorem cut2 {α : Type} (f : α → V) (xs : List α) (k : Nat) : cutV (xs.map f) (some (k : Int)) none = (xs.drop k).map f := by rw [cut_from, List.map_drop]
theorem at3 {a b c : V} (k : Nat) : ∃ v, atI [a, b, c] ((k : Int) % 3) = some v ∧ (v = a ∨ v = b ∨ v = c) := by
  have h : (k : Int) % 3 = ((k % 3 : Nat) : Int) := by omega
  rw [h]
  have : k % 3 = 0 ∨ k % 3 = 1 ∨ k % 3 = 2 := by omega
  rcases this with e | e | e
  · rw [e]; exact ⟨a, atI_nat rfl, .inl rfl⟩
  · rw [e]; exact ⟨b, atI_nat rfl, .inr (.inl rfl)⟩
  · rw [e]; exact ⟨c, atI_nat rfl, .inr (.inr rfl)⟩
theorem at2 {a b : V} (k : Nat) : ∃ v, atI [a, b] ((k : Int) % 2) = some v ∧ (v = a ∨ v = b) := by
  have h : (k : Int) % 2 = ((k % 2 : Nat) : Int) := by omega
  rw [h]
  have : k % 2 = 0 ∨ k % 2 = 1 := by omega
  rcases this with e | e
  · rw [e]; exact ⟨a, atI_nat rfl, .inl rfl⟩
  · rw [e]; exact ⟨b, atI_nat rfl, .inr rfl⟩
theorem at6 {a b c d e f : V} (k : Nat) (h1 : 3 ≤ k) (h2 : k < 9) : ∃ v, atI [a, b, c, d, e, f] ((k : Int) - 3) = some v ∧ (v = a ∨ v = b ∨ v = c ∨ v = d ∨ v = e ∨ v = f) := by
  have h : (k : Int) - 3 = ((k - 3 : Nat) : Int) := by omega
  rw [h]
  have : k - 3 = 0 ∨ k - 3 = 1 ∨ k - 3 = 2 ∨ k - 3 = 3 ∨ k - 3 = 4 ∨ k - 3 = 5 := by omega
  rcases this with z | z | z | z | z | z
  · rw [z]; exact ⟨a, atI_nat rfl, .inl rfl⟩
  · rw [z]; exact ⟨b, atI_nat rfl, .inr (.inl rfl)⟩
  · rw [z]; exact ⟨c, atI_nat rfl, .inr (.inr (.inl rfl))⟩
  · rw [z]; exact ⟨d, atI_nat rfl, .inr (.inr (.inr (.inl rfl)))⟩
  · rw [z]; exact ⟨e, atI_nat rfl, .inr (.inr (.inr (.inr (.inl rfl))))⟩
  · rw [z]; exact ⟨f, atI_nat rfl, .inr (.inr (.inr (.inr (.inr rfl))))⟩
theorem s12345 : Str.ofString "12345" = S [49, 50, 51, 52, 53] := by decide +kernel
theorem s1 : Str.ofString "1" = S [49] := by decide +kernel
theorem s1_0 : Str.ofString "1_0" = S [49, 95, 48] := by decide +kernel
theorem sm1 : Str.ofString "-1" = S [45, 49] := by decide +kernel
theorem sa : Str.ofString "a" = S [97] := by decide +kernel
theorem sp1 : Str.ofString "+" = S [43] := by decide +kernel
def sp_l_spoilt : Sp := fun vs H Q _ => ∃ (l : List Nat) (ch pl : Nat), vs = [vst l, vn ch, vn pl] ∧ ch < 9 ∧ l.length ≤ 400 ∧ 10 ∉ l ∧ (∀ x ∈ wrds l, x ≠ []) ∧
  ∀ (H' : Hp) (r : List Nat), Same H H' → bad r = true → 10 ∉ r → r.length ≤ 6000 → (ch ≠ 0 → r ≠ []) → (ch = 0 → r = []) → Q (vst r) H'
theorem bad_nil : bad [] = true := bad_word (l := []) (ws := [[]]) (TL.spl_nil [32] 0 []) List.mem_cons_self (rdN_none (.inl rfl))
theorem bad_end {l : List Nat} (h : (wrds l) ≠ []) : bad (l ++ [32]) = true := by
  have hs : ∀ (l acc : List Nat), [] ∈ TL.spl [32] 0 acc (l ++ [32]) := by
    intro l
    induction l with
    | nil =>
      intro acc
      have hp : TL.pre [32] (32 :: []) = true := by rw [pre_one]; rfl
      show [] ∈ TL.spl [32] 0 acc (32 :: [])
      rw [TL.spl_hit hp]
      show [] ∈ acc :: TL.spl [32] 0 [] []
      rw [TL.spl_nil]
      simp
    | cons y r ih =>
      intro acc
      show [] ∈ TL.spl [32] 0 acc (y :: (r ++ [32]))
      by_cases hp : TL.pre [32] (y :: (r ++ [32])) = true
      · rw [TL.spl_hit hp]
        exact List.mem_cons_of_mem _ (ih [])
      · rw [TL.spl_miss (by simpa using hp)]
        exact ih _
  exact bad_word rfl (hs l []) (rdN_none (.inl rfl))
theorem bad_front {l : List Nat} : bad (32 :: l) = true := by
  have hp : TL.pre [32] (32 :: l) = true := by rw [pre_one]; rfl
  refine bad_word (w := []) rfl ?_ (rdN_none (.inl rfl))
  show [] ∈ TL.spl [32] 0 [] (32 :: l)
  rw [TL.spl_hit hp]
  exact List.mem_cons_self
section
variable {P : Program} {w : World} {K : PySem.W.Frag} {mg : Str → Option Value} {base : Heap} {A : Ad}
theorem ok_l_spoilt (T : Txt K mg A) : FnOk P w K mg base CX0 1 A.f_l_spoilt A.d_l_spoilt ["_law_line_here", "_law_choice", "_law_place"] (sp_l_spoilt) := by
  refine T.F_l_spoilt.ok sc_l_spoilt (fun vs H Q E h => ?_) (fun cdv Ar outer s H vs Q E hr h => ?_)
  · obtain ⟨l, ch, pl, rfl, _⟩ := h
    rfl
  · obtain ⟨l, ch, pl, rfl, hch, hl, h10, hw, q⟩ := h
    refine ⟨_, (pss_cons (ps_set (i := 3) sc_l_spoilt.nd rfl (Or.inl rfl) (RD.k_split (pv 0) pe_str))
      (pss_cons (ps_set (i := 4) sc_l_spoilt.nd rfl (Or.inl rfl) (pe_op op_mod (pe_callTy RD.k_int (by rfl) T.z_int (by decide +kernel) (pa_cons (pv 2) pa_nil)) (pe_callB (RD.k_len (K := K) rfl) (by rfl) T.z_len (by decide +kernel) (pa_cons (pv 3) pa_nil))))
      (pss_cons (ps_if (pt_cmpR op_eq (pv 1) pe_int (nomark _))
      (pss_one (ps_ret pe_str))
      pss_nil)
      (pss_cons (ps_if (pt_cmpR op_eq (pv 1) pe_int (nomark _))
      (pss_one (ps_ret (pe_op RD.k_addS (pv 0) pe_str)))
      pss_nil)
      (pss_cons (ps_if (pt_cmpR op_eq (pv 1) pe_int (nomark _))
      (pss_one (ps_ret (pe_op RD.k_addS pe_str (pv 0))))
      pss_nil)
      (pss_cons (ps_set (i := 5) sc_l_spoilt.nd rfl (Or.inl rfl) (pe_ix (RD.k_ixL (K := K) rfl) (pe_lst (pa_cons pe_str (pa_cons (pe_op RD.op_repS pe_str pe_int) (pa_cons pe_str pa_nil)))) (pe_op op_mod (pe_callTy RD.k_int (by rfl) T.z_int (by decide +kernel) (pa_cons (pv 2) pa_nil)) pe_int) (fun _ _ => rfl)))
      (pss_cons (ps_set (i := 6) sc_l_spoilt.nd rfl (Or.inl rfl) (pe_ix (RD.k_ixL (K := K) rfl) (pe_lst (pa_cons (pe_op RD.k_addS (pe_ix (RD.k_ixL (K := K) rfl) (pv 3) (pv 4) (fun _ _ => rfl)) pe_str) (pa_cons (pe_op RD.k_addS pe_str (pe_ix (RD.k_ixL (K := K) rfl) (pv 3) (pv 4) (fun _ _ => rfl))) (pa_cons (pv 5) (pa_cons pe_str (pa_cons (pe_op RD.k_addS (pe_ix (RD.k_ixL (K := K) rfl) (pv 3) (pv 4) (fun _ _ => rfl)) pe_str) (pa_cons (pe_op RD.k_addS pe_str (pe_ix (RD.k_ixL (K := K) rfl) (pv 3) (pv 4) (fun _ _ => rfl))) pa_nil))))))) (pe_op op_sub (pv 1) pe_int) (fun _ _ => rfl)))
      (pss_one (ps_ret (RD.k_join (K := K) rfl pe_str (pe_op op_cat (pe_op op_cat (pe_slice (RD.k_slL (K := K) rfl) (pv 3) po_none (po_some (pv 4))) (pe_lst (pa_cons (pv 6) pa_nil))) (pe_slice (RD.k_slL (K := K) rfl) (pv 3) (po_some (pe_op op_add (pv 4) pe_int)) po_none)))))))))))), ?_⟩
    show tSeq _ _ _ [some (vst l), some (vn ch), some (vn pl), none, none, none, none] H
    walk_at "rd"
    refine ⟨⟨_, rfl⟩, ?_⟩
    walk_at "rd"
    rw [l32, l0, s12345, s1, s1_0, sm1, sa, sp1, l48]
    refine RD.splt (by decide) (by omega) fun W nW => ?_
    rw [show TL.spl [32] 0 [] l = wrds l from rfl]
    have hwn : wrds l ≠ [] := spl_ne 32 l []
    have hws : ((wrds l).map List.length).sum + (wrds l).length = l.length + 1 := by
      have := spl_sum 32 l []
      rw [List.length_nil, Nat.zero_add] at this
      exact this
    have hwp : 0 < (wrds l).length := List.length_pos_iff.mpr hwn
    have hw32 : ∀ x ∈ wrds l, 32 ∉ x := fun x hx => spl_free 32 l [] x (fun z => nomatch z) hx
    have hw10 : ∀ x ∈ wrds l, 10 ∉ x := fun x hx z => by
      rcases spl_mem 32 l [] x 10 hx z with z | z
      · cases z
      · exact h10 z
    have hwl : ∀ x ∈ wrds l, x.length ≤ 400 := fun x hx => by
      have := spl_small 32 l [] x hx
      rw [List.length_nil, Nat.zero_add] at this
      omega
    have hemp : l ≠ [] := fun z => hw [] (by rw [z]; exact List.mem_cons_self) rfl
    have s0 := RD.same_new (o := .lst (vsts (wrds l))) nW
    walk_at "rd"
    refine RD.len (K := K) (sq upd_same) ?_
    rw [vsts_len]
    refine RD.iC (show (0 : Int) < _ by omega) ?_
    walk_at "rd"
    have eat : ((pl : Int) % ((wrds l).length : Int)) = ((pl % (wrds l).length : Nat) : Int) := by omega
    rw [eat]
    have hat : pl % (wrds l).length < (wrds l).length := Nat.mod_lt _ hwp
    generalize pl % (wrds l).length = at_ at hat ⊢
    refine RD.dec (fun c0 => ?_) (fun c0 => ?_)
    · walk_at "rd"
      exact q _ [] s0 bad_nil (fun z => nomatch z) (Nat.zero_le _) (fun z => absurd (by omega) z) fun _ => rfl
    walk_at "rd"
    refine RD.dec (fun c1 => ?_) (fun c1 => ?_)
    · walk_at "rd"
      refine RD.adds (by simp; omega) ?_
      refine q _ _ s0 (bad_end hwn) (fun z => ?_) (by simp; omega) (fun _ => by simp) fun z => absurd z (by omega)
      rcases List.mem_append.mp z with z | z
      · exact h10 z
      · exact absurd (List.mem_singleton.mp z) (by decide)
    walk_at "rd"
    refine RD.dec (fun c2 => ?_) (fun c2 => ?_)
    · walk_at "rd"
      refine RD.adds (by simp; omega) ?_
      refine q _ _ s0 bad_front (fun z => ?_) (by simp; omega) (fun _ => by simp) fun z => absurd z (by omega)
      rcases List.mem_cons.mp z with z | z
      · exact absurd z (by decide)
      · exact h10 z
    have hch3 : 3 ≤ ch := by omega
    walk_at "rd"
    refine ⟨[49], 5000, rfl, rfl, by decide, by decide, by decide, ?_⟩
    generalize hone : (List.replicate (5000 : Int).toNat [49]).flatten = ones
    have hol : ones.length = 5000 := by rw [← hone, len_rep]; rfl
    have hom : ∀ x ∈ ones, x = 49 := fun x hx => by
      rw [← hone] at hx
      obtain ⟨y, hy, hx⟩ := List.mem_flatten.mp hx
      rw [(List.mem_replicate.mp hy).2] at hx
      exact List.mem_singleton.mp hx
    walk_at "rd"
    refine ⟨szl (by simp), fun c1a nc1a => ?_⟩
    have s2 := s0.trans (RD.same_new (o := .lst [vst [49, 50, 51, 52, 53], vst ones, vst [49, 95, 48]]) nc1a)
    have eW := (RD.same_new (o := .lst [vst [49, 50, 51, 52, 53], vst ones, vst [49, 95, 48]]) nc1a) _ _ (upd_same (H := H) (a := W) (o := .lst (vsts (wrds l))))
    walk_at "rd"
    refine RD.iC (by decide) ?_
    obtain ⟨vlg, elg, hlg⟩ := at3 (a := vst [49, 50, 51, 52, 53]) (b := vst ones) (c := vst [49, 95, 48]) pl
    obtain ⟨lg, rfl, hlgn, hlgl, hlg32, hlg10, hlgne⟩ : ∃ lg, vlg = vst lg ∧ rdN lg = none ∧ lg.length ≤ 5000 ∧ 32 ∉ lg ∧ 10 ∉ lg ∧ lg ≠ [] := by
      rcases hlg with rfl | rfl | rfl
      · exact ⟨_, rfl, rdN_none (.inr (.inl (by decide))), by decide, by decide, by decide, by decide⟩
      · refine ⟨_, rfl, rdN_none (.inr (.inl (by omega))), by omega, fun z => absurd (hom _ z) (by decide), fun z => absurd (hom _ z) (by decide), fun z => by rw [z] at hol; cases hol⟩
      · exact ⟨_, rfl, rdN_none (.inr (.inr (.inr ⟨95, by decide, by decide⟩))), by decide, by decide, by decide, by decide⟩
    refine RD.ixL (sq upd_same) elg ?_
    walk_at "rd"
    generalize upd (upd H W (.lst (vsts (wrds l)))) c1a (.lst [vst [49, 50, 51, 52, 53], vst ones, vst [49, 95, 48]]) = H2 at s2 eW ⊢
    have hwd := List.getElem_mem hat
    generalize hwde : (wrds l)[at_] = wd at hwd
    have eat2 : atI (vsts (wrds l)) ((at_ : Nat) : Int) = some (vst wd) := at_n (vsts_at (by rw [List.getElem?_eq_getElem hat, hwde]))
    have hwdl := hwl wd hwd
    refine RD.ixL (sq eW) eat2 ?_
    walk_at "rd"
    refine RD.adds (by simp; omega) ?_
    walk_at "rd"
    refine RD.ixL (sq eW) eat2 ?_
    walk_at "rd"
    refine RD.adds (by simp; omega) ?_
    walk_at "rd"
    refine RD.ixL (sq eW) eat2 ?_
    walk_at "rd"
    refine RD.adds (by simp; omega) ?_
    walk_at "rd"
    refine RD.ixL (sq eW) eat2 ?_
    walk_at "rd"
    refine RD.adds (by simp; omega) ?_
    walk_at "rd"
    refine ⟨szl (by simp), fun c2a nc2a => ?_⟩
    have s3 := RD.same_new (o := .lst [vst (wd ++ [32]), vst ([48] ++ wd), vst lg, vst [45, 49], vst (wd ++ [97]), vst ([43] ++ wd)]) nc2a
    walk_at "rd"
    obtain ⟨vwr, ewr, hwr⟩ := at6 (a := vst (wd ++ [32])) (b := vst ([48] ++ wd)) (c := vst lg) (d := vst [45, 49]) (e := vst (wd ++ [97])) (f := vst ([43] ++ wd)) ch hch3 hch
    obtain ⟨wr, rfl, hwrl, hwr10, hwrne, hfin⟩ : ∃ wr, vwr = vst wr ∧ wr.length ≤ 5000 ∧ 10 ∉ wr ∧ wr ≠ [] ∧ bad (jn 32 ((wrds l).take at_ ++ [wr] ++ (wrds l).drop (at_ + 1))) = true := by
      have std : ∀ wr : List Nat, 32 ∉ wr → rdN wr = none → bad (jn 32 ((wrds l).take at_ ++ [wr] ++ (wrds l).drop (at_ + 1))) = true := fun wr h1 h2 => by
        refine bad_word (wrds_jn (by simp) fun x hx => ?_) (w := wr) (by simp) h2
        rcases List.mem_append.mp hx with hx | hx
        · rcases List.mem_append.mp hx with hx | hx
          · exact hw32 x (List.mem_of_mem_take hx)
          · rw [List.mem_singleton.mp hx]; exact h1
        · exact hw32 x (List.mem_of_mem_drop hx)
      have a10 := hw10 wd hwd
      have a32 := hw32 wd hwd
      have ane := hw wd hwd
      rcases hwr with rfl | rfl | rfl | rfl | rfl | rfl
      · refine ⟨_, rfl, by simp; omega, by simp [a10], by simp, ?_⟩
        rw [jn_space]
        refine bad_word (wrds_jn (by simp) fun x hx => ?_) (w := []) (by simp) (rdN_none (.inl rfl))
        rcases List.mem_append.mp hx with hx | hx
        · rcases List.mem_append.mp hx with hx | hx
          · exact hw32 x (List.mem_of_mem_take hx)
          · rcases List.mem_cons.mp hx with hx | hx
            · rw [hx]; exact a32
            · rw [List.mem_singleton.mp hx]; exact fun z => nomatch z
        · exact hw32 x (List.mem_of_mem_drop hx)
      · refine ⟨_, rfl, by simp; omega, by simp [a10], by simp, std _ (by simp [a32]) (rdN_none (.inr (.inr (.inl ⟨rfl, ?_⟩))))⟩
        intro z
        exact ane (List.cons.inj z).2
      · exact ⟨_, rfl, hlgl, hlg10, hlgne, std _ hlg32 hlgn⟩
      · exact ⟨_, rfl, by decide, by decide, by decide, std _ (by decide) (rdN_none (.inr (.inr (.inr ⟨45, by decide, by decide⟩))))⟩
      · exact ⟨_, rfl, by simp; omega, by simp [a10], by simp, std _ (by simp [a32]) (rdN_none (.inr (.inr (.inr ⟨97, by simp, by decide⟩))))⟩
      · exact ⟨_, rfl, by simp; omega, by simp [a10], by simp, std _ (by simp [a32]) (rdN_none (.inr (.inr (.inr ⟨43, by simp, by decide⟩))))⟩
    refine RD.ixL (sq upd_same) ewr ?_
    walk_at "rd"
    refine ⟨⟨_, rfl⟩, ?_⟩
    walk_at "rd"
    have eW3 := s3 _ _ eW
    generalize upd H2 c2a (.lst [vst (wd ++ [32]), vst ([48] ++ wd), vst lg, vst [45, 49], vst (wd ++ [97]), vst ([43] ++ wd)]) = H3 at s3 eW3 ⊢
    refine RD.slL (sq eW3) fun d1 nd1 => ?_
    have u1 := RD.same_new (o := .lst (cutV (vsts (wrds l)) none (some (at_ : Int)))) nd1
    walk_at "rd"
    refine ⟨szl (by simp), fun d2 nd2 => ?_⟩
    have u2 := RD.same_new (o := .lst [vst wr]) nd2
    have ec1 : cutV (vsts (wrds l)) none (some (at_ : Int)) = vsts ((wrds l).take at_) := cut1 vst (wrds l) at_
    have ec2 : cutV (vsts (wrds l)) (some ((at_ : Int) + 1)) none = vsts ((wrds l).drop (at_ + 1)) := by
      rw [show ((at_ : Int) + 1) = ((at_ + 1 : Nat) : Int) by omega]
      exact cut2 vst (wrds l) (at_ + 1)
    have hwll : (wrds l).length ≤ 401 := by omega
    refine RD.cat (u2 _ _ upd_same) upd_same (by rw [ec1, vsts_len, List.length_take]; exact szl (by simp; omega)) fun d3 nd3 => ?_
    have u3 := (u1.trans u2).trans (RD.same_new (o := .lst (cutV (vsts (wrds l)) none (some (at_ : Int)) ++ [vst wr])) nd3)
    walk_at "rd"
    refine RD.slL (sq (u3 _ _ eW3)) fun d4 nd4 => ?_
    have u4 := RD.same_new (o := .lst (cutV (vsts (wrds l)) (some ((at_ : Int) + 1)) none)) nd4
    refine RD.cat (u4 _ _ upd_same) upd_same (by rw [ec1, ec2, List.length_append, vsts_len, vsts_len, List.length_take, List.length_drop]; exact szl (by simp; omega)) fun d5 nd5 => ?_
    have u5 := (u3.trans u4).trans (RD.same_new (o := .lst (cutV (vsts (wrds l)) none (some (at_ : Int)) ++ [vst wr] ++ cutV (vsts (wrds l)) (some ((at_ : Int) + 1)) none)) nd5)
    have e5 : cutV (vsts (wrds l)) none (some (at_ : Int)) ++ [vst wr] ++ cutV (vsts (wrds l)) (some ((at_ : Int) + 1)) none = vsts ((wrds l).take at_ ++ [wr] ++ (wrds l).drop (at_ + 1)) := by
      rw [ec1, ec2, vsts_app, vsts_app]
      rfl
    walk_at "rd"
    have hmem : ∀ x ∈ (wrds l).take at_ ++ [wr] ++ (wrds l).drop (at_ + 1), x.length ≤ 5000 ∧ 10 ∉ x := fun x hx => by
      rcases List.mem_append.mp hx with hx | hx
      · rcases List.mem_append.mp hx with hx | hx
        · have := List.mem_of_mem_take hx
          exact ⟨by have := hwl x this; omega, hw10 x this⟩
        · rw [List.mem_singleton.mp hx]; exact ⟨hwrl, hwr10⟩
      · have := List.mem_of_mem_drop hx
        exact ⟨by have := hwl x this; omega, hw10 x this⟩
    have hcnt : ((wrds l).take at_ ++ [wr] ++ (wrds l).drop (at_ + 1)).length ≤ 403 := by
      rw [List.length_append, List.length_append, List.length_take, List.length_drop]
      simp
      omega
    refine RD.jnd (K := K) (k := 5000) (ls := (wrds l).take at_ ++ [wr] ++ (wrds l).drop (at_ + 1)) (sq (by rw [upd_same, e5])) (fun x hx => (hmem x hx).1) (by omega) ?_
    refine q _ _ ((s2.trans s3).trans u5) hfin (fun z => ?_) ?_ (fun _ z => ?_) fun z => absurd z (by omega)
    · rcases jn_mem z with z | ⟨x, hx, z⟩
      · exact absurd z (by decide)
      · exact (hmem x hx).2 z
    · have h1 := jn_sum 32 ((wrds l).take at_ ++ [wr] ++ (wrds l).drop (at_ + 1))
      have h2 := swap_sum (wrds l) at_ wr
      show (jn 32 _).length ≤ 6000
      omega
    · have h1 : wr ⊆ jn 32 ((wrds l).take at_ ++ [wr] ++ (wrds l).drop (at_ + 1)) := jn_sub (by simp)
      have z : jn 32 ((wrds l).take at_ ++ [wr] ++ (wrds l).drop (at_ + 1)) = [] := z
      rw [z] at h1
      exact hwrne (List.subset_nil.mp h1)
end
end Pf

namespace TX
open PySem SX MM
/-- a number replaced by another one: no mesh any more -/
theorem not_perm {F : List Nat} {x : Nat} (hx : x ∉ F) (hl : x < F.length) : ¬ F.Perm (List.range F.length) := fun h => hx (h.mem_iff.mpr (List.mem_range.mpr hl))
theorem not_perm_dup {F : List Nat} (h : ¬ F.Nodup) : ¬ F.Perm (List.range F.length) := fun p => h (p.nodup_iff.mpr List.nodup_range)
end TX
namespace Pf
open PySem PySem.Spec PyProof.Rows L2 MM SX TX RD
def NoMesh (cs : List (List Nat)) : Prop := cs ≠ [] ∧ cs.length ≤ 63 ∧ (∀ c ∈ cs, c ≠ [] ∧ ∀ x ∈ c, x < 10000) ∧ cs.flatten.length ≤ 62 ∧ (¬ cs.flatten.Perm (List.range cs.flatten.length) ∨ cs.flatten.length % 2 = 1)
def sp_l_mis : Sp := fun vs H Q _ => ∃ (a : Addr) (cs : List (List Nat)) (ch pl e : Nat), vs = [.ref a, vn ch, vn pl, vn e] ∧ H a = some (.lst (vsts (cs.map line))) ∧ 9 ≤ ch ∧ ch < 12 ∧ pl < 97 ∧ 2 ≤ e ∧ e ≤ 60 ∧ e % 2 = 0 ∧ cs ≠ [] ∧ cs.length ≤ 60 ∧ (∀ c ∈ cs, c ≠ []) ∧ cs.flatten.Perm (List.range e) ∧
  ∀ (H' : Hp) (r : Addr) (cs' : List (List Nat)), Same H H' → H r = none → H' r = some (.lst (vsts (cs'.map line))) → NoMesh cs' → Q (.ref r) H'
theorem s9999 : Str.ofString "9999" = S (TL.numL 9999) := by decide +kernel
theorem split3 {cs : List (List Nat)} {k : Nat} (h : k < cs.length) : cs = cs.take k ++ cs[k] :: cs.drop (k + 1) := by
  conv => lhs; rw [← List.take_append_drop k cs]
  rw [List.drop_eq_getElem_cons h]
section
variable {P : Program} {w : World} {K : PySem.W.Frag} {mg : Str → Option Value} {base : Heap} {A : Ad}
theorem ok_l_miscounted (T : Txt K mg A) : FnOk P w K mg base CX0 1 A.f_l_miscounted A.d_l_miscounted ["_law_lines", "_law_choice", "_law_place", "_law_size_here"] (sp_l_mis) := by
  refine T.F_l_miscounted.ok sc_l_miscounted (fun vs H Q E h => ?_) (fun cdv Ar outer s H vs Q E hr h => ?_)
  · obtain ⟨a, cs, ch, pl, e, rfl, _⟩ := h
    rfl
  · obtain ⟨a, cs, ch, pl, e, rfl, ea, hc1, hc2, hpl, he1, he2, heven, hcs, hcl, hne, hpm, q⟩ := h
    refine ⟨_, (pss_cons (ps_set (i := 4) sc_l_miscounted.nd rfl (Or.inl rfl) (pe_op op_mod (pe_callTy RD.k_int (by rfl) T.z_int (by decide +kernel) (pa_cons (pv 2) pa_nil)) (pe_callB (RD.k_len (K := K) rfl) (by rfl) T.z_len (by decide +kernel) (pa_cons (pv 0) pa_nil))))
      (pss_cons (ps_set (i := 5) sc_l_miscounted.nd rfl (Or.inl rfl) (RD.k_split (pe_ix (RD.k_ixL (K := K) rfl) (pv 0) (pv 4) (fun _ _ => rfl)) pe_str))
      (pss_cons (ps_set (i := 6) sc_l_miscounted.nd rfl (Or.inl rfl) (pe_op op_mod (pe_callTy RD.k_int (by rfl) T.z_int (by decide +kernel) (pa_cons (pv 2) pa_nil)) (pe_callB (RD.k_len (K := K) rfl) (by rfl) T.z_len (by decide +kernel) (pa_cons (pv 5) pa_nil))))
      (pss_cons (ps_if (pt_cmpR op_eq (pv 1) pe_int (nomark _))
      (pss_one (ps_ret (pe_op op_cat (pv 0) (pe_lst (pa_cons (pe_ix (RD.k_ixL (K := K) rfl) (pe_lst (pa_cons (pe_ix (RD.k_ixL (K := K) rfl) (pv 5) (pv 6) (fun _ _ => rfl)) (pa_cons (pe_callTy RD.k_strI (by rfl) T.z_str (by decide +kernel) (pa_cons (pv 3) pa_nil)) pa_nil))) (pe_op op_mod (pe_callTy RD.k_int (by rfl) T.z_int (by decide +kernel) (pa_cons (pv 2) pa_nil)) pe_int) (fun _ _ => rfl)) pa_nil)))))
      pss_nil)
      (RD.pss_cut (ps_if (pt_cmpR op_eq (pv 1) pe_int (nomark _))
      (pss_one (ps_asg (pe_ix (RD.k_ixL (K := K) rfl) (pe_lst (pa_cons (pe_callTy RD.k_strI (by rfl) T.z_str (by decide +kernel) (pa_cons (pv 3) pa_nil)) (pa_cons (pe_callTy RD.k_strI (by rfl) T.z_str (by decide +kernel) (pa_cons (pe_op op_add pe_int (pv 2)) pa_nil)) (pa_cons pe_str pa_nil)))) (pe_op op_mod (pe_callTy RD.k_int (by rfl) T.z_int (by decide +kernel) (pa_cons (pv 2) pa_nil)) pe_int) (fun _ _ => rfl)) (pg_sub (pv 5) (pv 6) set_list)))
      (pss_one (ps_if (pt_cmpR op_gt (pv 2) pe_int (nomark _))
      (pss_one (ps_set (i := 5) sc_l_miscounted.nd rfl (Or.inl rfl) (pe_op op_cat (pe_op op_cat (pe_slice (RD.k_slL (K := K) rfl) (pv 5) po_none (po_some (pv 6))) (pe_lst (pa_cons (pe_ix (RD.k_ixL (K := K) rfl) (pv 5) (pv 6) (fun _ _ => rfl)) pa_nil))) (pe_slice (RD.k_slL (K := K) rfl) (pv 5) (po_some (pv 6)) po_none))))
      (pss_one (ps_asg (pe_callTy RD.k_strI (by rfl) T.z_str (by decide +kernel) (pa_cons (pe_op op_mod (pe_callTy RD.k_int (by rfl) T.z_int (by decide +kernel) (pa_cons (pe_op op_add (pe_callTy RD.k_intS (by rfl) T.z_int (by decide +kernel) (pa_cons (pe_ix (RD.k_ixL (K := K) rfl) (pv 5) (pv 6) (fun _ _ => rfl)) pa_nil)) pe_int) pa_nil)) (pv 3)) pa_nil)) (pg_sub (pv 5) (pv 6) set_list))))))
      (pss_one (ps_ret (pe_op op_cat (pe_op op_cat (pe_slice (RD.k_slL (K := K) rfl) (pv 0) po_none (po_some (pv 4))) (pe_lst (pa_cons (RD.k_join (K := K) rfl pe_str (pv 5)) pa_nil))) (pe_slice (RD.k_slL (K := K) rfl) (pv 0) (po_some (pe_op op_add (pv 4) pe_int)) po_none))))))))), ?_⟩
    show tSeq _ _ _ [some (.ref a), some (vn ch), some (vn pl), some (vn e), none, none, none] H
    have hcp : 0 < cs.length := List.length_pos_iff.mpr hcs
    walk_at "rd"
    rw [l32]
    refine RD.len (K := K) (sq ea) ?_
    rw [vsts_len, List.length_map]
    refine RD.iC (show (0 : Int) < _ by omega) ?_
    walk_at "rd"
    have eat : ((pl : Int) % (cs.length : Int)) = ((pl % cs.length : Nat) : Int) := by omega
    rw [eat]
    have hat : pl % cs.length < cs.length := Nat.mod_lt _ hcp
    generalize pl % cs.length = k at hat ⊢
    have hsp := split3 hat
    have hc0 := hne _ (List.getElem_mem hat)
    have egl : (cs.map line)[k]? = some (line cs[k]) := by rw [List.getElem?_map, List.getElem?_eq_getElem hat]; rfl
    have htk : (cs.map line).take k = (cs.take k).map line := List.map_take.symm
    have hdr : (cs.map line).drop (k + 1) = (cs.drop (k + 1)).map line := List.map_drop.symm
    generalize cs[k] = c at hsp hc0 egl
    have hfl : cs.flatten = (cs.take k).flatten ++ (c ++ (cs.drop (k + 1)).flatten) := by
      conv => lhs; rw [hsp]
      rw [List.flatten_append, List.flatten_cons]
    have hnd : cs.flatten.Nodup := hpm.nodup_iff.mpr List.nodup_range
    have hlt : ∀ x ∈ cs.flatten, x < e := fun x hx => List.mem_range.mp (hpm.mem_iff.mp hx)
    have hlen : cs.flatten.length = e := by have := hpm.length_eq; rw [List.length_range] at this; exact this
    have hA : ∀ d ∈ cs.take k, d ≠ [] ∧ ∀ x ∈ d, x < 10000 := fun d hd => ⟨hne d (List.mem_of_mem_take hd), fun x hx => by have := hlt x (List.mem_flatten.mpr ⟨d, List.mem_of_mem_take hd, hx⟩); omega⟩
    have hB : ∀ d ∈ cs.drop (k + 1), d ≠ [] ∧ ∀ x ∈ d, x < 10000 := fun d hd => ⟨hne d (List.mem_of_mem_drop hd), fun x hx => by have := hlt x (List.mem_flatten.mpr ⟨d, List.mem_of_mem_drop hd, hx⟩); omega⟩
    have hlA : (cs.take k).length + 1 + (cs.drop (k + 1)).length = cs.length := by rw [List.length_take, List.length_drop]; omega
    rw [hfl] at hnd hlen hlt
    have hAn : (cs.take k) = cs.take k := rfl
    generalize hAe : cs.take k = As at *
    generalize hBe : cs.drop (k + 1) = Bs at *
    have hcl2 : c.length ≤ 60 := by rw [List.length_append, List.length_append] at hlen; omega
    have hcb : ∀ x ∈ c, x < 60 := fun x hx => by have := hlt x (by simp [hx]); omega
    have hcp2 : 0 < c.length := List.length_pos_iff.mpr hc0
    refine RD.ixL (sq ea) (at_n (vsts_at egl)) ?_
    refine ⟨⟨_, rfl⟩, ?_⟩
    walk_at "rd"
    have hll := line_len (c := c) fun x hx => by have := hcb x hx; omega
    refine RD.splt (by decide) (by omega) fun W nW => ?_
    rw [show TL.spl [32] 0 [] (line c) = wrds (line c) from rfl, line_words hc0]
    have s0 := RD.same_new (o := .lst (vsts (c.map TL.numL))) nW
    have nW0 : H W = none := nW
    walk_at "rd"
    refine RD.len (K := K) (sq upd_same) ?_
    rw [vsts_len, List.length_map]
    refine RD.iC (show (0 : Int) < _ by omega) ?_
    walk_at "rd"
    have eat2 : ((pl : Int) % (c.length : Int)) = ((pl % c.length : Nat) : Int) := by omega
    rw [eat2]
    have hj : pl % c.length < c.length := Nat.mod_lt _ hcp2
    generalize pl % c.length = j at hj ⊢
    have hcj := List.getElem_mem hj
    have ewj : (c.map TL.numL)[j]? = some (TL.numL c[j]) := by rw [List.getElem?_map, List.getElem?_eq_getElem hj]; rfl
    have hcs2 : c = c.take j ++ c[j] :: c.drop (j + 1) := by
      conv => lhs; rw [← List.take_append_drop j c]
      rw [List.drop_eq_getElem_cons hj]
    have hset : ∀ y, c.set j y = c.take j ++ y :: c.drop (j + 1) := fun y => List.set_eq_take_append_cons_drop.trans (if_pos hj)
    have hxc := hcb _ hcj
    generalize hx0 : c[j] = x at hcj ewj hcs2 hxc
    -- the ends of all three
    have nd2 := hnd
    rw [hcs2] at nd2
    have hmis : ∀ y, y < 10000 → y ≠ x → NoMesh (As ++ (c.set j y) :: Bs) := fun y hy hyx => by
      refine ⟨by simp, by rw [List.length_append, List.length_cons]; omega, fun d hd => ?_, ?_, .inl (not_perm (x := x) ?_ ?_)⟩
      · rcases List.mem_append.mp hd with hd | hd
        · exact hA d hd
        · rcases List.mem_cons.mp hd with hd | hd
          · subst hd
            refine ⟨fun z => hc0 (List.eq_nil_of_length_eq_zero (by rw [← List.length_set (a := y) (i := j), z]; rfl)), fun z hz => ?_⟩
            rcases List.mem_or_eq_of_mem_set hz with hz | hz
            · have := hcb z hz; omega
            · omega
          · exact hB d hd
      · rw [List.flatten_append, List.flatten_cons, List.length_append, List.length_append, List.length_set]
        rw [List.length_append, List.length_append] at hlen
        omega
      · rw [List.flatten_append, List.flatten_cons, hset]
        simp only [List.nodup_append, List.nodup_cons, List.mem_append, List.mem_cons] at nd2
        simp only [List.mem_append, List.mem_cons, not_or]
        obtain ⟨n1, ⟨n2, n3, n4⟩, n5⟩ := nd2
        obtain ⟨n6, n7, n8⟩ := n2
        refine ⟨fun z => n5 x z x (.inl (.inr (.inl rfl))) rfl, ⟨⟨fun z => n8 x z x (.inl rfl) rfl, fun z => hyx z.symm, n7.1⟩, fun z => n4 x (.inr (.inl rfl)) x z rfl⟩⟩
      · rw [List.flatten_append, List.flatten_cons, List.length_append, List.length_append, List.length_set]
        rw [List.length_append, List.length_append] at hlen
        have := hlt x (by rw [hcs2]; simp)
        omega
    have fin : ∀ (σ5 : Addr) (H3 : Hp) (c' : List Nat), Same H H3 → H3 σ5 = some (.lst (vsts (c'.map TL.numL))) → c'.length ≤ 61 → (∀ x ∈ c', x < 10000) → NoMesh (As ++ c' :: Bs) →
        tRet (tOp rCat (tOp rCat (L2.tSl (rSlL K) (tVar 0) tNoPart (tPart (tVar 4))) (tLst (tCons (tM1 (RD.rJoin K) (tC (.str " ")) (tVar 5)) tNil))) (L2.tSl (rSlL K) (tVar 0) (tPart (tOp (rI0 fun i j => .int (i + j)) (tVar 4) (tC (.int 1)))) tNoPart)) ⟨fun _ H' => Q .non H', Q, fun _ _ => False, fun _ _ => False⟩
          [some (.ref a), some (vn ch), some (vn pl), some (vn e), some (vn k), some (.ref σ5), some (vn j)] H3 := by
      intro σ5 H3 c' s3 e3 hl3 hb3 hno
      walk_at "rd"
      refine RD.slL (sq (s3 _ _ ea)) fun d1 nd1 => ?_
      rw [show cutV (vsts (cs.map line)) none (some (k : Int)) = vsts (As.map line) from (cut1 vst (cs.map line) k).trans (by rw [htk]; rfl)]
      have u1 := RD.same_new (o := .lst (vsts (As.map line))) nd1
      walk_at "rd"
      refine ⟨⟨_, rfl⟩, ?_⟩
      walk_at "rd"
      rw [l32]
      refine RD.jnd (K := K) (k := 4) (ls := c'.map TL.numL) (sq (u1 _ _ e3)) (fun l hl => ?_) (by rw [List.length_map]; omega) ?_
      · obtain ⟨n, hn, rfl⟩ := List.mem_map.mp hl
        exact num4 (hb3 n hn)
      show tNil _ _ _
      walk_at "rd"
      refine ⟨szl (by simp), fun d2 nd2 => ?_⟩
      have u2 := RD.same_new (o := .lst [vst (line c')]) nd2
      refine RD.cat (u2 _ _ upd_same) upd_same (by rw [vsts_len, List.length_map]; exact szl (by simp; omega)) fun d3 nd3 => ?_
      have u3 := (u1.trans u2).trans (RD.same_new (o := .lst (vsts (As.map line) ++ [vst (line c')])) nd3)
      walk_at "rd"
      refine RD.slL (sq (u3 _ _ (s3 _ _ ea))) fun d4 nd4 => ?_
      rw [show cutV (vsts (cs.map line)) (some ((k : Int) + 1)) none = vsts (Bs.map line) from by
        rw [show ((k : Int) + 1) = ((k + 1 : Nat) : Int) by omega]
        exact (cut2 vst (cs.map line) (k + 1)).trans (by rw [hdr]; rfl)]
      have u4 := RD.same_new (o := .lst (vsts (Bs.map line))) nd4
      refine RD.cat (u4 _ _ upd_same) upd_same (by rw [List.length_append, vsts_len, vsts_len, List.length_map, List.length_map]; exact szl (by simp; omega)) fun d5 nd5 => ?_
      have sF := (s3.trans u3).trans u4
      refine q _ d5 (As ++ c' :: Bs) (sF.trans (RD.same_new nd5)) (sF.free nd5) ?_ hno
      rw [upd_same, List.map_append, vsts_app, List.map_cons]
      simp [vsts]
      rfl
    refine RD.dec (fun d11 => ?_) (fun d11 => ?_)
    · -- a line too much
      walk_at "rd"
      refine RD.ixL (sq upd_same) (at_n (vsts_at ewj)) ?_
      walk_at "rd"
      refine RD.strN (by omega) ?_
      walk_at "rd"
      refine ⟨szl (by simp), fun d1 nd1 => ?_⟩
      have u1 := s0.trans (RD.same_new (o := .lst [vst (TL.numL x), vst (TL.numL e)]) nd1)
      walk_at "rd"
      refine RD.iC (by decide) ?_
      obtain ⟨v, ev, hv⟩ := at2 (a := vst (TL.numL x)) (b := vst (TL.numL e)) pl
      obtain ⟨y, rfl, hy⟩ : ∃ y, v = vst (TL.numL y) ∧ (y = x ∨ y = e) := by
        rcases hv with rfl | rfl
        · exact ⟨x, rfl, .inl rfl⟩
        · exact ⟨e, rfl, .inr rfl⟩
      refine RD.ixL (sq upd_same) ev ?_
      walk_at "rd"
      refine ⟨szl (by simp), fun d2 nd2 => ?_⟩
      have u2 := u1.trans (RD.same_new (o := .lst [vst (TL.numL y)]) nd2)
      refine RD.cat (u2 _ _ ea) upd_same (by rw [vsts_len, List.length_map]; exact szl (by simp; omega)) fun d3 nd3 => ?_
      refine q _ d3 (cs ++ [[y]]) (u2.trans (RD.same_new nd3)) (u2.free nd3) (by rw [upd_same, List.map_append, vsts_app]; rfl) ?_
      rw [hfl.symm] at hnd hlen hlt
      refine ⟨by simp, by rw [List.length_append]; simp; omega, fun d hd => ?_, by rw [List.flatten_append, List.length_append, hlen]; simp; omega, ?_⟩
      · rcases List.mem_append.mp hd with hd | hd
        · exact ⟨hne d hd, fun z hz => by have := hlt z (List.mem_flatten.mpr ⟨d, hd, hz⟩); omega⟩
        · rw [List.mem_singleton.mp hd]
          refine ⟨by simp, fun z hz => ?_⟩
          rw [List.mem_singleton.mp hz]
          omega
      · rcases hy with rfl | rfl
        · left
          refine not_perm_dup fun z => ?_
          rw [List.flatten_append, List.nodup_append] at z
          exact z.2.2 y (by rw [hfl, hcs2]; simp) y (by simp) rfl
        · right
          rw [List.flatten_append, List.length_append, hlen]
          simp
          omega
    walk_at "rd"
    have hsetv : ∀ y, (vsts (c.map TL.numL)).set j (vst (TL.numL y)) = vsts ((c.set j y).map TL.numL) := fun y => by
      unfold vsts
      rw [List.map_map, List.map_map, List.map_set]
      rfl
    have hsb : ∀ y, y < 10000 → (c.set j y).length ≤ 61 ∧ ∀ z ∈ c.set j y, z < 10000 := fun y hy => ⟨by rw [List.length_set]; omega, fun z hz => by
      rcases List.mem_or_eq_of_mem_set hz with hz | hz
      · have := hcb z hz; omega
      · omega⟩
    refine RD.cut (fun σ H3 => ∃ (s5 : Addr) (c' : List Nat), σ = [some (.ref a), some (vn ch), some (vn pl), some (vn e), some (vn k), some (.ref s5), some (vn j)] ∧ Same H H3 ∧ H3 s5 = some (.lst (vsts (c'.map TL.numL))) ∧ c'.length ≤ 61 ∧ (∀ x ∈ c', x < 10000) ∧ NoMesh (As ++ c' :: Bs)) ?_ ?_
    · walk_at "rd"
      refine RD.dec (fun d9 => ?_) (fun d9 => ?_)
      · walk_at "rd"
        refine RD.strN (by omega) ?_
        walk_at "rd"
        rw [show ((100 : Int) + (pl : Int)) = ((100 + pl : Nat) : Int) by omega]
        refine RD.strN (by omega) ?_
        walk_at "rd"
        rw [s9999]
        refine ⟨szl (by simp), fun d1 nd1 => ?_⟩
        have u1 := s0.trans (RD.same_new (o := .lst [vst (TL.numL e), vst (TL.numL (100 + pl)), vst (TL.numL 9999)]) nd1)
        have eW1 := (RD.same_new (o := .lst [vst (TL.numL e), vst (TL.numL (100 + pl)), vst (TL.numL 9999)]) nd1) _ _ (upd_same (H := H) (a := W) (o := .lst (vsts (c.map TL.numL))))
        walk_at "rd"
        refine RD.iC (by decide) ?_
        obtain ⟨v, ev, hv⟩ := at3 (a := vst (TL.numL e)) (b := vst (TL.numL (100 + pl))) (c := vst (TL.numL 9999)) pl
        have hxe : x < e := hlt x (by rw [hcs2]; simp)
        obtain ⟨y, rfl, hy1, hy2⟩ : ∃ y, v = vst (TL.numL y) ∧ y < 10000 ∧ y ≠ x := by
          rcases hv with rfl | rfl | rfl
          · exact ⟨e, rfl, by omega, by omega⟩
          · exact ⟨100 + pl, rfl, by omega, by omega⟩
          · exact ⟨9999, rfl, by omega, by omega⟩
        refine RD.ixL (sq upd_same) ev ?_
        walk_at "rd"
        refine RD.setL eW1 (by rw [vsts_len, List.length_map]; exact ix_n hj) ?_
        rw [hsetv]
        exact ⟨W, c.set j y, rfl, RD.same_mut u1 nW0, upd_same, (hsb y hy1).1, (hsb y hy1).2, hmis y hy1 hy2⟩
      · walk_at "rd"
        refine RD.dec (fun d40 => ?_) (fun d40 => ?_)
        · walk_at "rd"
          refine RD.slL (sq upd_same) fun d1 nd1 => ?_
          rw [show cutV (vsts (c.map TL.numL)) none (some (j : Int)) = vsts ((c.take j).map TL.numL) from (cut1 vst (c.map TL.numL) j).trans (by rw [← List.map_take]; rfl)]
          have v1 := RD.same_new (o := .lst (vsts ((c.take j).map TL.numL))) nd1
          have eW1 := v1 _ _ (upd_same (H := H) (a := W) (o := .lst (vsts (c.map TL.numL))))
          walk_at "rd"
          refine RD.ixL (sq eW1) (at_n (vsts_at ewj)) ?_
          walk_at "rd"
          refine ⟨szl (by simp), fun d2 nd2 => ?_⟩
          have v2 := RD.same_new (o := .lst [vst (TL.numL x)]) nd2
          refine RD.cat (v2 _ _ upd_same) upd_same (by rw [vsts_len, List.length_map, List.length_take]; exact szl (by simp; omega)) fun d3 nd3 => ?_
          have v3 := RD.same_new (o := .lst (vsts ((c.take j).map TL.numL) ++ [vst (TL.numL x)])) nd3
          walk_at "rd"
          refine RD.slL (sq (v3 _ _ (v2 _ _ eW1))) fun d4 nd4 => ?_
          rw [show cutV (vsts (c.map TL.numL)) (some (j : Int)) none = vsts ((c.drop j).map TL.numL) from (cut2 vst (c.map TL.numL) j).trans (by rw [← List.map_drop]; rfl)]
          have v4 := RD.same_new (o := .lst (vsts ((c.drop j).map TL.numL))) nd4
          refine RD.cat (v4 _ _ upd_same) upd_same (by rw [List.length_append, vsts_len, vsts_len, List.length_map, List.length_map, List.length_take, List.length_drop]; exact szl (by simp; omega)) fun d5 nd5 => ?_
          have sF := (((s0.trans v1).trans v2).trans v3).trans v4
          walk_at "rd"
          have hdl : (c.take j ++ [x] ++ c.drop j).length = c.length + 1 := by
            rw [List.length_append, List.length_append, List.length_take, List.length_drop]
            simp
            omega
          have hdb : ∀ z ∈ c.take j ++ [x] ++ c.drop j, z < 10000 := fun z hz => by
            rcases List.mem_append.mp hz with hz | hz
            · rcases List.mem_append.mp hz with hz | hz
              · have := hcb z (List.mem_of_mem_take hz); omega
              · rw [List.mem_singleton.mp hz]; omega
            · have := hcb z (List.mem_of_mem_drop hz); omega
          refine ⟨d5, c.take j ++ [x] ++ c.drop j, rfl, sF.trans (RD.same_new nd5), ?_, by omega, hdb, ?_⟩
          · rw [upd_same, List.map_append, List.map_append, vsts_app, vsts_app]
            rfl
          · refine ⟨by simp, by rw [List.length_append, List.length_cons]; omega, fun d hd => ?_, ?_, .inl (not_perm_dup fun z => ?_)⟩
            · rcases List.mem_append.mp hd with hd | hd
              · exact hA d hd
              · rcases List.mem_cons.mp hd with hd | hd
                · subst hd
                  exact ⟨by simp, hdb⟩
                · exact hB d hd
            · rw [List.flatten_append, List.flatten_cons, List.length_append, List.length_append, hdl]
              rw [List.length_append, List.length_append] at hlen
              omega
            · rw [List.flatten_append, List.flatten_cons, List.nodup_append] at z
              have z2 := z.2.1
              rw [List.nodup_append] at z2
              have z3 := z2.1
              rw [List.nodup_append] at z3
              refine z3.2.2 x (by simp) x ?_ rfl
              rw [List.drop_eq_getElem_cons hj, hx0]
              exact List.mem_cons_self
        · walk_at "rd"
          refine RD.ixL (sq upd_same) (at_n (vsts_at ewj)) ?_
          walk_at "rd"
          refine ⟨S (TL.numL x), (x : Int), rfl, ?_, by rw [S_len]; have := num4 (n := x) (by omega); omega, ?_⟩
          · have := TL.int_num (n := x) (by have := num4 (n := x) (by omega); omega)
            rw [num_S] at this
            exact this
          walk_at "rd"
          refine RD.iC (show (0 : Int) < _ by omega) ?_
          walk_at "rd"
          rw [show (((x : Int) + 1) % (e : Int)) = (((x + 1) % e : Nat) : Int) by rw [show ((x : Int) + 1) = ((x + 1 : Nat) : Int) by omega]; exact (Int.natCast_emod (x + 1) e).symm]
          have hxe : x < e := hlt x (by rw [hcs2]; simp)
          have hm : (x + 1) % e < e := Nat.mod_lt _ (by omega)
          have hne2 : (x + 1) % e ≠ x := by
            rcases Nat.lt_or_ge (x + 1) e with h | h
            · rw [Nat.mod_eq_of_lt h]; omega
            · have : x + 1 = e := by omega
              rw [this, Nat.mod_self]; omega
          refine RD.strN (by omega) ?_
          walk_at "rd"
          refine RD.setL upd_same (by rw [vsts_len, List.length_map]; exact ix_n hj) ?_
          rw [hsetv]
          exact ⟨W, _, rfl, RD.same_mut s0 nW0, upd_same, (hsb _ (by omega)).1, (hsb _ (by omega)).2, hmis _ (by omega) hne2⟩
    · rintro σ H3 ⟨s5, c', rfl, s3, e3, hl3, hb3, hno⟩
      exact fin s5 H3 c' s3 e3 hl3 hb3 hno
end
end Pf

namespace Pf
open PySem PySem.Spec PyProof.Rows L2
def sp_law (K : PySem.W.Frag) : Sp := fun vs H Q _ => ∃ (a : Addr) (ns : List Int), vs = [.ref a] ∧ SqL K H a (ns.map V.int) ∧ ns.length ≤ 63 ∧ ∀ H', Q (.bl true) H'
end Pf

namespace TX
open PySem SX MM
theorem prs_at {c : List Nat} {i : Nat} (hi : i < c.length) : (prs c)[i]? = some (fn c i, fn c ((i + 1) % c.length)) := by
  unfold prs
  rw [List.getElem?_zip_eq_some]
  refine ⟨fn_at hi, ?_⟩
  rcases Nat.lt_or_ge (i + 1) c.length with h | h
  · rw [List.getElem?_append_left (by rw [List.length_drop]; omega), List.getElem?_drop, Nat.add_comm 1 i, Nat.mod_eq_of_lt h]
    exact fn_at h
  · have e : i + 1 = c.length := by omega
    rw [List.getElem?_append_right (by rw [List.length_drop]; omega), List.length_drop, List.getElem?_take_of_lt (by omega), show i - (c.length - 1) = 0 by omega, e, Nat.mod_self]
    exact fn_at (by omega)
theorem rot_of {ns c : List Nat} (h : ∀ i, i < c.length → fn ns (fn c i) = fn c ((i + 1) % c.length)) : Rot ns c := fun p hp => by
  obtain ⟨i, hi⟩ := List.getElem?_of_mem hp
  have hl : i < c.length := by
    have h1 := (List.getElem?_eq_some_iff.mp hi).1
    have h2 : (prs c).length = c.length := by rw [← List.length_map (f := (·.1)), prs_keys]
    omega
  rw [prs_at hl] at hi
  cases hi
  exact h i hl
theorem rot_cyc {ns : List Nat} (p : PermOn (fn ns) ns.length) {h : Nat} (hh : h < ns.length) : ∀ i, i < (cyc (fn ns) ns.length h).length → fn ns (fn (cyc (fn ns) ns.length h) i) = fn (cyc (fn ns) ns.length h) ((i + 1) % (cyc (fn ns) ns.length h).length) := by
  intro i hi
  have f1 : ∀ j, j < (cyc (fn ns) ns.length h).length → fn (cyc (fn ns) ns.length h) j = it (fn ns) j h := fun j hj => by
    have := cyc_at p hh hj
    rw [fn_at hj] at this
    exact Option.some.inj this
  rw [f1 i hi]
  rcases Nat.lt_or_ge (i + 1) (cyc (fn ns) ns.length h).length with hl | hl
  · rw [Nat.mod_eq_of_lt hl, f1 _ hl]
    rfl
  · have e : i + 1 = (cyc (fn ns) ns.length h).length := by omega
    rw [e, Nat.mod_self, f1 0 (by omega)]
    show it (fn ns) (i + 1) h = h
    rw [e, cyc_end p hh]
theorem fn_turn {d : List Nat} {k i : Nat} (hk : k < d.length) (hi : i < d.length) : fn (d.drop k ++ d.take k) i = fn d ((i + k) % d.length) := by
  unfold fn
  rw [List.getD_eq_getElem?_getD, List.getD_eq_getElem?_getD]
  congr 1
  rcases Nat.lt_or_ge i (d.length - k) with h | h
  · rw [List.getElem?_append_left (by rw [List.length_drop]; exact h), List.getElem?_drop, Nat.mod_eq_of_lt (by omega), Nat.add_comm]
  · rw [List.getElem?_append_right (by rw [List.length_drop]; exact h), List.length_drop, List.getElem?_take_of_lt (by omega)]
    have : (i + k) % d.length = i - (d.length - k) := by
      rw [Nat.mod_eq_sub_mod (by omega), Nat.mod_eq_of_lt (by omega)]
      omega
    rw [this]
theorem rot_turn {ns d : List Nat} {k : Nat} (hk : k < d.length) (h : ∀ i, i < d.length → fn ns (fn d i) = fn d ((i + 1) % d.length)) : Rot ns (d.drop k ++ d.take k) := by
  have hl : (d.drop k ++ d.take k).length = d.length := by rw [List.length_append, List.length_drop, List.length_take]; omega
  refine rot_of fun i hi => ?_
  rw [hl] at hi ⊢
  rw [fn_turn hk hi, fn_turn hk (Nat.mod_lt _ (by omega)), h _ (Nat.mod_lt _ (by omega))]
  congr 1
  rw [Nat.mod_add_mod, Nat.mod_add_mod]
  congr 1
  omega
theorem flat_all {ns : List Nat} (m : IsMesh ns) : (rnds (fn ns) ns.length ns.length).flatten.Perm (List.range ns.length) := by
  refine (List.perm_ext_iff_of_nodup (rnds_nodup m.fnp _ (Nat.le_refl _)) List.nodup_range).mpr fun x => ?_
  rw [mem_flat, List.mem_range]
  constructor
  · rintro ⟨g, hg, _, hx⟩
    exact cyc_lt m.fnp hg hx
  · intro hx
    obtain ⟨g, hg, hgc, hm⟩ := has_min m.fnp hx
    exact ⟨g, by omega, hm, cyc_symm m.fnp hx hgc⟩
/-- what is read of lines of numbers -/
theorem read_lines {cs : List (List Nat)} (hne : cs ≠ []) (hc : ∀ c ∈ cs, c ≠ [] ∧ ∀ x ∈ c, x < 10000) : lns (jn 10 (cs.map line)) = cs.map line ∧ (∀ l ∈ lns (jn 10 (cs.map line)), bad l = false) ∧ (lns (jn 10 (cs.map line))).map mems = cs := by
  have e : lns (jn 10 (cs.map line)) = cs.map line := lns_jn (fun z => hne (List.map_eq_nil_iff.mp z)) fun l hl => by
    obtain ⟨c, _, rfl⟩ := List.mem_map.mp hl
    exact line_free (by decide) (.inl (by decide))
  refine ⟨e, ?_, ?_⟩
  · rw [e]
    intro l hl
    obtain ⟨c, h, rfl⟩ := List.mem_map.mp hl
    exact (line_good (hc c h).1 (hc c h).2).1
  · rw [e, List.map_map]
    conv => rhs; rw [← List.map_id cs]
    exact List.map_congr_left fun c h => (line_good (hc c h).1 (hc c h).2).2
theorem jn_ne {c : Nat} {ls : List (List Nat)} (h : 2 ≤ ls.length ∨ ∃ l ∈ ls, l ≠ []) : jn c ls ≠ [] := by
  intro z
  rcases h with h | ⟨l, hl, hn⟩
  · match ls, h with
    | a :: b :: r, _ =>
      rw [jn_cons (by simp)] at z
      simp at z
  · have := jn_sub (c := c) hl
    rw [z] at this
    exact hn (List.subset_nil.mp this)
theorem line_ne {c : List Nat} (h : c ≠ []) : line c ≠ [] := by
  cases c with
  | nil => exact absurd rfl h
  | cons x r => exact jn_ne (.inr ⟨TL.numL x, by simp, TL.numL_ne x⟩)
theorem sum_small : ∀ (ls : List (List Nat)) (k : Nat), (∀ l ∈ ls, l.length ≤ k) → (ls.map List.length).sum ≤ ls.length * k
  | [], _, _ => by simp
  | l :: r, k, h => by
    have h1 := sum_small r k fun x hx => h x (List.mem_cons_of_mem _ hx)
    have h2 := h l List.mem_cons_self
    simp only [List.map_cons, List.sum_cons, List.length_cons, Nat.succ_mul]
    omega
theorem line_x {c : List Nat} (h : c ≠ []) : wrds (line c ++ [32, 120]) = c.map TL.numL ++ [[120]] := by
  have e : line c ++ [32, 120] = jn 32 (c.map TL.numL ++ [[120]]) := by
    rw [jn_app _ _ (fun z => h (List.map_eq_nil_iff.mp z)) (by simp)]
    rfl
  rw [e]
  refine wrds_jn (by simp) fun w hw => ?_
  rcases List.mem_append.mp hw with hw | hw
  · obtain ⟨n, _, rfl⟩ := List.mem_map.mp hw
    exact num_free (.inl (by decide))
  · rw [List.mem_singleton.mp hw]; decide
end TX
namespace Pf
open PySem PySem.Spec PyProof.Rows L2 MM SX TX RD
theorem mixed_ok {ns : List Nat} (m : IsMesh ns) {cs : List (List Nat)} (h : Mixed cs (rnds (fn ns) ns.length ns.length)) : cs.flatten.Perm (List.range ns.length) ∧ (∀ c ∈ cs, c ≠ [] ∧ Rot ns c ∧ (∀ x ∈ c, x < ns.length)) ∧ cs.length = (rnds (fn ns) ns.length ns.length).length := by
  obtain ⟨ds, pm, tu⟩ := h
  have hmem : ∀ d ∈ ds, ∃ g, g < ns.length ∧ d = cyc (fn ns) ns.length g := fun d hd => by
    obtain ⟨g, hg, _, e⟩ := (mem_rnds _).mp (pm.mem_iff.mp hd)
    exact ⟨g, hg, e⟩
  have key : ∀ {cs ds : List (List Nat)}, Paired Turned cs ds → (∀ d ∈ ds, ∃ g, g < ns.length ∧ d = cyc (fn ns) ns.length g) → cs.flatten.Perm ds.flatten ∧ ∀ c ∈ cs, c ≠ [] ∧ Rot ns c ∧ (∀ x ∈ c, x < ns.length) := by
    intro cs ds tu
    induction tu with
    | nil => intro _; exact ⟨List.Perm.refl _, fun c hc => nomatch hc⟩
    | @cons c d cs' ds' r t ih =>
      intro hm
      obtain ⟨i1, i2⟩ := ih fun d hd => hm d (List.mem_cons_of_mem _ hd)
      obtain ⟨k, hk, rfl⟩ := r
      obtain ⟨g, hg, rfl⟩ := hm d List.mem_cons_self
      have hp : (List.drop k (cyc (fn ns) ns.length g) ++ List.take k (cyc (fn ns) ns.length g)).Perm (cyc (fn ns) ns.length g) := by
        refine List.perm_append_comm.trans ?_
        rw [List.take_append_drop]
      refine ⟨?_, fun c hc => ?_⟩
      · rw [List.flatten_cons, List.flatten_cons]
        exact List.Perm.append hp i1
      · rcases List.mem_cons.mp hc with hc | hc
        · subst hc
          refine ⟨fun z => ?_, rot_turn hk (rot_cyc m.fnp hg), fun x hx => cyc_lt m.fnp hg (hp.mem_iff.mp hx)⟩
          have := hp.length_eq
          rw [z, List.length_nil] at this
          omega
        · exact i2 c hc
  obtain ⟨k1, k2⟩ := key tu hmem
  refine ⟨k1.trans (pm.flatten.trans (flat_all m)), k2, ?_⟩
  rw [paired_len tu, pm.length_eq]
theorem self_mixed {ns : List Nat} (m : IsMesh ns) : Mixed (rnds (fn ns) ns.length ns.length) (rnds (fn ns) ns.length ns.length) := by
  refine ⟨_, List.Perm.refl _, ?_⟩
  have : ∀ xss : List (List Nat), (∀ c ∈ xss, 0 < c.length) → Paired Turned xss xss := by
    intro xss
    induction xss with
    | nil => intro _; exact .nil
    | cons c r ih => intro h; exact .cons ⟨0, h c List.mem_cons_self, by simp⟩ (ih fun d hd => h d (List.mem_cons_of_mem _ hd))
  exact this _ fun c hc => (rnds_each m.fnp (Nat.le_refl _) hc).2
/-- read_mesh of the mesh's lines -/
theorem read_ok {A : Ad} {H : Hp} {Q : VK} {E : XK} {ns : List Nat} {cs : List (List Nat)} (m : IsMesh ns) (hl : ns.length ≤ 60) (hx : Mixed cs (rnds (fn ns) ns.length ns.length))
    (q : ∀ (H' : Hp) (p a b : Addr), Same H H' → H p = none → H a = none → H b = none → MeshAt A H' p a b ns → Q (.ref p) H') : sp_read_mesh A [vst (jn 10 (cs.map line))] H Q E := by
  obtain ⟨pm, each, hlen⟩ := mixed_ok m hx
  have hfl : cs.flatten.length = ns.length := by have := pm.length_eq; rw [List.length_range] at this; exact this
  have hcl : cs.length ≤ 60 := by
    have := rnds_len (f := fn ns) (n := ns.length) ns.length
    omega
  have hb : ∀ c ∈ cs, c ≠ [] ∧ ∀ x ∈ c, x < 10000 := fun c hc => ⟨(each c hc).1, fun x hx => by have := (each c hc).2.2 x hx; omega⟩
  have hsz : (jn 10 (cs.map line)).length ≤ 40000 := by
    have h1 := jn_len (c := 10) (cs.map line) 300 fun l hl' => by
      obtain ⟨c, hc, rfl⟩ := List.mem_map.mp hl'
      have h2 := line_len (hb c hc).2
      have h3 : c.length ≤ cs.flatten.length := (List.sublist_flatten_of_mem hc).length_le
      omega
    rw [List.length_map] at h1
    omega
  refine ⟨_, rfl, hsz, ?_⟩
  by_cases hc : cs = []
  · subst hc
    left
    refine ⟨rfl, ?_⟩
    have : ns = [] := List.eq_nil_of_length_eq_zero (by rw [← hfl]; rfl)
    subst this
    exact q
  · right; right
    obtain ⟨e1, e2, e3⟩ := read_lines hc hb
    have e4 : allC (jn 10 (cs.map line)) = cs := e3
    obtain ⟨c0, r0, hcs⟩ : ∃ c0 r0, cs = c0 :: r0 := by
      cases cs with
      | nil => exact absurd rfl hc
      | cons c r => exact ⟨c, r, rfl⟩
    refine ⟨jn_ne (.inr ⟨line c0, by rw [hcs]; simp, line_ne (hb c0 (by rw [hcs]; simp)).1⟩), e2, by rw [e4]; omega, .inr ⟨ns, m, by rw [e4]; exact pm, fun c h => (each c (by rw [e4] at h; exact h)).2.1, q⟩⟩
def dTold (i : Nat) : PyData := .list [.str "line", .int ((i : Nat) : Int), .bool true]
def dMesh : PyData := .list [.str "mesh", .bool true]
theorem lay_told (i : Nat) : PyData.canLay0 (dTold i) = true := by
  unfold dTold
  simp only [PyData.canLay0, PyData.canLayAll0, Bool.and_true]
  decide +kernel
theorem lay_mesh : PyData.canLay0 dMesh = true := by decide +kernel
theorem sh_told (i : Nat) : SeqAt.shaped (dTold i) = true := by
  unfold SeqAt.shaped
  rw [lay_told]
  simp [dTold, PyData.depth, PyData.depthAll]
theorem sh_mesh : SeqAt.shaped dMesh = true := by decide +kernel
theorem dp_told {K : PySem.W.Frag} {H : Hp} {a : Addr} {i : Nat} (h : H a = some (.lst [.str "line", vn i, .bl true])) : Dp K H (.ref a) (dTold i) := .lst (sq h) (.cons (.str _) (.cons (.int _) (.cons (.bl _) .nil)))
theorem dp_mesh {K : PySem.W.Frag} {H : Hp} {a : Addr} (h : H a = some (.lst [.str "mesh", .bl true])) : Dp K H (.ref a) dMesh := .lst (sq h) (.cons (.str _) (.cons (.bl _) .nil))
theorem lx : Str.ofString " x" = S [32, 120] := by decide +kernel
theorem l7x : Str.ofString "7 x" = S [55, 32, 120] := by decide +kernel
theorem bad7x : bad [55, 32, 120] = true := by decide +kernel
theorem bad32 : bad [32] = true := bad_front
end Pf

namespace Pf
open PySem PySem.Spec PyProof.Rows L2 MM SX TX RD
section
variable {P : Program} {w : World} {K : PySem.W.Frag} {mg : Str → Option Value} {base : Heap} {A : Ad}
theorem ok_law (T : Txt K mg A) : FnOk P w K mg base CX0 6 A.f_law A.d_law ["_law_script"] (sp_law K) := by
  have G_l_tape := ok_l_tape (P := P) (w := w) (base := base) T
  have G_l_pick := ok_l_pick (P := P) (w := w) (base := base) T
  have G_l_size := ok_l_size (P := P) (w := w) (base := base) T
  have G_l_nexts := ok_l_nexts (P := P) (w := w) (base := base) T
  have G_Mesh_d_initd_ := ok_Mesh_d_initd_ (P := P) (w := w) (base := base) T
  have G_l_rounds := ok_l_rounds (P := P) (w := w) (base := base) T
  have G_l_line := ok_l_line (P := P) (w := w) (base := base) T
  have G_l_mixed := ok_l_mixed (P := P) (w := w) (base := base) T
  have G_Mesh_d_eqd_ := ok_Mesh_d_eqd_ (P := P) (w := w) (base := base) T
  have G_read_mesh := ok_read_mesh (P := P) (w := w) (base := base) T
  have G_Mesh_text := ok_Mesh_text (P := P) (w := w) (base := base) T
  have G_l_told := ok_l_told (P := P) (w := w) (base := base) T
  have G_l_spoilt := ok_l_spoilt (P := P) (w := w) (base := base) T
  have G_l_miscounted := ok_l_miscounted (P := P) (w := w) (base := base) T
  refine T.F_law.ok sc_law (fun vs H Q E h => ?_) (fun cdv Ar outer s H vs Q E hr h => ?_)
  · obtain ⟨a, ns, rfl, _⟩ := h
    rfl
  · obtain ⟨a, zs, rfl, hS, hlen, q⟩ := h
    refine ⟨_, (pss_cons (ps_set (i := 1) sc_law.nd rfl (Or.inl rfl) (pe_call G_l_tape (hr.mono (by decide)) (by rfl) T.g_l_tape T.F_l_tape.kp T.b_l_tape .nil pass0 (pa_cons (pv 0) (pa_cons pe_int pa_nil))))
      (pss_cons (ps_set (i := 2) sc_law.nd rfl (Or.inl rfl) (pe_call G_l_pick (hr.mono (by decide)) (by rfl) T.g_l_pick T.F_l_pick.kp T.b_l_pick .nil pass0 (pa_cons (pv 1) (pa_cons pe_int pa_nil))))
      (RD.pss_cut (ps_set (i := 3) sc_law.nd rfl (Or.inl rfl) (pe_cmpR op_eq (pe_call G_l_pick (hr.mono (by decide)) (by rfl) T.g_l_pick T.F_l_pick.kp T.b_l_pick .nil pass0 (pa_cons (pv 1) (pa_cons pe_int pa_nil))) pe_int (nomark _)))
      (pss_cons (ps_set (i := 4) sc_law.nd rfl (Or.inl rfl) (pe_call G_l_pick (hr.mono (by decide)) (by rfl) T.g_l_pick T.F_l_pick.kp T.b_l_pick .nil pass0 (pa_cons (pv 1) (pa_cons pe_int pa_nil))))
      (pss_cons (ps_set (i := 5) sc_law.nd rfl (Or.inl rfl) (pe_call G_l_size (hr.mono (by decide)) (by rfl) T.g_l_size T.F_l_size.kp T.b_l_size .nil pass0 (pa_cons (pv 1) pa_nil)))
      (RD.pss_cut (ps_if (pt_cmpR op_lt (pv 2) pe_int (nomark _))
      (pss_one (ps_set (i := 5) sc_law.nd rfl (Or.inl rfl) (pe_callB (RD.k_max2 rfl) (by rfl) T.z_max (by decide +kernel) (pa_cons pe_int (pa_cons (pv 5) pa_nil)))))
      pss_nil)
      (pss_cons (ps_set (i := 6) sc_law.nd rfl (Or.inl rfl) (pe_call G_l_nexts (hr.mono (by decide)) (by rfl) T.g_l_nexts T.F_l_nexts.kp T.b_l_nexts .nil pass0 (pa_cons (pe_call G_l_tape (hr.mono (by decide)) (by rfl) T.g_l_tape T.F_l_tape.kp T.b_l_tape .nil pass0 (pa_cons (pv 0) (pa_cons pe_int pa_nil))) (pa_cons (pv 5) pa_nil))))
      (pss_cons (ps_set (i := 7) sc_law.nd rfl (Or.inl rfl) (pe_make T.mk_Mesh G_Mesh_d_initd_ (hr.mono (by decide)) (by rfl) T.g_Mesh T.b_Mesh_d_initd_ .nil passL (pa_cons (pv 6) pa_nil)))
      (pss_cons (ps_set (i := 8) sc_law.nd rfl (Or.inl rfl) (RD.k_join (K := K) rfl pe_str (pe_lc (own := [("_law_members", 12)]) (g := gName 12) (by rfl) sc_law.nd (RD.k_pil (K := K) rfl (pe_call G_l_rounds (hr.mono (by decide)) (by rfl) T.g_l_rounds T.F_l_rounds.kp T.b_l_rounds .nil pass0 (pa_cons (pv 6) (pa_cons pe_bl pa_nil)))) (blkOk_by (own := [("_law_members", 12)]) (N := ["_law_script", "_law_tape_here", "_law_choice", "_law_twice", "_law_place", "_law_edges", "_law_nexts_here", "_law_mesh", "_law_text", "_law_lines", "_law_at", "_law_changed", "_law_members"]) (sc := defScope s_law) (by decide +kernel)) (fun _ _ _ _ _ => (pg_name (i := 12) sc_law.nd rfl (Or.inl rfl))) (fun _ _ _ _ _ => pts_nil) (fun _ _ _ _ _ => (pe_call G_l_line (hr.mono (by decide)) (by rfl) T.g_l_line T.F_l_line.kp T.b_l_line .nil pass0 (pa_cons (pv 12) pa_nil))))))
      (pss_cons (ps_set (i := 9) sc_law.nd rfl (Or.inl rfl) (pe_call G_l_mixed (hr.mono (by decide)) (by rfl) T.g_l_mixed T.F_l_mixed.kp T.b_l_mixed .nil pass0 (pa_cons (pe_call G_l_tape (hr.mono (by decide)) (by rfl) T.g_l_tape T.F_l_tape.kp T.b_l_tape .nil pass0 (pa_cons (pv 0) (pa_cons pe_int pa_nil))) (pa_cons (pe_call G_l_rounds (hr.mono (by decide)) (by rfl) T.g_l_rounds T.F_l_rounds.kp T.b_l_rounds .nil pass0 (pa_cons (pv 6) (pa_cons pe_bl pa_nil))) pa_nil))))
      (pss_cons (ps_if (PW.pt (pw_or (pt_cmpR op_ne (pe_meth0 (pv 7) T.cl_Mesh T.m_Mesh_text G_Mesh_text (hr.mono (by decide)) T.b_Mesh_text .nil pass0) (pv 8) (nomark _)) (pw_or (pt_not (pt_cmpR (RD.k_eqOwn (K := K) rfl (hr.mono (by decide)) G_Mesh_d_eqd_ T.m_Mesh_d_eqd_.at_ T.m_Mesh_d_eqd_.fn T.b_Mesh_d_eqd_ pass0) (pe_call G_read_mesh (hr.mono (by decide)) (by rfl) T.g_read_mesh T.F_read_mesh.kp T.b_read_mesh .nil passL (pa_cons (pv 8) pa_nil)) (pv 7) (nomark _))) (pw_or1 (pt_not (pt_cmpR (RD.k_eqOwn (K := K) rfl (hr.mono (by decide)) G_Mesh_d_eqd_ T.m_Mesh_d_eqd_.at_ T.m_Mesh_d_eqd_.fn T.b_Mesh_d_eqd_ pass0) (pe_call G_read_mesh (hr.mono (by decide)) (by rfl) T.g_read_mesh T.F_read_mesh.kp T.b_read_mesh .nil passL (pa_cons (RD.k_join (K := K) rfl pe_str (pv 9)) pa_nil)) (pv 7) (nomark _)))))))
      (pss_one (ps_ret pe_bl))
      pss_nil)
      (pss_cons (ps_if (pt_cmpR op_gt (pv 2) pe_int (nomark _))
      (pss_one (ps_ret (pe_cmpR (RD.k_eqD (K := K) rfl hr.units) (pe_call G_l_told (hr.mono (by decide)) (by rfl) T.g_l_told T.F_l_told.kp T.b_l_told .nil pass0 (pa_cons (pe_op RD.op_repS pe_str (pe_op op_add pe_int (pe_op op_mod (pe_callTy RD.k_int (by rfl) T.z_int (by decide +kernel) (pa_cons (pv 4) pa_nil)) pe_int))) pa_nil)) (pe_lst (pa_cons pe_str (pa_cons pe_int (pa_cons pe_bl pa_nil)))) (nomark _))))
      pss_nil)
      (pss_cons (ps_set (i := 10) sc_law.nd rfl (Or.inl rfl) (pe_op op_mod (pe_callTy RD.k_int (by rfl) T.z_int (by decide +kernel) (pa_cons (pv 4) pa_nil)) (pe_callB (RD.k_len (K := K) rfl) (by rfl) T.z_len (by decide +kernel) (pa_cons (pv 9) pa_nil))))
      (pss_cons (ps_if (pt_cmpR op_lt (pv 2) pe_int (nomark _))
      (RD.pss_cut (ps_if (pt_val (pv 3))
      (pss_one (ps_asg (pe_op RD.k_addS (pe_ix (RD.k_ixL (K := K) rfl) (pv 9) (pe_op op_sub (pe_callB (RD.k_len (K := K) rfl) (by rfl) T.z_len (by decide +kernel) (pa_cons (pv 9) pa_nil)) pe_int) (fun _ _ => rfl)) pe_str) (pg_sub (pv 9) (pe_op op_sub (pe_callB (RD.k_len (K := K) rfl) (by rfl) T.z_len (by decide +kernel) (pa_cons (pv 9) pa_nil)) pe_int) set_list)))
      pss_nil)
      (pss_cons (ps_set (i := 11) sc_law.nd rfl (Or.inl rfl) (pe_call G_l_spoilt (hr.mono (by decide)) (by rfl) T.g_l_spoilt T.F_l_spoilt.kp T.b_l_spoilt .nil pass0 (pa_cons (pe_ix (RD.k_ixL (K := K) rfl) (pv 9) (pv 10) (fun _ _ => rfl)) (pa_cons (pv 2) (pa_cons (pv 4) pa_nil)))))
      (RD.pss_cut (ps_if (PW.pt (pw_and (pt_cmpR op_eq (pv 2) pe_int (nomark _)) (pw_and1 (pt_cmpR op_eq (pe_callB (RD.k_len (K := K) rfl) (by rfl) T.z_len (by decide +kernel) (pa_cons (pv 9) pa_nil)) pe_int (nomark _)))))
      (pss_one (ps_set (i := 11) sc_law.nd rfl (Or.inl rfl) pe_str))
      pss_nil)
      (pss_cons (ps_asg (pv 11) (pg_sub (pv 9) (pv 10) set_list))
      (pss_one (ps_ret (pe_cmpR (RD.k_eqD (K := K) rfl hr.units) (pe_call G_l_told (hr.mono (by decide)) (by rfl) T.g_l_told T.F_l_told.kp T.b_l_told .nil pass0 (pa_cons (RD.k_join (K := K) rfl pe_str (pv 9)) pa_nil)) (pe_lst (pa_cons pe_str (pa_cons (pe_op op_add (pv 10) pe_int) (pa_cons pe_bl pa_nil)))) (nomark _))))))))
      pss_nil)
      (pss_cons (ps_set (i := 9) sc_law.nd rfl (Or.inl rfl) (pe_call G_l_miscounted (hr.mono (by decide)) (by rfl) T.g_l_miscounted T.F_l_miscounted.kp T.b_l_miscounted .nil pass0 (pa_cons (pv 9) (pa_cons (pv 2) (pa_cons (pv 4) (pa_cons (pe_op op_mul pe_int (pv 5)) pa_nil))))))
      (RD.pss_cut (ps_if (pt_val (pv 3))
      (pss_one (ps_ret (pe_cmpR (RD.k_eqD (K := K) rfl hr.units) (pe_call G_l_told (hr.mono (by decide)) (by rfl) T.g_l_told T.F_l_told.kp T.b_l_told .nil pass0 (pa_cons (RD.k_join (K := K) rfl pe_str (pe_op op_cat (pv 9) (pe_lst (pa_cons pe_str pa_nil)))) pa_nil)) (pe_lst (pa_cons pe_str (pa_cons (pe_op op_add (pe_callB (RD.k_len (K := K) rfl) (by rfl) T.z_len (by decide +kernel) (pa_cons (pv 9) pa_nil)) pe_int) (pa_cons pe_bl pa_nil)))) (nomark _))))
      pss_nil)
      (pss_one (ps_ret (pe_cmpR (RD.k_eqD (K := K) rfl hr.units) (pe_call G_l_told (hr.mono (by decide)) (by rfl) T.g_l_told T.F_l_told.kp T.b_l_told .nil pass0 (pa_cons (RD.k_join (K := K) rfl pe_str (pv 9)) pa_nil)) (pe_lst (pa_cons pe_str (pa_cons pe_bl pa_nil))) (nomark _)))))))))))))))))))), ?_⟩
    show tSeq _ _ _ [some (.ref a), none, none, none, none, none, none, none, none, none, none, none, none] H
    walk_at "rd"
    refine ⟨a, zs, 0, rfl, hS, by decide, by decide, fun H1 t0 s1 nt0 tp1 => ?_⟩
    walk_at "rd"
    refine ⟨t0, _, rfl, tp1, by decide, by decide, fun ch H2 hch tp2 sx2 => ?_⟩
    walk_at "rd"
    refine RD.cut (fun σ H' => ∃ d : Bool, σ = [some (.ref a), some (.ref t0), some (vn ch), some (.bl d), none, none, none, none, none, none, none, none, none] ∧ Same H H' ∧ TapeAt H' t0) ?_ ?_
    · walk_at "rd"
      refine ⟨t0, _, rfl, tp2, by decide, by decide, fun c H3 hc tp3 sx3 => ?_⟩
      walk_at "rd"
      exact ⟨_, rfl, (sx2.trans sx3).under s1 nt0, tp3⟩
    rintro σ H3 ⟨tw', rfl, s3, tp3⟩
    walk_at "rd"
    refine ⟨t0, _, rfl, tp3, by decide, by decide, fun pl H4 hpl tp4 sx4 => ?_⟩
    walk_at "rd"
    refine ⟨t0, rfl, tp4, fun e0 H5 he0 tp5 sx5 => ?_⟩
    have s5 : Same H H5 := (sx4.trans sx5).under s3 nt0
    walk_at "rd"
    refine RD.cut (fun σ H' => ∃ e : Nat, σ = [some (.ref a), some (.ref t0), some (vn ch), some (.bl tw'), some (vn pl), some (vn e), none, none, none, none, none, none, none] ∧ H' = H5 ∧ e ≤ 30 ∧ (ch < 12 → 1 ≤ e)) ?_ ?_
    · walk_at "rd"
      refine RD.dec (fun h => ?_) (fun h => ?_)
      · walk_at "rd"
        have ee : (if (e0 : Int) > 1 then (e0 : Int) else 1) = ((max 1 e0 : Nat) : Int) := by split <;> omega
        rw [ee]
        exact ⟨max 1 e0, rfl, rfl, by omega, fun _ => by omega⟩
      · walk_at "rd"
        exact ⟨e0, rfl, rfl, he0, fun z => absurd z (by omega)⟩
    rintro σ H6 ⟨e, rfl, rfl, he, he1⟩
    walk_at "rd"
    refine ⟨a, zs, 1, rfl, s5.seq hS, by decide, by decide, fun H7 t1 s7 nt1 tp7 => ?_⟩
    walk_at "rd"
    refine ⟨t1, e, rfl, tp7, he, fun H8 n1 ns hM hl nn1 tp8 sx8 en1 => ?_⟩
    have s8 : Same H H8 := s5.trans (sx8.under s7 nt1)
    clear s5 s7 tp1 tp2 tp3 tp4 tp5 tp7 tp8 sx2 sx4 sx5 sx8 s1 s3
    walk_at "rd"
    refine mk_mesh en1 hM (by omega) fun H9 p a1 b1 np na nb s9 m9 => ?_
    have s9' := s8.trans s9
    have en9 := s9 _ _ en1
    walk_at "rd"
    refine ⟨⟨_, rfl⟩, ?_⟩
    walk_at "rd"
    rw [l10, lx, l7x]
    have hxl := rnds_len (f := fn ns) (n := ns.length) ns.length
    have hbd : ∀ c ∈ rnds (fn ns) ns.length ns.length, c ≠ [] ∧ c.length ≤ 60 ∧ ∀ x ∈ c, x < 60 := fun c hc => by
      have h1 := rnds_each hM.fnp (Nat.le_refl _) hc
      refine ⟨List.length_pos_iff.mp h1.2, by omega, fun x hx => ?_⟩
      obtain ⟨g, hg, _, rfl⟩ := (mem_rnds _).mp hc
      have := cyc_lt hM.fnp hg hx
      omega
    refine ⟨n1, ns, true, rfl, sq en9, hM, by omega, fun H10 f fs s10 nf nfs lf => ?_⟩
    have lf : LL H10 f fs (rnds (fn ns) ns.length ns.length) := lf
    have hfl := paired_len lf.each
    refine RD.lcP (rnds (fn ns) ns.length ns.length) (sq lf.top) hfl (szl (by omega)) (fun _ => true) (fun c => vst (line c)) (fun i c d Hx Q' R' hc hd sx kT kF => ?_) (fun H11 L nL s11 eL => ?_)
    · have e2 := sx _ _ (paired_at lf.each hc hd)
      have hdb := hbd d (List.mem_of_getElem? hd)
      walk_at "wp"
      walk_at "rd"
      refine ⟨rfl, ?_⟩
      walk_at "rd"
      exact ⟨c, d, rfl, sq e2, by omega, fun x hx => by have := hdb.2.2 x hx; omega, fun Hy sy => kT rfl Hy sy⟩
    rw [RD.pick_all (fun _ => rfl)] at eL
    have eL : H11 L = some (.lst (vsts ((rnds (fn ns) ns.length ns.length).map line))) := by
      rw [eL]
      unfold vsts
      rw [List.map_map]
      rfl
    refine RD.jnd (K := K) (k := 310) (sq eL) (fun l hl' => ?_) (by rw [List.length_map]; omega) ?_
    · obtain ⟨c, hc, rfl⟩ := List.mem_map.mp hl'
      have h1 := line_len (c := c) fun x hx => by have := (hbd c hc).2.2 x hx; omega
      have h2 := (hbd c hc).2.1
      omega
    have s11' := (s9'.trans s10).trans s11
    have en11 := s11 _ _ (s10 _ _ en9)
    have m11 := (m9.same s10).same s11
    walk_at "rd"
    refine ⟨a, zs, 2, rfl, s11'.seq hS, by decide, by decide, fun H12 t2 s12 nt2 tp12 => ?_⟩
    walk_at "rd"
    refine ⟨n1, ns, true, rfl, sq (s12 _ _ en11), hM, by omega, fun H13 g gs s13 ng ngs lg => ?_⟩
    have lg : LL H13 g gs (rnds (fn ns) ns.length ns.length) := lg
    have gt : g ≠ t2 := tp12.ne ng
    walk_at "rd"
    refine ⟨t2, g, gs, _, rfl, tp12.same s13, gt, fun z => tp12.ne (ngs t2 z).1 rfl, lg, by omega, fun c hc => ⟨(hbd c hc).1, by have := (hbd c hc).2.1; omega, fun x hx => by have := (hbd c hc).2.2 x hx; omega⟩, fun H14 r cs tp14 sx14 nr er hmx => ?_⟩
    have s14 : Same H11 H14 := sx14.under (s12.trans s13) nt2
    have m14 := m11.same s14
    have nr11 : H11 r = none := s12.free (s13.free nr)
    obtain ⟨hpm, heach, hcl⟩ := mixed_ok hM hmx
    have hcl60 : cs.length ≤ 60 := by omega
    have hcb : ∀ c ∈ cs, c ≠ [] ∧ ∀ x ∈ c, x < 10000 := fun c hc => ⟨(heach c hc).1, fun x hx => by have := (heach c hc).2.2 x hx; omega⟩
    have hfln : cs.flatten.length = ns.length := by have := hpm.length_eq; rw [List.length_range] at this; exact this
    have hll : ∀ c ∈ cs, (line c).length ≤ 300 := fun c hc => by
      have h2 := line_len (hcb c hc).2
      have h3 : c.length ≤ cs.flatten.length := (List.sublist_flatten_of_mem hc).length_le
      omega
    walk_at "rd"
    obtain ⟨dx, hp14⟩ := m14.ob
    refine ⟨p, dx, _, rfl, hp14, mf_no _ _ (by decide +kernel) (by decide +kernel), ?_⟩
    walk_at "rd"
    refine ⟨p, a1, b1, ns, rfl, m14, hM, by omega, fun H15 s15 => ?_⟩
    walk_at "rd"
    refine RD.ndF rfl ?_
    walk_at "rd"
    refine read_ok hM (by omega) (self_mixed hM) fun H16 p2 a2 b2 s16 np2 na2 nb2 m16 => ?_
    walk_at "rd"
    refine eq_mesh T m16 ((m14.same s15).same s16) ?_
    walk_at "rd"
    rw [decide_eq_true rfl]
    walk_at "rn"
    refine ⟨⟨_, rfl⟩, ?_⟩
    walk_at "rd"
    have er16 := s16 _ _ (s15 _ _ er)
    refine RD.jnd (K := K) (k := 300) (sq er16) (fun l hl' => ?_) (by rw [List.length_map]; omega) ?_
    · obtain ⟨c, hc, rfl⟩ := List.mem_map.mp hl'
      exact hll c hc
    walk_at "rd"
    refine read_ok hM (by omega) hmx fun H17 p3 a3 b3 s17 np3 na3 nb3 m17 => ?_
    walk_at "rd"
    refine eq_mesh T m17 (((m14.same s15).same s16).same s17) ?_
    walk_at "rd"
    rw [decide_eq_true rfl]
    walk_at "rn"
    have er17 := s17 _ _ er16
    clear s8 s9 s10 s11 s12 s13 s15 s16 s17 m9 m11 m14 m16 m17 tp12 tp14 sx14
    refine RD.dec (fun h11 => ?_) (fun h11 => ?_)
    · -- line feeds alone
      walk_at "rd"
      refine RD.iC (by decide) ?_
      walk_at "rd"
      refine ⟨[10], _, rfl, rfl, by omega, by omega, by simp; omega, ?_⟩
      have hk : ∃ k, ((1 : Int) + (pl : Int) % 3).toNat = k + 1 ∧ k < 3 := ⟨pl % 3, by omega, by omega⟩
      obtain ⟨k, hk, hk3⟩ := hk
      rw [hk]
      walk_at "rd"
      have ht : (List.replicate (k + 1) [10]).flatten = 10 :: (List.replicate k [10]).flatten := by rw [List.replicate_succ, List.flatten_cons]; rfl
      rw [ht]
      have hp10 : ∀ r, TL.pre [10] (10 :: r) = true := fun r => by rw [pre_one]; rfl
      refine ⟨_, rfl, by rw [List.length_cons, len_rep]; simp; omega, by simp, .inl ⟨0, [], ?_, bad_nil, fun j m hj => absurd hj (Nat.not_lt_zero _), fun H18 v s18 ev => ?_⟩⟩
      · unfold lns
        rw [TL.spl_hit (hp10 _)]
        rfl
      · walk_at "rd"
        refine ⟨szl (by simp), fun v2 nv2 => ?_⟩
        have u1 := RD.same_new (o := .lst [V.str "line", V.int 1, V.bl true]) nv2
        refine RD.eqD (dp_told (i := 1) (u1 _ _ ev)) (dp_told (i := 1) upd_same) (sh_told 1) (sh_told 1) ?_
        rw [SeqAt.eqv_refl _ (lay_told 1)]
        exact q _
    have hch12 : ch < 12 := by omega
    have hep := he1 hch12
    have hcne : cs ≠ [] := fun z => by rw [z] at hfln; simp at hfln; omega
    have hcp : 0 < cs.length := List.length_pos_iff.mpr hcne
    walk_at "rd"
    refine RD.len (K := K) (sq er17) ?_
    rw [vsts_len, List.length_map]
    refine RD.iC (show (0 : Int) < _ by omega) ?_
    walk_at "rd"
    have eat : ((pl : Int) % (cs.length : Int)) = ((pl % cs.length : Nat) : Int) := by omega
    rw [eat]
    have hat : pl % cs.length < cs.length := Nat.mod_lt _ hcp
    generalize pl % cs.length = k at hat ⊢
    refine RD.dec (fun h9 => ?_) (fun h9 => ?_)
    · -- a spoilt line
      refine RD.cut (fun σ H' => ∃ ls : List (List Nat), σ = [some (.ref a), some (.ref t0), some (vn ch), some (.bl tw'), some (vn pl), some (vn e), some (.ref n1), some (.ref p), some (vst (jn 10 ((rnds (fn ns) ns.length ns.length).map line))), some (.ref r), some (vn k), none, none] ∧ H' r = some (.lst (vsts ls)) ∧ ls.length = cs.length ∧
          (∀ j m, j + 1 < cs.length → ls[j]? = some m → bad m = false) ∧ ∀ m ∈ ls, m.length ≤ 400 ∧ 10 ∉ m ∧ (∀ x ∈ wrds m, x ≠ [])) ?_ ?_
      · have hw1 : ∀ c ∈ cs, (line c).length ≤ 400 ∧ 10 ∉ line c ∧ ∀ x ∈ wrds (line c), x ≠ [] := fun c hc => ⟨by have := hll c hc; omega, line_free (by decide) (.inl (by decide)), fun x hx => by
          rw [line_words (hcb c hc).1] at hx
          obtain ⟨n, _, rfl⟩ := List.mem_map.mp hx
          exact TL.numL_ne n⟩
        have hgood : ∀ j m, (cs.map line)[j]? = some m → bad m = false := fun j m hj => by
          obtain ⟨c, hc, rfl⟩ := List.mem_map.mp (List.mem_of_getElem? hj)
          exact (line_good (hcb c hc).1 (hcb c hc).2).1
        walk_at "rd"
        cases tw' with
        | false =>
          walk_at "rd"
          refine ⟨cs.map line, rfl, er17, List.length_map _, fun j m _ hj => hgood j m hj, fun m hm => ?_⟩
          obtain ⟨c, hc, rfl⟩ := List.mem_map.mp hm
          exact hw1 c hc
        | true =>
          walk_at "rd"
          refine RD.len (K := K) (sq er17) ?_
          rw [vsts_len, List.length_map]
          walk_at "rd"
          have el : ((cs.length : Int) - 1) = ((cs.length - 1 : Nat) : Int) := by omega
          rw [el]
          have hL : cs.length - 1 < cs.length := by omega
          have hLm := List.getElem_mem hL
          have eg : (cs.map line)[cs.length - 1]? = some (line cs[cs.length - 1]) := by rw [List.getElem?_map, List.getElem?_eq_getElem hL]; rfl
          generalize cs[cs.length - 1] = c at hLm eg
          have h1 := hw1 c hLm
          refine RD.ixL (sq er17) (at_n (vsts_at eg)) ?_
          walk_at "rd"
          refine RD.adds (by simp; omega) ?_
          walk_at "rd"
          refine RD.len (K := K) (sq er17) ?_
          rw [vsts_len, List.length_map]
          walk_at "rd"
          rw [el]
          refine RD.setL er17 (by rw [vsts_len, List.length_map]; exact ix_n hL) ?_
          refine ⟨(cs.map line).set (cs.length - 1) (line c ++ [32, 120]), rfl, ?_, by rw [List.length_set, List.length_map], fun j m hj hm => ?_, fun m hm => ?_⟩
          · rw [upd_same]
            unfold vsts
            rw [← List.map_set]
          · rw [List.getElem?_set_ne (by omega)] at hm
            exact hgood j m hm
          · rcases List.mem_or_eq_of_mem_set hm with hm | hm
            · obtain ⟨c, hc, rfl⟩ := List.mem_map.mp hm
              exact hw1 c hc
            · subst hm
              refine ⟨by have := hll c hLm; simp; omega, fun z => ?_, fun x hx => ?_⟩
              · rcases List.mem_append.mp z with z | z
                · exact h1.2.1 z
                · revert z; decide
              · rw [line_x (hcb c hLm).1] at hx
                rcases List.mem_append.mp hx with hx | hx
                · obtain ⟨n, _, rfl⟩ := List.mem_map.mp hx
                  exact TL.numL_ne n
                · rw [List.mem_singleton.mp hx]; decide
      rintro σ H18 ⟨ls, rfl, er18, hlsl, hgood, hls⟩
      have hkl : k < ls.length := by omega
      walk_at "rd"
      have hlk := hls _ (List.getElem_mem hkl)
      have egk : ls[k]? = some ls[k] := List.getElem?_eq_getElem hkl
      refine RD.ixL (sq er18) (at_n (vsts_at egk)) ?_
      walk_at "rd"
      refine ⟨ls[k], ch, pl, rfl, by omega, hlk.1, hlk.2.1, hlk.2.2, fun H19 sp s19 b1 b2 b3 b4 b5 => ?_⟩
      have er19 := s19 _ _ er18
      walk_at "rd"
      refine RD.cut (fun σ H' => ∃ sp' : List Nat, σ = [some (.ref a), some (.ref t0), some (vn ch), some (.bl tw'), some (vn pl), some (vn e), some (.ref n1), some (.ref p), some (vst (jn 10 ((rnds (fn ns) ns.length ns.length).map line))), some (.ref r), some (vn k), some (vst sp'), none] ∧ H' = H19 ∧ bad sp' = true ∧ 10 ∉ sp' ∧ sp'.length ≤ 6000 ∧ (cs.length = 1 → sp' ≠ [])) ?_ ?_
      · walk_at "rd"
        refine RD.dec (fun h0 => ?_) (fun h0 => ?_)
        · walk_at "rd"
          refine RD.len (K := K) (sq er19) ?_
          rw [vsts_len, hlsl]
          walk_at "rd"
          refine RD.dec (fun h1 => ?_) (fun h1 => ?_)
          · walk_at "rd"
            rw [l32]
            exact ⟨[32], rfl, rfl, bad32, by decide, by decide, fun _ => by simp⟩
          · walk_at "rd"
            exact ⟨sp, rfl, rfl, b1, b2, b3, fun z => absurd z (by omega)⟩
        · walk_at "rd"
          exact ⟨sp, rfl, rfl, b1, b2, b3, fun _ => b4 (by omega)⟩
      rintro σ Hz ⟨sp', rfl, rfl, b1, b2, b3, b4⟩
      walk_at "rd"
      refine RD.setL er19 (by rw [vsts_len]; exact ix_n hkl) ?_
      have eset : (vsts ls).set k (vst sp') = vsts (ls.set k sp') := by
        unfold vsts
        rw [List.map_set]
      rw [eset]
      walk_at "rd"
      refine ⟨⟨_, rfl⟩, ?_⟩
      walk_at "rd"
      have hmem : ∀ m ∈ ls.set k sp', m.length ≤ 6000 ∧ 10 ∉ m := fun m hm => by
        rcases List.mem_or_eq_of_mem_set hm with hm | hm
        · exact ⟨by have := (hls m hm).1; omega, (hls m hm).2.1⟩
        · subst hm; exact ⟨b3, b2⟩
      refine RD.jnd (K := K) (k := 6000) (sq upd_same) (fun l hl' => (hmem l hl').1) (by rw [List.length_set]; omega) ?_
      walk_at "rd"
      have hne2 : ls.set k sp' ≠ [] := fun z => by
        have h5 := congrArg List.length z
        rw [List.length_set] at h5
        have h5 : ls.length = 0 := h5
        omega
      have elns : lns (jn 10 (ls.set k sp')) = ls.set k sp' := lns_jn hne2 fun l hl' => (hmem l hl').2
      refine ⟨_, rfl, ?_, ?_, .inl ⟨k, sp', ?_, b1, fun j m hj hm => ?_, fun H20 v s20 ev => ?_⟩⟩
      · have h1 := jn_sum 10 (ls.set k sp')
        have h2 := swap_sum ls k sp'
        have h3 := sum_small ls 400 fun l hl' => (hls l hl').1
        have h4 : ls.set k sp' = ls.take k ++ [sp'] ++ ls.drop (k + 1) := by
          rw [List.set_eq_take_append_cons_drop, if_pos hkl]
          simp
        rw [← h4] at h2
        rw [List.length_set] at h1
        show (jn 10 (ls.set k sp')).length ≤ 40000
        omega
      · refine jn_ne ?_
        by_cases h1 : cs.length = 1
        · exact .inr ⟨sp', List.mem_set hkl sp', b4 h1⟩
        · left
          rw [List.length_set]
          omega
      · show (lns (jn 10 (ls.set k sp')))[k]? = _
        rw [elns, List.getElem?_set_self hkl]
      · have hm : (lns (jn 10 (ls.set k sp')))[j]? = some m := hm
        rw [elns, List.getElem?_set_ne (by omega)] at hm
        exact hgood j m (by omega) hm
      · walk_at "rd"
        have e1 : ((k : Int) + 1) = ((k + 1 : Nat) : Int) := by omega
        rw [e1]
        refine ⟨szl (by simp), fun v2 nv2 => ?_⟩
        have u1 := RD.same_new (o := .lst [V.str "line", vn (k + 1), V.bl true]) nv2
        refine RD.eqD (dp_told (u1 _ _ ev)) (dp_told upd_same) (sh_told _) (sh_told _) ?_
        rw [SeqAt.eqv_refl _ (lay_told _)]
        exact q _
    · walk_at "rd"
      refine RD.iC (.inl ⟨by decide, by decide⟩) ?_
      walk_at "rd"
      rw [show ((2 : Int) * (e : Int)) = ((2 * e : Nat) : Int) by omega]
      rw [hl] at hpm
      refine ⟨r, cs, ch, pl, 2 * e, rfl, er17, by omega, hch12, by omega, by omega, by omega, by omega, hcne, hcl60, fun c hc => (hcb c hc).1, hpm, fun H18 r2 cs' s18 nr2 er2 hno => ?_⟩
      obtain ⟨n1', n2, n3, n4, n5⟩ := hno
      obtain ⟨e1, e2, e3⟩ := read_lines n1' n3
      have e4 : allC (jn 10 (cs'.map line)) = cs' := e3
      have hln : ∀ c ∈ cs', (line c).length ≤ 310 := fun c hc => by
        have h2 := line_len (n3 c hc).2
        have h3 : c.length ≤ cs'.flatten.length := (List.sublist_flatten_of_mem hc).length_le
        omega
      obtain ⟨c0, hc0⟩ : ∃ c0, c0 ∈ cs' := by
        cases cs' with
        | nil => exact absurd rfl n1'
        | cons c r => exact ⟨c, List.mem_cons_self⟩
      walk_at "rd"
      refine RD.cut (fun σ H' => σ = [some (.ref a), some (.ref t0), some (vn ch), some (.bl tw'), some (vn pl), some (vn e), some (.ref n1), some (.ref p), some (vst (jn 10 ((rnds (fn ns) ns.length ns.length).map line))), some (.ref r2), some (vn k), none, none] ∧ H' = H18) ?_ ?_
      · walk_at "rd"
        cases tw' with
        | false =>
          walk_at "rd"
          exact ⟨rfl, rfl⟩
        | true =>
          walk_at "rd"
          refine ⟨⟨_, rfl⟩, ?_⟩
          walk_at "rd"
          refine ⟨szl (by simp), fun v1 nv1 => ?_⟩
          have u1 := RD.same_new (o := .lst [vst [55, 32, 120]]) nv1
          refine RD.cat (u1 _ _ er2) upd_same (by rw [vsts_len, List.length_map]; exact szl (by simp; omega)) fun v2 nv2 => ?_
          have u2 := u1.trans (RD.same_new (o := .lst (vsts (cs'.map line) ++ [vst [55, 32, 120]])) nv2)
          have ecat : vsts (cs'.map line) ++ [vst [55, 32, 120]] = vsts (cs'.map line ++ [[55, 32, 120]]) := by rw [vsts_app]; rfl
          have hm : ∀ m ∈ cs'.map line ++ [[55, 32, 120]], m.length ≤ 310 ∧ 10 ∉ m := fun m hm => by
            rcases List.mem_append.mp hm with hm | hm
            · obtain ⟨c, hc, rfl⟩ := List.mem_map.mp hm
              exact ⟨hln c hc, line_free (by decide) (.inl (by decide))⟩
            · rw [List.mem_singleton.mp hm]; exact ⟨by decide, by decide⟩
          have er3 := u2 _ _ er2
          refine RD.jnd (K := K) (k := 310) (ls := cs'.map line ++ [[55, 32, 120]]) (sq (by rw [upd_same, ecat])) (fun l hl' => (hm l hl').1) (by rw [List.length_append, List.length_map]; simp; omega) ?_
          walk_at "rd"
          have elns : lns (jn 10 (cs'.map line ++ [[55, 32, 120]])) = cs'.map line ++ [[55, 32, 120]] := lns_jn (by simp) fun l hl' => (hm l hl').2
          refine ⟨_, rfl, ?_, jn_ne (.inr ⟨[55, 32, 120], by simp, by simp⟩), .inl ⟨cs'.length, [55, 32, 120], ?_, bad7x, fun j m hj hm2 => ?_, fun H20 v s20 ev => ?_⟩⟩
          · have h1 := jn_len (c := 10) (cs'.map line ++ [[55, 32, 120]]) 310 fun l hl' => (hm l hl').1
            rw [List.length_append, List.length_map] at h1
            simp only [List.length_cons, List.length_nil] at h1
            show (jn 10 _).length ≤ 40000
            omega
          · show (lns (jn 10 (cs'.map line ++ [[55, 32, 120]])))[cs'.length]? = _
            rw [elns, List.getElem?_append_right (by rw [List.length_map]; exact Nat.le_refl _), List.length_map, Nat.sub_self]
            rfl
          · have hm2 : (lns (jn 10 (cs'.map line ++ [[55, 32, 120]])))[j]? = some m := hm2
            rw [elns, List.getElem?_append_left (by rw [List.length_map]; exact hj)] at hm2
            exact e2 m (by rw [e1]; exact List.mem_of_getElem? hm2)
          · walk_at "rd"
            refine RD.len (K := K) (sq (s20 _ _ er3)) ?_
            rw [vsts_len, List.length_map]
            walk_at "rd"
            rw [show ((cs'.length : Int) + 1) = ((cs'.length + 1 : Nat) : Int) by omega]
            refine ⟨szl (by simp), fun v3 nv3 => ?_⟩
            have u3 := RD.same_new (o := .lst [V.str "line", vn (cs'.length + 1), V.bl true]) nv3
            refine RD.eqD (dp_told (u3 _ _ ev)) (dp_told upd_same) (sh_told _) (sh_told _) ?_
            rw [SeqAt.eqv_refl _ (lay_told _)]
            exact q _
      rintro σ Hz ⟨rfl, rfl⟩
      walk_at "rd"
      refine ⟨⟨_, rfl⟩, ?_⟩
      walk_at "rd"
      refine RD.jnd (K := K) (k := 310) (sq er2) (fun l hl' => ?_) (by rw [List.length_map]; omega) ?_
      · obtain ⟨c, hc, rfl⟩ := List.mem_map.mp hl'
        exact hln c hc
      walk_at "rd"
      refine ⟨_, rfl, ?_, jn_ne (.inr ⟨line c0, List.mem_map_of_mem hc0, line_ne (n3 c0 hc0).1⟩), .inr ⟨e2, ?_, ?_, fun H20 v s20 ev => ?_⟩⟩
      · have h1 := jn_len (c := 10) (cs'.map line) 310 fun l hl' => by
          obtain ⟨c, hc, rfl⟩ := List.mem_map.mp hl'
          exact hln c hc
        rw [List.length_map] at h1
        show (jn 10 _).length ≤ 40000
        omega
      · show (allC (jn 10 (cs'.map line))).flatten.length ≤ 62
        rw [e4]
        exact n4
      · show ¬ (allC (jn 10 (cs'.map line))).flatten.Perm (List.range (allC (jn 10 (cs'.map line))).flatten.length) ∨ (allC (jn 10 (cs'.map line))).flatten.length % 2 = 1
        rw [e4]
        exact n5
      · walk_at "rd"
        refine ⟨szl (by simp), fun v3 nv3 => ?_⟩
        have u3 := RD.same_new (o := .lst [V.str "mesh", V.bl true]) nv3
        refine RD.eqD (dp_mesh (u3 _ _ ev)) (dp_mesh upd_same) sh_mesh sh_mesh ?_
        rw [SeqAt.eqv_refl _ lay_mesh]
        exact q _
end
end Pf

namespace Pf
open PySem PySem.Spec PyProof.Rows L2
theorem all_mk {l : PySem.W.OpenLaw} {w : World} {K : PySem.W.Frag} {h : Heap} {mg : Str → Option Value} {fa f1 f2 f3 f4 f5 f6 f7 f8 f9 f10 f11 f12 f13 f14 f15 f16 f17 f18 f19 f20 f21 f22 f23 f24 f25 f26 f27 C_MeshError C_NotAMesh C_BadLine C_Mesh : Addr} (X : K.In h) (G : h.Ns mainGlobals mg) (hfa : mg "law" = some (.ref fa))
    {od1 an1 : Option Addr} {sl1 : Array (Option Value)} {oc1 kV1 dc1 pm1 cd1 ct1 : Value}
    {od2 an2 : Option Addr} {sl2 : Array (Option Value)} {oc2 kV2 dc2 pm2 cd2 ct2 : Value}
    {od3 an3 : Option Addr} {sl3 : Array (Option Value)} {oc3 kV3 dc3 pm3 cd3 ct3 : Value}
    {od4 an4 : Option Addr} {sl4 : Array (Option Value)} {oc4 kV4 dc4 pm4 cd4 ct4 : Value}
    {od5 an5 : Option Addr} {sl5 : Array (Option Value)} {oc5 kV5 dc5 pm5 cd5 ct5 : Value}
    {od6 an6 : Option Addr} {sl6 : Array (Option Value)} {oc6 kV6 dc6 pm6 cd6 ct6 : Value}
    {od7 an7 : Option Addr} {sl7 : Array (Option Value)} {oc7 kV7 dc7 pm7 cd7 ct7 : Value}
    {od8 an8 : Option Addr} {sl8 : Array (Option Value)} {oc8 kV8 dc8 pm8 cd8 ct8 : Value}
    {od9 an9 : Option Addr} {sl9 : Array (Option Value)} {oc9 kV9 dc9 pm9 cd9 ct9 : Value}
    {od10 an10 : Option Addr} {sl10 : Array (Option Value)} {oc10 kV10 dc10 pm10 cd10 ct10 : Value}
    {od11 an11 : Option Addr} {sl11 : Array (Option Value)} {oc11 kV11 dc11 pm11 cd11 ct11 : Value}
    {od12 an12 : Option Addr} {sl12 : Array (Option Value)} {oc12 kV12 dc12 pm12 cd12 ct12 : Value}
    {od13 an13 : Option Addr} {sl13 : Array (Option Value)} {oc13 kV13 dc13 pm13 cd13 ct13 : Value}
    {od14 an14 : Option Addr} {sl14 : Array (Option Value)} {oc14 kV14 dc14 pm14 cd14 ct14 : Value}
    {od15 an15 : Option Addr} {sl15 : Array (Option Value)} {oc15 kV15 dc15 pm15 cd15 ct15 : Value}
    {od16 an16 : Option Addr} {sl16 : Array (Option Value)} {oc16 kV16 dc16 pm16 cd16 ct16 : Value}
    {od17 an17 : Option Addr} {sl17 : Array (Option Value)} {oc17 kV17 dc17 pm17 cd17 ct17 : Value}
    {od18 an18 : Option Addr} {sl18 : Array (Option Value)} {oc18 kV18 dc18 pm18 cd18 ct18 : Value}
    {od19 an19 : Option Addr} {sl19 : Array (Option Value)} {oc19 kV19 dc19 pm19 cd19 ct19 : Value}
    {od20 an20 : Option Addr} {sl20 : Array (Option Value)} {oc20 kV20 dc20 pm20 cd20 ct20 : Value}
    {od21 an21 : Option Addr} {sl21 : Array (Option Value)} {oc21 kV21 dc21 pm21 cd21 ct21 : Value}
    {od22 an22 : Option Addr} {sl22 : Array (Option Value)} {oc22 kV22 dc22 pm22 cd22 ct22 : Value}
    {od23 an23 : Option Addr} {sl23 : Array (Option Value)} {oc23 kV23 dc23 pm23 cd23 ct23 : Value}
    {od24 an24 : Option Addr} {sl24 : Array (Option Value)} {oc24 kV24 dc24 pm24 cd24 ct24 : Value}
    {od25 an25 : Option Addr} {sl25 : Array (Option Value)} {oc25 kV25 dc25 pm25 cd25 ct25 : Value}
    {od26 an26 : Option Addr} {sl26 : Array (Option Value)} {oc26 kV26 dc26 pm26 cd26 ct26 : Value}
    {od27 an27 : Option Addr} {sl27 : Array (Option Value)} {oc27 kV27 dc27 pm27 cd27 ct27 : Value}
    {tk_DIGITS : Tok}
    {tk_LONGEST_NUMBER : Tok}
    (aC_MeshError : PySem.W.nsIn K mainGlobals "MeshError" = some (some (.ref C_MeshError)))
    (aC_NotAMesh : PySem.W.nsIn K mainGlobals "NotAMesh" = some (some (.ref C_NotAMesh)))
    (aC_BadLine : PySem.W.nsIn K mainGlobals "BadLine" = some (some (.ref C_BadLine)))
    (aC_Mesh : PySem.W.nsIn K mainGlobals "Mesh" = some (some (.ref C_Mesh)))
    (a1 : PySem.W.findIn K (.ref C_BadLine) "__init__" = some (some (.ref f1)))
    (i1 : PySem.W.isFn K (.ref f1) = true)
    (l1 : K.lookup f1 = some ⟨oc1, od1, .func (PySem.W.fnOf "__init__" "BadLine.__init__" (defArgs s_BadLine_d_initd_) (defBody s_BadLine_d_initd_) (defScope s_BadLine_d_initd_) .none kV1 dc1 pm1 an1 cd1 ct1), sl1⟩)
    (c1 : PySem.W.codeIn K cd1 "BadLine.__init__" = true)
    (k1 : PySem.W.keepIn K (.ref f1) = true)
    (a2 : PySem.W.nsIn K mainGlobals "rounds" = some (some (.ref f2)))
    (l2 : K.lookup f2 = some ⟨oc2, od2, .func (PySem.W.fnOf "rounds" "rounds" (defArgs s_rounds) (defBody s_rounds) (defScope s_rounds) .none kV2 dc2 pm2 an2 cd2 ct2), sl2⟩)
    (c2 : PySem.W.codeIn K cd2 "rounds" = true)
    (k2 : PySem.W.keepIn K (.ref f2) = true)
    (a3 : PySem.W.nsIn K mainGlobals "are_integers" = some (some (.ref f3)))
    (l3 : K.lookup f3 = some ⟨oc3, od3, .func (PySem.W.fnOf "are_integers" "are_integers" (defArgs s_are_integers) (defBody s_are_integers) (defScope s_are_integers) .none kV3 dc3 pm3 an3 cd3 ct3), sl3⟩)
    (c3 : PySem.W.codeIn K cd3 "are_integers" = true)
    (k3 : PySem.W.keepIn K (.ref f3) = true)
    (a4 : PySem.W.findIn K (.ref C_Mesh) "__init__" = some (some (.ref f4)))
    (i4 : PySem.W.isFn K (.ref f4) = true)
    (l4 : K.lookup f4 = some ⟨oc4, od4, .func (PySem.W.fnOf "__init__" "Mesh.__init__" (defArgs s_Mesh_d_initd_) (defBody s_Mesh_d_initd_) (defScope s_Mesh_d_initd_) .none kV4 dc4 pm4 an4 cd4 ct4), sl4⟩)
    (c4 : PySem.W.codeIn K cd4 "Mesh.__init__" = true)
    (k4 : PySem.W.keepIn K (.ref f4) = true)
    (a5 : PySem.W.findIn K (.ref C_Mesh) "__len__" = some (some (.ref f5)))
    (i5 : PySem.W.isFn K (.ref f5) = true)
    (l5 : K.lookup f5 = some ⟨oc5, od5, .func (PySem.W.fnOf "__len__" "Mesh.__len__" (defArgs s_Mesh_d_lend_) (defBody s_Mesh_d_lend_) (defScope s_Mesh_d_lend_) .none kV5 dc5 pm5 an5 cd5 ct5), sl5⟩)
    (c5 : PySem.W.codeIn K cd5 "Mesh.__len__" = true)
    (k5 : PySem.W.keepIn K (.ref f5) = true)
    (a6 : PySem.W.findIn K (.ref C_Mesh) "__contains__" = some (some (.ref f6)))
    (i6 : PySem.W.isFn K (.ref f6) = true)
    (l6 : K.lookup f6 = some ⟨oc6, od6, .func (PySem.W.fnOf "__contains__" "Mesh.__contains__" (defArgs s_Mesh_d_containsd_) (defBody s_Mesh_d_containsd_) (defScope s_Mesh_d_containsd_) .none kV6 dc6 pm6 an6 cd6 ct6), sl6⟩)
    (c6 : PySem.W.codeIn K cd6 "Mesh.__contains__" = true)
    (k6 : PySem.W.keepIn K (.ref f6) = true)
    (a7 : PySem.W.findIn K (.ref C_Mesh) "__eq__" = some (some (.ref f7)))
    (i7 : PySem.W.isFn K (.ref f7) = true)
    (l7 : K.lookup f7 = some ⟨oc7, od7, .func (PySem.W.fnOf "__eq__" "Mesh.__eq__" (defArgs s_Mesh_d_eqd_) (defBody s_Mesh_d_eqd_) (defScope s_Mesh_d_eqd_) .none kV7 dc7 pm7 an7 cd7 ct7), sl7⟩)
    (c7 : PySem.W.codeIn K cd7 "Mesh.__eq__" = true)
    (k7 : PySem.W.keepIn K (.ref f7) = true)
    (a8 : PySem.W.findIn K (.ref C_Mesh) "after" = some (some (.ref f8)))
    (i8 : PySem.W.isFn K (.ref f8) = true)
    (l8 : K.lookup f8 = some ⟨oc8, od8, .func (PySem.W.fnOf "after" "Mesh.after" (defArgs s_Mesh_after) (defBody s_Mesh_after) (defScope s_Mesh_after) .none kV8 dc8 pm8 an8 cd8 ct8), sl8⟩)
    (c8 : PySem.W.codeIn K cd8 "Mesh.after" = true)
    (k8 : PySem.W.keepIn K (.ref f8) = true)
    (a9 : PySem.W.findIn K (.ref C_Mesh) "nexts" = some (some (.ref f9)))
    (i9 : PySem.W.isFn K (.ref f9) = true)
    (l9 : K.lookup f9 = some ⟨oc9, od9, .func (PySem.W.fnOf "nexts" "Mesh.nexts" (defArgs s_Mesh_nexts) (defBody s_Mesh_nexts) (defScope s_Mesh_nexts) .none kV9 dc9 pm9 an9 cd9 ct9), sl9⟩)
    (c9 : PySem.W.codeIn K cd9 "Mesh.nexts" = true)
    (k9 : PySem.W.keepIn K (.ref f9) = true)
    (a10 : PySem.W.findIn K (.ref C_Mesh) "faces" = some (some (.ref f10)))
    (i10 : PySem.W.isFn K (.ref f10) = true)
    (l10 : K.lookup f10 = some ⟨oc10, od10, .func (PySem.W.fnOf "faces" "Mesh.faces" (defArgs s_Mesh_faces) (defBody s_Mesh_faces) (defScope s_Mesh_faces) .none kV10 dc10 pm10 an10 cd10 ct10), sl10⟩)
    (c10 : PySem.W.codeIn K cd10 "Mesh.faces" = true)
    (k10 : PySem.W.keepIn K (.ref f10) = true)
    (a11 : PySem.W.findIn K (.ref C_Mesh) "text" = some (some (.ref f11)))
    (i11 : PySem.W.isFn K (.ref f11) = true)
    (l11 : K.lookup f11 = some ⟨oc11, od11, .func (PySem.W.fnOf "text" "Mesh.text" (defArgs s_Mesh_text) (defBody s_Mesh_text) (defScope s_Mesh_text) .none kV11 dc11 pm11 an11 cd11 ct11), sl11⟩)
    (c11 : PySem.W.codeIn K cd11 "Mesh.text" = true)
    (k11 : PySem.W.keepIn K (.ref f11) = true)
    (a12 : PySem.W.nsIn K mainGlobals "read_number" = some (some (.ref f12)))
    (l12 : K.lookup f12 = some ⟨oc12, od12, .func (PySem.W.fnOf "read_number" "read_number" (defArgs s_read_number) (defBody s_read_number) (defScope s_read_number) .none kV12 dc12 pm12 an12 cd12 ct12), sl12⟩)
    (c12 : PySem.W.codeIn K cd12 "read_number" = true)
    (k12 : PySem.W.keepIn K (.ref f12) = true)
    (a13 : PySem.W.nsIn K mainGlobals "read_mesh" = some (some (.ref f13)))
    (l13 : K.lookup f13 = some ⟨oc13, od13, .func (PySem.W.fnOf "read_mesh" "read_mesh" (defArgs s_read_mesh) (defBody s_read_mesh) (defScope s_read_mesh) .none kV13 dc13 pm13 an13 cd13 ct13), sl13⟩)
    (c13 : PySem.W.codeIn K cd13 "read_mesh" = true)
    (k13 : PySem.W.keepIn K (.ref f13) = true)
    (a14 : PySem.W.nsIn K mainGlobals "_law_tape" = some (some (.ref f14)))
    (l14 : K.lookup f14 = some ⟨oc14, od14, .func (PySem.W.fnOf "_law_tape" "_law_tape" (defArgs s_l_tape) (defBody s_l_tape) (defScope s_l_tape) .none kV14 dc14 pm14 an14 cd14 ct14), sl14⟩)
    (c14 : PySem.W.codeIn K cd14 "_law_tape" = true)
    (k14 : PySem.W.keepIn K (.ref f14) = true)
    (a15 : PySem.W.nsIn K mainGlobals "_law_pick" = some (some (.ref f15)))
    (l15 : K.lookup f15 = some ⟨oc15, od15, .func (PySem.W.fnOf "_law_pick" "_law_pick" (defArgs s_l_pick) (defBody s_l_pick) (defScope s_l_pick) .none kV15 dc15 pm15 an15 cd15 ct15), sl15⟩)
    (c15 : PySem.W.codeIn K cd15 "_law_pick" = true)
    (k15 : PySem.W.keepIn K (.ref f15) = true)
    (a16 : PySem.W.nsIn K mainGlobals "_law_nexts" = some (some (.ref f16)))
    (l16 : K.lookup f16 = some ⟨oc16, od16, .func (PySem.W.fnOf "_law_nexts" "_law_nexts" (defArgs s_l_nexts) (defBody s_l_nexts) (defScope s_l_nexts) .none kV16 dc16 pm16 an16 cd16 ct16), sl16⟩)
    (c16 : PySem.W.codeIn K cd16 "_law_nexts" = true)
    (k16 : PySem.W.keepIn K (.ref f16) = true)
    (a17 : PySem.W.nsIn K mainGlobals "_law_size" = some (some (.ref f17)))
    (l17 : K.lookup f17 = some ⟨oc17, od17, .func (PySem.W.fnOf "_law_size" "_law_size" (defArgs s_l_size) (defBody s_l_size) (defScope s_l_size) .none kV17 dc17 pm17 an17 cd17 ct17), sl17⟩)
    (c17 : PySem.W.codeIn K cd17 "_law_size" = true)
    (k17 : PySem.W.keepIn K (.ref f17) = true)
    (a18 : PySem.W.nsIn K mainGlobals "_law_twin" = some (some (.ref f18)))
    (l18 : K.lookup f18 = some ⟨oc18, od18, .func (PySem.W.fnOf "_law_twin" "_law_twin" (defArgs s_l_twin) (defBody s_l_twin) (defScope s_l_twin) .none kV18 dc18 pm18 an18 cd18 ct18), sl18⟩)
    (c18 : PySem.W.codeIn K cd18 "_law_twin" = true)
    (k18 : PySem.W.keepIn K (.ref f18) = true)
    (a19 : PySem.W.nsIn K mainGlobals "_law_turned" = some (some (.ref f19)))
    (l19 : K.lookup f19 = some ⟨oc19, od19, .func (PySem.W.fnOf "_law_turned" "_law_turned" (defArgs s_l_turned) (defBody s_l_turned) (defScope s_l_turned) .none kV19 dc19 pm19 an19 cd19 ct19), sl19⟩)
    (c19 : PySem.W.codeIn K cd19 "_law_turned" = true)
    (k19 : PySem.W.keepIn K (.ref f19) = true)
    (a20 : PySem.W.nsIn K mainGlobals "_law_round" = some (some (.ref f20)))
    (l20 : K.lookup f20 = some ⟨oc20, od20, .func (PySem.W.fnOf "_law_round" "_law_round" (defArgs s_l_round) (defBody s_l_round) (defScope s_l_round) .none kV20 dc20 pm20 an20 cd20 ct20), sl20⟩)
    (c20 : PySem.W.codeIn K cd20 "_law_round" = true)
    (k20 : PySem.W.keepIn K (.ref f20) = true)
    (a21 : PySem.W.nsIn K mainGlobals "_law_rounds" = some (some (.ref f21)))
    (l21 : K.lookup f21 = some ⟨oc21, od21, .func (PySem.W.fnOf "_law_rounds" "_law_rounds" (defArgs s_l_rounds) (defBody s_l_rounds) (defScope s_l_rounds) .none kV21 dc21 pm21 an21 cd21 ct21), sl21⟩)
    (c21 : PySem.W.codeIn K cd21 "_law_rounds" = true)
    (k21 : PySem.W.keepIn K (.ref f21) = true)
    (a22 : PySem.W.nsIn K mainGlobals "_law_line" = some (some (.ref f22)))
    (l22 : K.lookup f22 = some ⟨oc22, od22, .func (PySem.W.fnOf "_law_line" "_law_line" (defArgs s_l_line) (defBody s_l_line) (defScope s_l_line) .none kV22 dc22 pm22 an22 cd22 ct22), sl22⟩)
    (c22 : PySem.W.codeIn K cd22 "_law_line" = true)
    (k22 : PySem.W.keepIn K (.ref f22) = true)
    (a23 : PySem.W.nsIn K mainGlobals "_law_mixed" = some (some (.ref f23)))
    (l23 : K.lookup f23 = some ⟨oc23, od23, .func (PySem.W.fnOf "_law_mixed" "_law_mixed" (defArgs s_l_mixed) (defBody s_l_mixed) (defScope s_l_mixed) .none kV23 dc23 pm23 an23 cd23 ct23), sl23⟩)
    (c23 : PySem.W.codeIn K cd23 "_law_mixed" = true)
    (k23 : PySem.W.keepIn K (.ref f23) = true)
    (a24 : PySem.W.nsIn K mainGlobals "_law_spoilt" = some (some (.ref f24)))
    (l24 : K.lookup f24 = some ⟨oc24, od24, .func (PySem.W.fnOf "_law_spoilt" "_law_spoilt" (defArgs s_l_spoilt) (defBody s_l_spoilt) (defScope s_l_spoilt) .none kV24 dc24 pm24 an24 cd24 ct24), sl24⟩)
    (c24 : PySem.W.codeIn K cd24 "_law_spoilt" = true)
    (k24 : PySem.W.keepIn K (.ref f24) = true)
    (a25 : PySem.W.nsIn K mainGlobals "_law_told" = some (some (.ref f25)))
    (l25 : K.lookup f25 = some ⟨oc25, od25, .func (PySem.W.fnOf "_law_told" "_law_told" (defArgs s_l_told) (defBody s_l_told) (defScope s_l_told) .none kV25 dc25 pm25 an25 cd25 ct25), sl25⟩)
    (c25 : PySem.W.codeIn K cd25 "_law_told" = true)
    (k25 : PySem.W.keepIn K (.ref f25) = true)
    (a26 : PySem.W.nsIn K mainGlobals "_law_miscounted" = some (some (.ref f26)))
    (l26 : K.lookup f26 = some ⟨oc26, od26, .func (PySem.W.fnOf "_law_miscounted" "_law_miscounted" (defArgs s_l_miscounted) (defBody s_l_miscounted) (defScope s_l_miscounted) .none kV26 dc26 pm26 an26 cd26 ct26), sl26⟩)
    (c26 : PySem.W.codeIn K cd26 "_law_miscounted" = true)
    (k26 : PySem.W.keepIn K (.ref f26) = true)
    (a27 : PySem.W.nsIn K mainGlobals "law" = some (some (.ref f27)))
    (l27 : K.lookup f27 = some ⟨oc27, od27, .func (PySem.W.fnOf "law" "law" (defArgs s_law) (defBody s_law) (defScope s_law) .none kV27 dc27 pm27 an27 cd27 ct27), sl27⟩)
    (c27 : PySem.W.codeIn K cd27 "law" = true)
    (k27 : PySem.W.keepIn K (.ref f27) = true)
    (hx_NotAMesh : PySem.W.excIn K C_NotAMesh [.type "ValueError", .type "Exception", .type "BaseException", .type "object"] "ValueError.__new__" = true)
    (hk_NotAMesh : PySem.W.keepIn K (.ref C_NotAMesh) = true)
    (hs_NotAMesh : PySem.W.subIn K (.ref C_NotAMesh) (.type "BaseException") = some true)
    (ht_NotAMesh : PySem.W.typeIn K (.ref C_NotAMesh) = some (.type "type"))
    (hi_NotAMesh : PySem.W.isClsIn K C_NotAMesh = true)
    (hss_NotAMesh : PySem.W.subIn K (.ref C_NotAMesh) (.ref C_NotAMesh) = some true)
    (hxg_NotAMesh : PySem.W.findIn K (.ref C_NotAMesh) "__getattribute__" = some (some (.builtin "BaseException.__getattribute__")))
    (hxk_NotAMesh : PySem.W.findIn K (.ref C_NotAMesh) "__getattr__" = some none)
    (hxd_NotAMesh : PySem.W.hasDictIn K C_NotAMesh = true)
    (hxa_NotAMesh : PySem.W.findIn K (.ref C_NotAMesh) "__class__" = some (some (.builtin "object.__class__")))
    (hxm_NotAMesh : PySem.W.mroIn K C_NotAMesh (.type "object") = some true)
    (hki_NotAMesh_MeshError : PySem.W.kitOne K (.ref C_NotAMesh) (.ref C_MeshError) = some true)
    (hem_NotAMesh_BadLine : PySem.W.exmOne K (.ref C_NotAMesh) (.ref C_BadLine) = some false)
    (hk_BadLine : PySem.W.keepIn K (.ref C_BadLine) = true)
    (hs_BadLine : PySem.W.subIn K (.ref C_BadLine) (.type "BaseException") = some true)
    (ht_BadLine : PySem.W.typeIn K (.ref C_BadLine) = some (.type "type"))
    (hi_BadLine : PySem.W.isClsIn K C_BadLine = true)
    (hss_BadLine : PySem.W.subIn K (.ref C_BadLine) (.ref C_BadLine) = some true)
    (hxg_BadLine : PySem.W.findIn K (.ref C_BadLine) "__getattribute__" = some (some (.builtin "BaseException.__getattribute__")))
    (hxk_BadLine : PySem.W.findIn K (.ref C_BadLine) "__getattr__" = some none)
    (hxd_BadLine : PySem.W.hasDictIn K C_BadLine = true)
    (hxa_BadLine : PySem.W.findIn K (.ref C_BadLine) "__class__" = some (some (.builtin "object.__class__")))
    (hxm_BadLine : PySem.W.mroIn K C_BadLine (.type "object") = some true)
    (hox_BadLine : RD.oexB K C_BadLine = true)
    (hsa_BadLine : PySem.W.findIn K (.ref C_BadLine) "__setattr__" = some (some (.builtin "object.__setattr__")))
    (hini_BadLine : PySem.W.findIn K (.ref C_BadLine) "__init__" = some (some (.ref f1)))
    (htin_BadLine : PySem.W.typeIn K (.ref f1) = some (.type "function"))
    (hna_BadLine_line : PySem.W.findIn K (.ref C_BadLine) "line" = some none)
    (hki_BadLine_MeshError : PySem.W.kitOne K (.ref C_BadLine) (.ref C_MeshError) = some true)
    (pg_Mesh : PySem.W.plainGet K C_Mesh Str.empty = true)
    (hd_Mesh : PySem.W.hasDictIn K C_Mesh = true)
    (po_Mesh : PySem.W.plainOver K C_Mesh = true)
    (sa_Mesh : PySem.W.findIn K (.ref C_Mesh) "__setattr__" = some (some (.builtin "object.__setattr__")))
    (mk_Mesh : PySem.W.makesIn K C_Mesh = true)
    (kc_Mesh : PySem.W.keepIn K (.ref C_Mesh) = true)
    (hn_Mesh_following : PySem.W.findIn K (.ref C_Mesh) "following" = some none)
    (hn_Mesh_preceding : PySem.W.findIn K (.ref C_Mesh) "preceding" = some none)
    (hnf_list : PySem.W.notFirst K C_Mesh (.type "list") = true)
    (hnf_int : PySem.W.notFirst K C_Mesh (.type "int") = true)
    (hxa_Mesh : PySem.W.findIn K (.ref C_Mesh) "__class__" = some (some (.builtin "object.__class__")))
    (hxm_Mesh : PySem.W.mroIn K C_Mesh (.type "object") = some true)
    (hki_list_Mesh : PySem.W.kitOne K (.type "list") (.ref C_Mesh) = some false)
    (hki_int_Mesh : PySem.W.kitOne K (.type "int") (.ref C_Mesh) = some false)
    (hz_abs : PySem.W.nsIn K mainGlobals "abs" = some none)
    (hz_all : PySem.W.nsIn K mainGlobals "all" = some none)
    (hz_bool : PySem.W.nsIn K mainGlobals "bool" = some none)
    (hz_enumerate : PySem.W.nsIn K mainGlobals "enumerate" = some none)
    (hz_int : PySem.W.nsIn K mainGlobals "int" = some none)
    (hz_isinstance : PySem.W.nsIn K mainGlobals "isinstance" = some none)
    (hz_len : PySem.W.nsIn K mainGlobals "len" = some none)
    (hz_list : PySem.W.nsIn K mainGlobals "list" = some none)
    (hz_max : PySem.W.nsIn K mainGlobals "max" = some none)
    (hz_min : PySem.W.nsIn K mainGlobals "min" = some none)
    (hz_range : PySem.W.nsIn K mainGlobals "range" = some none)
    (hz_sorted : PySem.W.nsIn K mainGlobals "sorted" = some none)
    (hz_str : PySem.W.nsIn K mainGlobals "str" = some none)
    (hz_zip : PySem.W.nsIn K mainGlobals "zip" = some none)
    (hk_DIGITS : PySem.W.nsIn K mainGlobals "DIGITS" = some (some (.str "0123456789" tk_DIGITS)))
    (hk_LONGEST_NUMBER : PySem.W.nsIn K mainGlobals "LONGEST_NUMBER" = some (some (.int 4 tk_LONGEST_NUMBER)))
    (hoc_get : PySem.W.specialIn K (.builtin "object.__class__") "__get__" = some (some (.builtin "getset_descriptor.__get__")))
    (hoc_tak : PySem.W.takesIn K (.builtin "object.__class__") = some true)
    : ∃ fd : FuncData, (∀ (s : Shared) (v : Value), BindsTo s fd ⟨[v], []⟩ [("_law_script", v)]) ∧ ∀ base : Heap, K.In base → base.Ns mainGlobals mg → FnOk l.prog w K mg base CX0 6 fa fd ["_law_script"] (sp_law K) := by
  have e := hfa.symm.trans (PySem.W.mg_of X G a27)
  cases e
  let A : Ad := ⟨f1, (PySem.W.fnOf "__init__" "BadLine.__init__" (defArgs s_BadLine_d_initd_) (defBody s_BadLine_d_initd_) (defScope s_BadLine_d_initd_) .none kV1 dc1 pm1 an1 cd1 ct1), f2, (PySem.W.fnOf "rounds" "rounds" (defArgs s_rounds) (defBody s_rounds) (defScope s_rounds) .none kV2 dc2 pm2 an2 cd2 ct2), f3, (PySem.W.fnOf "are_integers" "are_integers" (defArgs s_are_integers) (defBody s_are_integers) (defScope s_are_integers) .none kV3 dc3 pm3 an3 cd3 ct3), f4, (PySem.W.fnOf "__init__" "Mesh.__init__" (defArgs s_Mesh_d_initd_) (defBody s_Mesh_d_initd_) (defScope s_Mesh_d_initd_) .none kV4 dc4 pm4 an4 cd4 ct4), f5, (PySem.W.fnOf "__len__" "Mesh.__len__" (defArgs s_Mesh_d_lend_) (defBody s_Mesh_d_lend_) (defScope s_Mesh_d_lend_) .none kV5 dc5 pm5 an5 cd5 ct5), f6, (PySem.W.fnOf "__contains__" "Mesh.__contains__" (defArgs s_Mesh_d_containsd_) (defBody s_Mesh_d_containsd_) (defScope s_Mesh_d_containsd_) .none kV6 dc6 pm6 an6 cd6 ct6), f7, (PySem.W.fnOf "__eq__" "Mesh.__eq__" (defArgs s_Mesh_d_eqd_) (defBody s_Mesh_d_eqd_) (defScope s_Mesh_d_eqd_) .none kV7 dc7 pm7 an7 cd7 ct7), f8, (PySem.W.fnOf "after" "Mesh.after" (defArgs s_Mesh_after) (defBody s_Mesh_after) (defScope s_Mesh_after) .none kV8 dc8 pm8 an8 cd8 ct8), f9, (PySem.W.fnOf "nexts" "Mesh.nexts" (defArgs s_Mesh_nexts) (defBody s_Mesh_nexts) (defScope s_Mesh_nexts) .none kV9 dc9 pm9 an9 cd9 ct9), f10, (PySem.W.fnOf "faces" "Mesh.faces" (defArgs s_Mesh_faces) (defBody s_Mesh_faces) (defScope s_Mesh_faces) .none kV10 dc10 pm10 an10 cd10 ct10), f11, (PySem.W.fnOf "text" "Mesh.text" (defArgs s_Mesh_text) (defBody s_Mesh_text) (defScope s_Mesh_text) .none kV11 dc11 pm11 an11 cd11 ct11), f12, (PySem.W.fnOf "read_number" "read_number" (defArgs s_read_number) (defBody s_read_number) (defScope s_read_number) .none kV12 dc12 pm12 an12 cd12 ct12), f13, (PySem.W.fnOf "read_mesh" "read_mesh" (defArgs s_read_mesh) (defBody s_read_mesh) (defScope s_read_mesh) .none kV13 dc13 pm13 an13 cd13 ct13), f14, (PySem.W.fnOf "_law_tape" "_law_tape" (defArgs s_l_tape) (defBody s_l_tape) (defScope s_l_tape) .none kV14 dc14 pm14 an14 cd14 ct14), f15, (PySem.W.fnOf "_law_pick" "_law_pick" (defArgs s_l_pick) (defBody s_l_pick) (defScope s_l_pick) .none kV15 dc15 pm15 an15 cd15 ct15), f16, (PySem.W.fnOf "_law_nexts" "_law_nexts" (defArgs s_l_nexts) (defBody s_l_nexts) (defScope s_l_nexts) .none kV16 dc16 pm16 an16 cd16 ct16), f17, (PySem.W.fnOf "_law_size" "_law_size" (defArgs s_l_size) (defBody s_l_size) (defScope s_l_size) .none kV17 dc17 pm17 an17 cd17 ct17), f18, (PySem.W.fnOf "_law_twin" "_law_twin" (defArgs s_l_twin) (defBody s_l_twin) (defScope s_l_twin) .none kV18 dc18 pm18 an18 cd18 ct18), f19, (PySem.W.fnOf "_law_turned" "_law_turned" (defArgs s_l_turned) (defBody s_l_turned) (defScope s_l_turned) .none kV19 dc19 pm19 an19 cd19 ct19), f20, (PySem.W.fnOf "_law_round" "_law_round" (defArgs s_l_round) (defBody s_l_round) (defScope s_l_round) .none kV20 dc20 pm20 an20 cd20 ct20), f21, (PySem.W.fnOf "_law_rounds" "_law_rounds" (defArgs s_l_rounds) (defBody s_l_rounds) (defScope s_l_rounds) .none kV21 dc21 pm21 an21 cd21 ct21), f22, (PySem.W.fnOf "_law_line" "_law_line" (defArgs s_l_line) (defBody s_l_line) (defScope s_l_line) .none kV22 dc22 pm22 an22 cd22 ct22), f23, (PySem.W.fnOf "_law_mixed" "_law_mixed" (defArgs s_l_mixed) (defBody s_l_mixed) (defScope s_l_mixed) .none kV23 dc23 pm23 an23 cd23 ct23), f24, (PySem.W.fnOf "_law_spoilt" "_law_spoilt" (defArgs s_l_spoilt) (defBody s_l_spoilt) (defScope s_l_spoilt) .none kV24 dc24 pm24 an24 cd24 ct24), f25, (PySem.W.fnOf "_law_told" "_law_told" (defArgs s_l_told) (defBody s_l_told) (defScope s_l_told) .none kV25 dc25 pm25 an25 cd25 ct25), f26, (PySem.W.fnOf "_law_miscounted" "_law_miscounted" (defArgs s_l_miscounted) (defBody s_l_miscounted) (defScope s_l_miscounted) .none kV26 dc26 pm26 an26 cd26 ct26), fa, (PySem.W.fnOf "law" "law" (defArgs s_law) (defBody s_law) (defScope s_law) .none kV27 dc27 pm27 an27 cd27 ct27), C_MeshError, C_NotAMesh, C_BadLine, C_Mesh⟩
  have T : Txt K mg A := ⟨fun_mk (st := s_BadLine_d_initd_) l1 c1 k1,
    (fun_mk (st := s_BadLine_d_initd_) l1 c1 k1).binds (ps := ["self", "line"]) fun _ _ _ _ _ _ us hl => match us, hl with | [_, _], _ => rfl,
    fun_mk (st := s_rounds) l2 c2 k2,
    (fun_mk (st := s_rounds) l2 c2 k2).binds (ps := ["steps"]) fun _ _ _ _ _ _ us hl => match us, hl with | [_], _ => rfl,
    PySem.W.mg_of X G a2,
    fun_mk (st := s_are_integers) l3 c3 k3,
    (fun_mk (st := s_are_integers) l3 c3 k3).binds (ps := ["values"]) fun _ _ _ _ _ _ us hl => match us, hl with | [_], _ => rfl,
    PySem.W.mg_of X G a3,
    fun_mk (st := s_Mesh_d_initd_) l4 c4 k4,
    (fun_mk (st := s_Mesh_d_initd_) l4 c4 k4).binds (ps := ["self", "nexts"]) fun _ _ _ _ _ _ us hl => match us, hl with | [_, _], _ => rfl,
    ⟨a4, i4, k4⟩,
    fun_mk (st := s_Mesh_d_lend_) l5 c5 k5,
    (fun_mk (st := s_Mesh_d_lend_) l5 c5 k5).binds (ps := ["self"]) fun _ _ _ _ _ _ us hl => match us, hl with | [_], _ => rfl,
    ⟨a5, i5, k5⟩,
    fun_mk (st := s_Mesh_d_containsd_) l6 c6 k6,
    (fun_mk (st := s_Mesh_d_containsd_) l6 c6 k6).binds (ps := ["self", "half"]) fun _ _ _ _ _ _ us hl => match us, hl with | [_, _], _ => rfl,
    ⟨a6, i6, k6⟩,
    fun_mk (st := s_Mesh_d_eqd_) l7 c7 k7,
    (fun_mk (st := s_Mesh_d_eqd_) l7 c7 k7).binds (ps := ["self", "other"]) fun _ _ _ _ _ _ us hl => match us, hl with | [_, _], _ => rfl,
    ⟨a7, i7, k7⟩,
    fun_mk (st := s_Mesh_after) l8 c8 k8,
    (fun_mk (st := s_Mesh_after) l8 c8 k8).binds (ps := ["self", "half"]) fun _ _ _ _ _ _ us hl => match us, hl with | [_, _], _ => rfl,
    ⟨a8, i8, k8⟩,
    fun_mk (st := s_Mesh_nexts) l9 c9 k9,
    (fun_mk (st := s_Mesh_nexts) l9 c9 k9).binds (ps := ["self"]) fun _ _ _ _ _ _ us hl => match us, hl with | [_], _ => rfl,
    ⟨a9, i9, k9⟩,
    fun_mk (st := s_Mesh_faces) l10 c10 k10,
    (fun_mk (st := s_Mesh_faces) l10 c10 k10).binds (ps := ["self"]) fun _ _ _ _ _ _ us hl => match us, hl with | [_], _ => rfl,
    ⟨a10, i10, k10⟩,
    fun_mk (st := s_Mesh_text) l11 c11 k11,
    (fun_mk (st := s_Mesh_text) l11 c11 k11).binds (ps := ["self"]) fun _ _ _ _ _ _ us hl => match us, hl with | [_], _ => rfl,
    ⟨a11, i11, k11⟩,
    fun_mk (st := s_read_number) l12 c12 k12,
    (fun_mk (st := s_read_number) l12 c12 k12).binds (ps := ["word"]) fun _ _ _ _ _ _ us hl => match us, hl with | [_], _ => rfl,
    PySem.W.mg_of X G a12,
    fun_mk (st := s_read_mesh) l13 c13 k13,
    (fun_mk (st := s_read_mesh) l13 c13 k13).binds (ps := ["text"]) fun _ _ _ _ _ _ us hl => match us, hl with | [_], _ => rfl,
    PySem.W.mg_of X G a13,
    fun_mk (st := s_l_tape) l14 c14 k14,
    (fun_mk (st := s_l_tape) l14 c14 k14).binds (ps := ["_law_script", "_law_k"]) fun _ _ _ _ _ _ us hl => match us, hl with | [_, _], _ => rfl,
    PySem.W.mg_of X G a14,
    fun_mk (st := s_l_pick) l15 c15 k15,
    (fun_mk (st := s_l_pick) l15 c15 k15).binds (ps := ["_law_tape_here", "_law_many"]) fun _ _ _ _ _ _ us hl => match us, hl with | [_, _], _ => rfl,
    PySem.W.mg_of X G a15,
    fun_mk (st := s_l_nexts) l16 c16 k16,
    (fun_mk (st := s_l_nexts) l16 c16 k16).binds (ps := ["_law_tape_here", "_law_edges"]) fun _ _ _ _ _ _ us hl => match us, hl with | [_, _], _ => rfl,
    PySem.W.mg_of X G a16,
    fun_mk (st := s_l_size) l17 c17 k17,
    (fun_mk (st := s_l_size) l17 c17 k17).binds (ps := ["_law_tape_here"]) fun _ _ _ _ _ _ us hl => match us, hl with | [_], _ => rfl,
    PySem.W.mg_of X G a17,
    fun_mk (st := s_l_twin) l18 c18 k18,
    (fun_mk (st := s_l_twin) l18 c18 k18).binds (ps := ["_law_half"]) fun _ _ _ _ _ _ us hl => match us, hl with | [_], _ => rfl,
    PySem.W.mg_of X G a18,
    fun_mk (st := s_l_turned) l19 c19 k19,
    (fun_mk (st := s_l_turned) l19 c19 k19).binds (ps := ["_law_nexts_here", "_law_half"]) fun _ _ _ _ _ _ us hl => match us, hl with | [_, _], _ => rfl,
    PySem.W.mg_of X G a19,
    fun_mk (st := s_l_round) l20 c20 k20,
    (fun_mk (st := s_l_round) l20 c20 k20).binds (ps := ["_law_nexts_here", "_law_half", "_law_by_face"]) fun _ _ _ _ _ _ us hl => match us, hl with | [_, _, _], _ => rfl,
    PySem.W.mg_of X G a20,
    fun_mk (st := s_l_rounds) l21 c21 k21,
    (fun_mk (st := s_l_rounds) l21 c21 k21).binds (ps := ["_law_nexts_here", "_law_by_face"]) fun _ _ _ _ _ _ us hl => match us, hl with | [_, _], _ => rfl,
    PySem.W.mg_of X G a21,
    fun_mk (st := s_l_line) l22 c22 k22,
    (fun_mk (st := s_l_line) l22 c22 k22).binds (ps := ["_law_members"]) fun _ _ _ _ _ _ us hl => match us, hl with | [_], _ => rfl,
    PySem.W.mg_of X G a22,
    fun_mk (st := s_l_mixed) l23 c23 k23,
    (fun_mk (st := s_l_mixed) l23 c23 k23).binds (ps := ["_law_tape_here", "_law_faces"]) fun _ _ _ _ _ _ us hl => match us, hl with | [_, _], _ => rfl,
    PySem.W.mg_of X G a23,
    fun_mk (st := s_l_spoilt) l24 c24 k24,
    (fun_mk (st := s_l_spoilt) l24 c24 k24).binds (ps := ["_law_line_here", "_law_choice", "_law_place"]) fun _ _ _ _ _ _ us hl => match us, hl with | [_, _, _], _ => rfl,
    PySem.W.mg_of X G a24,
    fun_mk (st := s_l_told) l25 c25 k25,
    (fun_mk (st := s_l_told) l25 c25 k25).binds (ps := ["_law_text"]) fun _ _ _ _ _ _ us hl => match us, hl with | [_], _ => rfl,
    PySem.W.mg_of X G a25,
    fun_mk (st := s_l_miscounted) l26 c26 k26,
    (fun_mk (st := s_l_miscounted) l26 c26 k26).binds (ps := ["_law_lines", "_law_choice", "_law_place", "_law_size_here"]) fun _ _ _ _ _ _ us hl => match us, hl with | [_, _, _, _], _ => rfl,
    PySem.W.mg_of X G a26,
    fun_mk (st := s_law) l27 c27 k27,
    (fun_mk (st := s_law) l27 c27 k27).binds (ps := ["_law_script"]) fun _ _ _ _ _ _ us hl => match us, hl with | [_], _ => rfl,
    PySem.W.mg_of X G a27,
    PySem.W.mg_of X G aC_MeshError,
    PySem.W.mg_of X G aC_NotAMesh,
    hx_NotAMesh,
    hk_NotAMesh,
    hs_NotAMesh,
    ht_NotAMesh,
    hi_NotAMesh,
    hss_NotAMesh,
    hxg_NotAMesh,
    hxk_NotAMesh,
    hxd_NotAMesh,
    hxa_NotAMesh,
    hxm_NotAMesh,
    hki_NotAMesh_MeshError,
    hem_NotAMesh_BadLine,
    PySem.W.mg_of X G aC_BadLine,
    hk_BadLine,
    hs_BadLine,
    ht_BadLine,
    hi_BadLine,
    hss_BadLine,
    hxg_BadLine,
    hxk_BadLine,
    hxd_BadLine,
    hxa_BadLine,
    hxm_BadLine,
    hox_BadLine,
    hsa_BadLine,
    hini_BadLine,
    htin_BadLine,
    hna_BadLine_line,
    hki_BadLine_MeshError,
    PySem.W.mg_of X G aC_Mesh,
    ⟨pg_Mesh, hd_Mesh, po_Mesh, sa_Mesh⟩,
    ⟨mk_Mesh, a4, i4, kc_Mesh⟩,
    hn_Mesh_following,
    hn_Mesh_preceding,
    hnf_list,
    hnf_int,
    hxa_Mesh,
    hxm_Mesh,
    hki_list_Mesh,
    hki_int_Mesh,
    PySem.W.mg_none_of X G hz_abs,
    PySem.W.mg_none_of X G hz_all,
    PySem.W.mg_none_of X G hz_bool,
    PySem.W.mg_none_of X G hz_enumerate,
    PySem.W.mg_none_of X G hz_int,
    PySem.W.mg_none_of X G hz_isinstance,
    PySem.W.mg_none_of X G hz_len,
    PySem.W.mg_none_of X G hz_list,
    PySem.W.mg_none_of X G hz_max,
    PySem.W.mg_none_of X G hz_min,
    PySem.W.mg_none_of X G hz_range,
    PySem.W.mg_none_of X G hz_sorted,
    PySem.W.mg_none_of X G hz_str,
    PySem.W.mg_none_of X G hz_zip,
    ⟨_, PySem.W.mg_of X G hk_DIGITS⟩,
    ⟨_, PySem.W.mg_of X G hk_LONGEST_NUMBER⟩,
    hoc_get,
    hoc_tak⟩
  exact ⟨A.d_law, fun s v => .of_eq rfl, fun base _ _ => ok_law (A := A) T⟩
end Pf
open PySem PySem.W PyProof.Rows
set_option maxRecDepth 100000 in
set_option maxHeartbeats 0 in
theorem PySem.Challenge.cw_halfmeshes_k14_texts_of_meshes_holds : PySem.Challenge.rw_halfmeshes_k14_texts_of_meshes.Holds := by
  w_on; o_law; k_head; (case hw => w_witness2)
  k_fill
  refine L2.walk_of (l := PySem.Challenge.rw_halfmeshes_k14_texts_of_meshes) (n := 63) (k := 6) (x := "_law_script") (CX := fun _ => L2.CX0) (sp := fun w => Pf.sp_law _) rfl (by decide) rfl ⟨rfl, by decide, by decide⟩ (fun w h Y => PySem.W.kIn_of Y) ?F (fun _ _ a ns hl _ hS => ⟨a, ns, rfl, hS, hl, fun _ => rfl⟩) (fun _ _ _ _ _ h => h)
  case F =>
    intro w mg fa h KX G hmg
    refine' Pf.all_mk KX G hmg ?aC_MeshError ?aC_NotAMesh ?aC_BadLine ?aC_Mesh ?a1 ?i1 ?l1 ?c1 ?k1 ?a2 ?l2 ?c2 ?k2 ?a3 ?l3 ?c3 ?k3 ?a4 ?i4 ?l4 ?c4 ?k4 ?a5 ?i5 ?l5 ?c5 ?k5 ?a6 ?i6 ?l6 ?c6 ?k6 ?a7 ?i7 ?l7 ?c7 ?k7 ?a8 ?i8 ?l8 ?c8 ?k8 ?a9 ?i9 ?l9 ?c9 ?k9 ?a10 ?i10 ?l10 ?c10 ?k10 ?a11 ?i11 ?l11 ?c11 ?k11 ?a12 ?l12 ?c12 ?k12 ?a13 ?l13 ?c13 ?k13 ?a14 ?l14 ?c14 ?k14 ?a15 ?l15 ?c15 ?k15 ?a16 ?l16 ?c16 ?k16 ?a17 ?l17 ?c17 ?k17 ?a18 ?l18 ?c18 ?k18 ?a19 ?l19 ?c19 ?k19 ?a20 ?l20 ?c20 ?k20 ?a21 ?l21 ?c21 ?k21 ?a22 ?l22 ?c22 ?k22 ?a23 ?l23 ?c23 ?k23 ?a24 ?l24 ?c24 ?k24 ?a25 ?l25 ?c25 ?k25 ?a26 ?l26 ?c26 ?k26 ?a27 ?l27 ?c27 ?k27 ?hx_NotAMesh ?hk_NotAMesh ?hs_NotAMesh ?ht_NotAMesh ?hi_NotAMesh ?hss_NotAMesh ?hxg_NotAMesh ?hxk_NotAMesh ?hxd_NotAMesh ?hxa_NotAMesh ?hxm_NotAMesh ?hki_NotAMesh_MeshError ?hem_NotAMesh_BadLine ?hk_BadLine ?hs_BadLine ?ht_BadLine ?hi_BadLine ?hss_BadLine ?hxg_BadLine ?hxk_BadLine ?hxd_BadLine ?hxa_BadLine ?hxm_BadLine ?hox_BadLine ?hsa_BadLine ?hini_BadLine ?htin_BadLine ?hna_BadLine_line ?hki_BadLine_MeshError ?pg_Mesh ?hd_Mesh ?po_Mesh ?sa_Mesh ?mk_Mesh ?kc_Mesh ?hn_Mesh_following ?hn_Mesh_preceding ?hnf_list ?hnf_int ?hxa_Mesh ?hxm_Mesh ?hki_list_Mesh ?hki_int_Mesh ?hz_abs ?hz_all ?hz_bool ?hz_enumerate ?hz_int ?hz_isinstance ?hz_len ?hz_list ?hz_max ?hz_min ?hz_range ?hz_sorted ?hz_str ?hz_zip ?hk_DIGITS ?hk_LONGEST_NUMBER ?hoc_get ?hoc_tak
    (case aC_MeshError => k_is)
    (case aC_NotAMesh => k_is)
    (case aC_BadLine => k_is)
    (case aC_Mesh => k_is)
    (case a1 => k_is)
    (case i1 => k_is)
    (case l1 => k_is)
    (case c1 => k_is)
    (case k1 => k_is)
    (case a2 => k_is)
    (case l2 => k_is)
    (case c2 => k_is)
    (case k2 => k_is)
    (case a3 => k_is)
    (case l3 => k_is)
    (case c3 => k_is)
    (case k3 => k_is)
    (case a4 => k_is)
    (case i4 => k_is)
    (case l4 => k_is)
    (case c4 => k_is)
    (case k4 => k_is)
    (case a5 => k_is)
    (case i5 => k_is)
    (case l5 => k_is)
    (case c5 => k_is)
    (case k5 => k_is)
    (case a6 => k_is)
    (case i6 => k_is)
    (case l6 => k_is)
    (case c6 => k_is)
    (case k6 => k_is)
    (case a7 => k_is)
    (case i7 => k_is)
    (case l7 => k_is)
    (case c7 => k_is)
    (case k7 => k_is)
    (case a8 => k_is)
    (case i8 => k_is)
    (case l8 => k_is)
    (case c8 => k_is)
    (case k8 => k_is)
    (case a9 => k_is)
    (case i9 => k_is)
    (case l9 => k_is)
    (case c9 => k_is)
    (case k9 => k_is)
    (case a10 => k_is)
    (case i10 => k_is)
    (case l10 => k_is)
    (case c10 => k_is)
    (case k10 => k_is)
    (case a11 => k_is)
    (case i11 => k_is)
    (case l11 => k_is)
    (case c11 => k_is)
    (case k11 => k_is)
    (case a12 => k_is)
    (case l12 => k_is)
    (case c12 => k_is)
    (case k12 => k_is)
    (case a13 => k_is)
    (case l13 => k_is)
    (case c13 => k_is)
    (case k13 => k_is)
    (case a14 => k_is)
    (case l14 => k_is)
    (case c14 => k_is)
    (case k14 => k_is)
    (case a15 => k_is)
    (case l15 => k_is)
    (case c15 => k_is)
    (case k15 => k_is)
    (case a16 => k_is)
    (case l16 => k_is)
    (case c16 => k_is)
    (case k16 => k_is)
    (case a17 => k_is)
    (case l17 => k_is)
    (case c17 => k_is)
    (case k17 => k_is)
    (case a18 => k_is)
    (case l18 => k_is)
    (case c18 => k_is)
    (case k18 => k_is)
    (case a19 => k_is)
    (case l19 => k_is)
    (case c19 => k_is)
    (case k19 => k_is)
    (case a20 => k_is)
    (case l20 => k_is)
    (case c20 => k_is)
    (case k20 => k_is)
    (case a21 => k_is)
    (case l21 => k_is)
    (case c21 => k_is)
    (case k21 => k_is)
    (case a22 => k_is)
    (case l22 => k_is)
    (case c22 => k_is)
    (case k22 => k_is)
    (case a23 => k_is)
    (case l23 => k_is)
    (case c23 => k_is)
    (case k23 => k_is)
    (case a24 => k_is)
    (case l24 => k_is)
    (case c24 => k_is)
    (case k24 => k_is)
    (case a25 => k_is)
    (case l25 => k_is)
    (case c25 => k_is)
    (case k25 => k_is)
    (case a26 => k_is)
    (case l26 => k_is)
    (case c26 => k_is)
    (case k26 => k_is)
    (case a27 => k_is)
    (case l27 => k_is)
    (case c27 => k_is)
    (case k27 => k_is)
    (case hx_NotAMesh => first | k_exc | k_is)
    (case hk_NotAMesh => first | rfl | k_is)
    (case hs_NotAMesh => first | rfl | k_is)
    (case ht_NotAMesh => first | rfl | k_is)
    (case hi_NotAMesh => first | rfl | k_is)
    (case hss_NotAMesh => first | rfl | k_is)
    (case hxg_NotAMesh => first | rfl | k_is)
    (case hxk_NotAMesh => first | rfl | k_is)
    (case hxd_NotAMesh => first | rfl | k_is)
    (case hxa_NotAMesh => first | rfl | k_is)
    (case hxm_NotAMesh => first | rfl | k_is)
    (case hki_NotAMesh_MeshError => first | rfl | k_is)
    (case hem_NotAMesh_BadLine => first | rfl | k_is)
    (case hk_BadLine => first | rfl | k_is)
    (case hs_BadLine => first | rfl | k_is)
    (case ht_BadLine => first | rfl | k_is)
    (case hi_BadLine => first | rfl | k_is)
    (case hss_BadLine => first | rfl | k_is)
    (case hxg_BadLine => first | rfl | k_is)
    (case hxk_BadLine => first | rfl | k_is)
    (case hxd_BadLine => first | rfl | k_is)
    (case hxa_BadLine => first | rfl | k_is)
    (case hxm_BadLine => first | rfl | k_is)
    (case hox_BadLine => first | rfl | k_is)
    (case hsa_BadLine => first | rfl | k_is)
    (case hini_BadLine => first | rfl | k_is)
    (case htin_BadLine => first | rfl | k_is)
    (case hna_BadLine_line => first | rfl | k_is)
    (case hki_BadLine_MeshError => first | rfl | k_is)
    (case pg_Mesh => k_is)
    (case hd_Mesh => k_is)
    (case po_Mesh => k_is)
    (case sa_Mesh => k_is)
    (case mk_Mesh => k_is)
    (case kc_Mesh => k_is)
    (case hn_Mesh_following => k_is)
    (case hn_Mesh_preceding => k_is)
    (case hnf_list => first | rfl | k_is)
    (case hnf_int => first | rfl | k_is)
    (case hxa_Mesh => first | rfl | k_is)
    (case hxm_Mesh => first | rfl | k_is)
    (case hki_list_Mesh => first | rfl | k_is)
    (case hki_int_Mesh => first | rfl | k_is)
    (case hz_abs => k_is)
    (case hz_all => k_is)
    (case hz_bool => k_is)
    (case hz_enumerate => k_is)
    (case hz_int => k_is)
    (case hz_isinstance => k_is)
    (case hz_len => k_is)
    (case hz_list => k_is)
    (case hz_max => k_is)
    (case hz_min => k_is)
    (case hz_range => k_is)
    (case hz_sorted => k_is)
    (case hz_str => k_is)
    (case hz_zip => k_is)
    (case hk_DIGITS => k_is)
    (case hk_LONGEST_NUMBER => k_is)
    (case hoc_get => first | rfl | k_is)
    (case hoc_tak => first | rfl | k_is)
