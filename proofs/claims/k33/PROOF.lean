import PyProof.Rows.All
import Wide.All
import OpenK.AllK
import Wide.FinOn
import PyProof.EqAt
import PyProof.EqKinds
import PyProof.TupleCall
import HandS.ForMost
import HandS.Walk
import HandS.Conv
import HandS.IsInst
import HandS.ForExc
import HandS.NoneIn
import HandS.Property
import HandS.Flt
import HandS.ExcIs
import HandS.TryMany
import HandS.ExcInit
import HandS.ExcField
import HandS.Codes
import HandS.More
import HandS.Star
import HandS.DictComp
import HandS.Deep
import HandS.Defaults
import HandS.TupSets
import HandS.Zip
import HandS.Strs
import HandS.Small
import HandS.Style
import HandS.Flow
import HandS.TupAny
import PySem.Challenge.RW_halfmeshes_k33_names

set_option Elab.async false
set_option linter.all false
set_option maxRecDepth 100000
set_option maxHeartbeats 4000000
namespace RD
open PySem PySem.Spec PyProof.Rows L2
section
variable {σ s : L2.St} {H : Hp} {Q : VK} {nx bk ct : L2.St → Hp → Prop} {rt : VK} {te ta tb tc : TE} {t u : TS} {c c2 : TT} {v x : V} {ox : Option V} {i : Nat} {QB : Bool → Hp → Prop}
theorem seq (h : t ⟨u ⟨nx, rt, bk, ct⟩, rt, bk, ct⟩ σ H) : tSeq t u ⟨nx, rt, bk, ct⟩ σ H := h
theorem asg {g : TG} (h : te σ H fun x H1 => g x σ H1 nx) : tAsg te g ⟨nx, rt, bk, ct⟩ σ H := h
theorem ret (h : te σ H rt) : tRet te ⟨nx, rt, bk, ct⟩ σ H := h
theorem retN (h : rt .non H) : tRetN ⟨nx, rt, bk, ct⟩ σ H := h
theorem drp (h : te σ H fun _ H1 => nx σ H1) : tDrop te ⟨nx, rt, bk, ct⟩ σ H := h
theorem ifs (h : c σ H fun b H1 => if b = true then t ⟨nx, rt, bk, ct⟩ σ H1 else u ⟨nx, rt, bk, ct⟩ σ H1) : tIfS c t u ⟨nx, rt, bk, ct⟩ σ H := h
theorem nxt (h : nx σ H) : tNext ⟨nx, rt, bk, ct⟩ σ H := h
theorem brk (h : bk σ H) : tBreak ⟨nx, rt, bk, ct⟩ σ H := h
theorem cnt (h : ct σ H) : tCont ⟨nx, rt, bk, ct⟩ σ H := h
theorem aug {ti : TIp} (h : tVar i σ H fun x _ => te σ H fun y H1 => ti x y H1 fun z H2 => gName i z σ H2 nx) : tAug i te ti ⟨nx, rt, bk, ct⟩ σ H := h
theorem gn0 {QG : L2.St → Hp → Prop} (h : QG (some v :: s) H) : gName 0 v (ox :: s) H QG := h
theorem gnS {QG : L2.St → Hp → Prop} (h : gName i v s H fun s' H' => QG (ox :: s') H') : gName (i + 1) v (ox :: s) H QG := h
theorem var0 (h : Q v H) : tVar 0 (some v :: s) H Q := ⟨v, rfl, h⟩
theorem varS (h : tVar i s H Q) : tVar (i + 1) (ox :: s) H Q := by
  obtain ⟨v, e, q⟩ := h
  exact ⟨v, by simpa using e, q⟩
theorem cst (h : Q v H) : tC v σ H Q := h
theorem op {r : R2} (h : ta σ H fun x H1 => tb σ H1 fun y H2 => r x y H2 Q) : tOp r ta tb σ H Q := h
theorem un {r : V → Hp → VK → Prop} (h : ta σ H fun x H1 => r x H1 Q) : tUn r ta σ H Q := h
theorem i0 {g : Int → Int → V} {a b : Int} (h : Q (g a b) H) : rI0 g (.int a) (.int b) H Q := ⟨a, b, rfl, rfl, h⟩
theorem iC {C : Int → Int → Prop} {g : Int → Int → V} {a b : Int} (hc : C a b) (h : Q (g a b) H) : rI C g (.int a) (.int b) H Q := ⟨a, b, rfl, rfl, hc, h⟩
theorem u0 {g : Int → V} {a : Int} (h : Q (g a) H) : rU g (.int a) H Q := ⟨a, rfl, h⟩
theorem dI {a b : Int} : decide (V.int a = V.int b) = decide (a = b) := by
  by_cases e : a = b
  · rw [decide_eq_true e, e, decide_eq_true rfl]
  · rw [decide_eq_false e, decide_eq_false fun z => e (V.int.inj z)]
theorem dB {a b : Bool} : decide (V.bl a = V.bl b) = decide (a = b) := by
  by_cases e : a = b
  · rw [decide_eq_true e, e, decide_eq_true rfl]
  · rw [decide_eq_false e, decide_eq_false fun z => e (V.bl.inj z)]
theorem dS {a b : Str} : decide (V.str a = V.str b) = decide (a = b) := by
  by_cases e : a = b
  · rw [decide_eq_true e, e, decide_eq_true rfl]
  · rw [decide_eq_false e, decide_eq_false fun z => e (V.str.inj z)]
theorem eqI {a b : Int} (h : Q (.bl (decide (a = b))) H) : rEq (.int a) (.int b) H Q := ⟨rfl, by rw [dI]; exact h⟩
theorem neI {a b : Int} (h : Q (.bl (!decide (a = b))) H) : rNe (.int a) (.int b) H Q := ⟨rfl, by rw [dI]; exact h⟩
theorem eqB {a b : Bool} (h : Q (.bl (decide (a = b))) H) : rEq (.bl a) (.bl b) H Q := ⟨rfl, by rw [dB]; exact h⟩
theorem neB {a b : Bool} (h : Q (.bl (!decide (a = b))) H) : rNe (.bl a) (.bl b) H Q := ⟨rfl, by rw [dB]; exact h⟩
theorem eqS {a b : Str} (h : Q (.bl (decide (a = b))) H) : rEq (.str a) (.str b) H Q := ⟨rfl, by rw [dS]; exact h⟩
theorem neS {a b : Str} (h : Q (.bl (!decide (a = b))) H) : rNe (.str a) (.str b) H Q := ⟨rfl, by rw [dS]; exact h⟩
theorem tst (h : te σ H fun x H' => ∃ k, x = .bl k ∧ QB k H') : tTest te σ H QB := h
theorem tb' (h : te σ H fun x H' => ∃ k, x = .bl k ∧ QB k H') : tB te σ H QB := h
theorem exb {b : Bool} {P : Bool → Prop} (h : P b) : ∃ k, V.bl b = .bl k ∧ P k := ⟨b, rfl, h⟩
theorem and (h : c σ H fun b H1 => if b = true then c2 σ H1 QB else QB false H1) : tAnd c c2 σ H QB := h
theorem or (h : c σ H fun b H1 => if b = true then QB true H1 else c2 σ H1 QB) : tOr c c2 σ H QB := h
theorem not (h : c σ H fun b H1 => QB (!b) H1) : tNot c σ H QB := h
theorem andV (h : ta σ H fun x H1 => ∃ k, x = .bl k ∧ if k = true then tb σ H1 Q else Q (.bl false) H1) : tAndV ta tb σ H Q := h
theorem orV (h : ta σ H fun x H1 => ∃ k, x = .bl k ∧ if k = true then Q (.bl true) H1 else tb σ H1 Q) : tOrV ta tb σ H Q := h
theorem notV (h : ta σ H fun x H1 => ∃ k, x = .bl k ∧ Q (.bl (!k)) H1) : tNotV ta σ H Q := h
theorem tif (h : c σ H fun b H1 => if b = true then ta σ H1 Q else tb σ H1 Q) : tIf c ta tb σ H Q := h
theorem yes (h : QB true H) : tYes σ H QB := h
theorem chain {r r' : R2} (h : ta σ H fun x H1 => tb σ H1 fun y H2 => r x y H2 fun z H3 => ∃ k, z = .bl k ∧ (if k = true then tc σ H3 fun w' H4 => r' y w' H4 Q else Q (.bl false) H3)) : tChain r r' ta tb tc σ H Q := h
theorem nil {QA : List V → Hp → Prop} (h : QA [] H) : tNil σ H QA := h
theorem cons {QA : List V → Hp → Prop} {tr : TA} (h : ta σ H fun x H1 => tr σ H1 fun xs H2 => QA (x :: xs) H2) : tCons ta tr σ H QA := h
theorem cb {r : List V → Hp → VK → Prop} {tr : TA} (h : tr σ H fun vs H1 => r vs H1 Q) : tCB r tr σ H Q := h
theorem call {sp : Sp} {dvs : List V} {E : XK} {tr : TA} (h : tr σ H fun vs H1 => sp (vs ++ dvs) H1 Q E) : tCall sp dvs E tr σ H Q := h
theorem tup {tr : TA} (h : tr σ H fun xs H1 => xs.length ≤ sizeLine ∧ ∀ p, H1 p = none → Q (.ref p) (upd H1 p (.tup xs))) : tTup tr σ H Q := h
theorem lst {tr : TA} (h : tr σ H fun xs H1 => xs.length ≤ sizeLine ∧ ∀ p, H1 p = none → Q (.ref p) (upd H1 p (.lst xs))) : tLst tr σ H Q := h
theorem sl {r : V → Option Int → Option Int → Hp → VK → Prop} {tl th : TO} (h : te σ H fun x H1 => tl σ H1 fun l H2 => th σ H2 fun u H3 => r x l u H3 Q) : L2.tSl r te tl th σ H Q := h
theorem nop {QO : Option Int → Hp → Prop} (h : QO none H) : tNoPart σ H QO := h
theorem prt {QO : Option Int → Hp → Prop} (h : te σ H fun x H1 => ∃ i, x = .int i ∧ QO (some i) H1) : tPart te σ H QO := h
theorem exi {a : Int} {P : Int → Prop} (h : P a) : ∃ k, V.int a = .int k ∧ P k := ⟨a, rfl, h⟩
theorem bm {K : PySem.W.Frag} {Ty : String} {r : V → List V → Hp → VK → Prop} {tr : TA} (h : te σ H fun x H1 => tyV K Ty x H1 ∧ tr σ H1 fun xs H2 => r x xs H2 Q) : tBM K Ty r te tr σ H Q := h
theorem bm0 {K : PySem.W.Frag} {Ty : String} {r : V → List V → Hp → VK → Prop} (h : te σ H fun x H1 => tyV K Ty x H1 ∧ r x [] H1 Q) : tBM0 K Ty r te σ H Q := h
theorem fld {K : PySem.W.Frag} {f : Str} (h : ta σ H fun x H1 => ∃ a C dx fs v, x = .ref a ∧ H1 a = some (.ins C dx fs) ∧ Cls K C ∧ NoAttr K C f ∧ fs.lookup f = some v ∧ Q v H1) : tFld K ta f σ H Q := h
theorem meth {C : Addr} {m : Str} {sp : Sp} {dvs : List V} {E : XK} {tr : TA} (h : ta σ H fun x H1 => ∃ a dx fs, x = .ref a ∧ H1 a = some (.ins C dx fs) ∧ fs.lookup m = none ∧ tr σ H1 fun vs H2 => sp (x :: (vs ++ dvs)) H2 Q E) : tMeth C m sp dvs E ta tr σ H Q := h
def MKE (C : Addr) (sp : Sp) (dvs : List V) (E : XK) (vs : List V) (H1 : Hp) (Q : VK) : Prop := ∀ x dx, H1 x = none → H1 dx = none → dx ≠ x → sp (.ref x :: (vs ++ dvs)) (upd (upd H1 dx (.own x)) x (.ins C dx [])) (fun v H2 => v = .non ∧ Q (.ref x) H2) E
theorem make {C : Addr} {sp : Sp} {dvs : List V} {E : XK} {tr : TA} (h : tr σ H fun vs H1 => MKE C sp dvs E vs H1 Q) : tMake C sp dvs E tr σ H Q := h
theorem dput {td ty tv : TE} (h : tv σ H fun v H1 => td σ H1 fun x H2 => ty σ H2 fun y H3 => ∃ a H4, x = .ref a ∧ DPut H3 a y v H4 ∧ nx σ H4) : sDPut td ty tv ⟨nx, rt, bk, ct⟩ σ H := h
theorem dget {td ty : TE} (h : td σ H fun x H1 => ty σ H1 fun y H2 => ∃ a v, x = .ref a ∧ DGet H2 a y (some v) ∧ Q v H2) : tDGet td ty σ H Q := h
theorem din {td ty : TE} (h : ty σ H fun y H1 => td σ H1 fun x H2 => ∃ a o, x = .ref a ∧ DGet H2 a y o ∧ Q (.bl o.isSome) H2) : tDIn ty td σ H Q := h
theorem dnin {td ty : TE} (h : ty σ H fun y H1 => td σ H1 fun x H2 => ∃ a o, x = .ref a ∧ DGet H2 a y o ∧ Q (.bl (!o.isSome)) H2) : tDNotIn ty td σ H Q := h
theorem dnew (h : ∀ p, H p = none → Q (.ref p) (upd H p (.dK []))) : tDNewK σ H Q := h
theorem sfld {K : PySem.W.Frag} {tv : TE} {f : Str} (h : tv σ H fun y H1 => ta σ H1 fun x H2 => ∃ a C dx fs, x = .ref a ∧ H2 a = some (.ins C dx fs) ∧ Cls K C ∧ NoAttr K C f ∧ fs.length < 1000 ∧ nx σ (upd H2 a (.ins C dx (putF f y fs)))) : sFld K ta tv f ⟨nx, rt, bk, ct⟩ σ H := h
theorem lrg {tr : L2.St → Hp → (Int → Int → Hp → Prop) → Prop} (h : tr σ H fun a b H1 => RgOk a b ∧ ∀ q, H1 q = none → Q (.ref q) (upd H1 q (.lst (rgV a b)))) : tLstRg tr σ H Q := h
theorem rg1 {QR : Int → Int → Hp → Prop} (h : ta σ H fun x H1 => ∃ n, x = .int n ∧ QR 0 n H1) : tRg1 ta σ H QR := h
theorem dgetK {a : Addr} {kvs : List (Key × V)} {n : Int} {v : V} (h : H a = some (.dK kvs)) (hv : valV kvs (Sum.inl n : Key) = some v) (q : Q v H) : ∃ a' v', V.ref a = .ref a' ∧ DGet H a' (.int n) (some v') ∧ Q v' H := ⟨a, v, rfl, by rw [← hv]; exact DGet.k (k := Sum.inl n) h, q⟩
theorem rep {a : Addr} {xs : List V} {k : Int} (h : H a = some (.lst xs)) (h1 : -1000000 ≤ k) (h2 : k ≤ 1000000) (hl : xs.length * k.toNat ≤ sizeLine) (q : ∀ p, H p = none → Q (.ref p) (upd H p (.lst (List.replicate k.toNat xs).flatten))) : rRep (.ref a) (.int k) H Q := ⟨a, k, xs, rfl, rfl, h, by omega, by omega, hl, q⟩
/-! tests -/
theorem bT {A B : Prop} (h : A) : if true = true then A else B := iteT h
theorem nbF {A B : Prop} (h : A) : if (!false) = true then A else B := iteT h
theorem nbT {A B : Prop} (h : B) : if (!true) = true then A else B := iteF h
theorem bF {A B : Prop} (h : B) : if false = true then A else B := iteF h
theorem dec {p A B : Prop} [Decidable p] (h1 : p → A) (h2 : ¬ p → B) : if decide p = true then A else B := ite2 (fun e => h1 (of_decide_eq_true e)) fun e => h2 fun z => e (decide_eq_true z)
theorem ndec {p A B : Prop} [Decidable p] (h1 : ¬ p → A) (h2 : p → B) : if (!decide p) = true then A else B := by
  by_cases e : p
  · rw [decide_eq_true e]; exact iteF (h2 e)
  · rw [decide_eq_false e]; exact iteT (h1 e)
theorem decT {p A B : Prop} [Decidable p] (e : p) (h : A) : if decide p = true then A else B := by rw [decide_eq_true e]; exact iteT h
theorem decF {p A B : Prop} [Decidable p] (e : ¬ p) (h : B) : if decide p = true then A else B := by rw [decide_eq_false e]; exact iteF h
theorem ndT {p A B : Prop} [Decidable p] (e : ¬ p) (h : A) : if (!decide p) = true then A else B := by rw [decide_eq_false e]; exact iteT h
theorem ndF {p A B : Prop} [Decidable p] (e : p) (h : B) : if (!decide p) = true then A else B := by rw [decide_eq_true e]; exact iteF h
/-! what is read by values -/
theorem ixL {K : PySem.W.Frag} {a : Addr} {xs : List V} {k : Int} (h : SqL K H a xs) (ha : atI xs k = some v) (q : Q v H) : rIxL K (.ref a) (.int k) H Q := ⟨a, xs, k, v, rfl, rfl, h, ha, q⟩
theorem ixT {K : PySem.W.Frag} {a : Addr} {xs : List V} {k : Int} (h : SqT K H a xs) (ha : atI xs k = some v) (q : Q v H) : rIxT K (.ref a) (.int k) H Q := ⟨a, xs, k, v, rfl, rfl, h, ha, q⟩
theorem setL {a : Addr} {xs : List V} {k : Int} {j : Nat} {QH : Hp → Prop} (h : H a = some (.lst xs)) (hk : ixN xs.length k = some j) (q : QH (upd H a (.lst (xs.set j v)))) : rSetL (.ref a) (.int k) v H QH := ⟨a, xs, k, j, rfl, rfl, h, hk, q⟩
theorem gsub {to ti : TE} {ts : TSet} {QG : L2.St → Hp → Prop} (h : to σ H fun o H1 => ti σ H1 fun i H2 => ts o i v H2 fun H3 => QG σ H3) : gSub to ti ts v σ H QG := h
theorem app {a : Addr} {xs : List V} {y : V} (h : H a = some (.lst xs)) (hl : xs.length < sizeLine) (q : Q .non (upd H a (.lst (xs ++ [y])))) : rAppend (.ref a) [y] H Q := ⟨a, xs, y, rfl, rfl, h, hl, q⟩
theorem cat {a b : Addr} {xs ys : List V} (h : H a = some (.lst xs)) (h' : H b = some (.lst ys)) (hl : xs.length + ys.length ≤ sizeLine) (q : ∀ p, H p = none → Q (.ref p) (upd H p (.lst (xs ++ ys)))) : rCat (.ref a) (.ref b) H Q := ⟨a, b, xs, ys, rfl, rfl, h, h', hl, q⟩
theorem slL {K : PySem.W.Frag} {a : Addr} {xs : List V} {lo hi : Option Int} (h : SqL K H a xs) (q : ∀ p, H p = none → Q (.ref p) (upd H p (.lst (cutV xs lo hi)))) : rSlL K (.ref a) lo hi H Q := ⟨a, xs, rfl, h, q⟩
theorem min1 {K : PySem.W.Frag} {a : Addr} {ns : List Int} (h : SqL K H a (ns.map V.int)) (h0 : 0 < ns.length) (q : ∀ m, m ∈ ns → (∀ y, y ∈ ns → m ≤ y) → Q (.int m) H) : rMin K [.ref a] H Q := ⟨a, ns, rfl, h, h0, q⟩
theorem eqD {K : PySem.W.Frag} {x y : V} {d e : PyData} (h1 : Dp K H x d) (h2 : Dp K H y e) (s1 : SeqAt.shaped d = true) (s2 : SeqAt.shaped e = true) (q : Q (.bl (PyData.eqv d e)) H) : rEqD K x y H Q := ⟨d, e, h1, h2, s1, s2, q⟩
theorem neD {K : PySem.W.Frag} {x y : V} {d e : PyData} (h1 : Dp K H x d) (h2 : Dp K H y e) (s1 : SeqAt.shaped d = true) (s2 : SeqAt.shaped e = true) (q : Q (.bl (!PyData.eqv d e)) H) : rNeD K x y H Q := ⟨d, e, h1, h2, s1, s2, q⟩
theorem tyL {K : PySem.W.Frag} {a : Addr} {xs : List V} (h : SqL K H a xs) : tyV K "list" (.ref a) H := Or.inl ⟨rfl, _, h⟩
theorem gtup2 {K : PySem.W.Frag} {i j : Nat} {T : Addr} {x y : V} {QG : L2.St → Hp → Prop} (h : SqT K H T [x, y]) (q : gName i x σ H fun σ1 H1 => gName j y σ1 H1 QG) : gTup K 2 (gCons (gName i) (gCons (gName j) gNil)) (.ref T) σ H QG := ⟨T, [x, y], rfl, h, rfl, x, [y], rfl, y, [], rfl, rfl, q⟩
/-! loops -/
theorem whl (W : Nat → L2.St → Hp → Prop) (m : Nat) (h0 : W m σ H) (hs : ∀ m σ H, W m σ H → c σ H fun b H1 => if b = true then ∃ N : L2.St → Hp → Prop, (∀ σ' H', N σ' H' → ∃ m', m' < m ∧ W m' σ' H') ∧ t ⟨N, rt, nx, N⟩ σ H1 else nx σ H1) : tWhile c t ⟨nx, rt, bk, ct⟩ σ H := ⟨W, ⟨m, h0⟩, hs⟩
theorem wN {m : Nat} {W : Nat → L2.St → Hp → Prop} (h : t ⟨fun σ' H' => ∃ m', m' < m ∧ W m' σ' H', rt, nx, fun σ' H' => ∃ m', m' < m ∧ W m' σ' H'⟩ σ H) : ∃ N : L2.St → Hp → Prop, (∀ σ' H', N σ' H' → ∃ m', m' < m ∧ W m' σ' H') ∧ t ⟨N, rt, nx, N⟩ σ H := ⟨_, fun _ _ h => h, h⟩
def FR (J : It) (g : TG) (t : TS) (nx : L2.St → Hp → Prop) (rt : VK) (σ : L2.St) (H : Hp) : Prop := ∃ W : Nat → Nat → L2.St → Hp → Prop, (∃ m, W 0 m σ H) ∧ ∀ i m σ H, W i m σ H →
  (J.stop i H ∧ nx σ H) ∨ (J.go i H ∧ ∃ N : L2.St → Hp → Prop, (∀ σ' H', N σ' H' → ∃ m', m' < m ∧ W (i + 1) m' σ' H') ∧ ∀ x H', J.yld i H x H' → g x σ H' fun σ2 H2 => t ⟨N, rt, nx, N⟩ σ2 H2)
def LR (J : It) (g : TG) (tt : TT) (te : TE) (vs : List Nat) (σ : L2.St) (H : Hp) (Q : VK) : Prop := ∀ D, H D = none → ∃ W : Nat → Nat → Hp → Prop, (∃ m, W 0 m (upd H D (.lst []))) ∧ ∀ i m H, W i m H →
  (J.stop i H ∧ Q (.ref D) H) ∨ (J.go i H ∧ ∃ Nx : Hp → Prop, (∀ H', Nx H' → ∃ m', m' < m ∧ W (i + 1) m' H') ∧ ∀ x H', J.yld i H x H' → g x (wipe σ vs) H' fun σ2 H2 => wipe σ2 vs = wipe σ vs ∧ tt σ2 H2 fun b H3 =>
    if b = true then te σ2 H3 fun y H4 => ∃ acc, H4 D = some (.lst acc) ∧ acc.length < sizeLine ∧ Nx (upd H4 D (.lst (acc ++ [y]))) else Nx H3)
theorem for_ {wi : TI} {g : TG} (h : wi σ H fun J H1 => FR J g t nx rt σ H1) : tFor wi g t ⟨nx, rt, bk, ct⟩ σ H := h
theorem lc_ {wi : TI} {g : TG} {tt : TT} {vs : List Nat} (h : wi σ H fun J H1 => LR J g tt te vs σ H1 Q) : tLc wi g tt te vs σ H Q := h
theorem iL {K : PySem.W.Frag} {R : It → Hp → Prop} (h : te σ H fun x H1 => ∃ a, x = .ref a ∧ (∃ xs, SqL K H1 a xs) ∧ R (Itl K a) H1) : iList K te σ H R := h
theorem iT {K : PySem.W.Frag} {R : It → Hp → Prop} (h : te σ H fun x H1 => ∃ a, x = .ref a ∧ (∃ xs, SqT K H1 a xs) ∧ R (Itt K a) H1) : iTup K te σ H R := h
theorem iR1 {tr : TA} {R : It → Hp → Prop} (h : tr σ H fun vs H1 => ∃ j : Int, vs = [.int j] ∧ -(2 ^ 62) ≤ j ∧ j < 2 ^ 62 ∧ R (Itr 0 j.toNat) H1) : iRng1 tr σ H R := h
theorem iR2 {tr : TA} {R : It → Hp → Prop} (h : tr σ H fun vs H1 => ∃ i j : Int, vs = [.int i, .int j] ∧ (-(2 ^ 62) ≤ i ∧ i < 2 ^ 62 ∧ -(2 ^ 62) ≤ j ∧ j < 2 ^ 62) ∧ R (Itr i (j - i).toNat) H1) : iRng2 tr σ H R := h
theorem iE {K : PySem.W.Frag} {tr : TA} {R : It → Hp → Prop} (h : tr σ H fun vs H1 => ∃ a xs, vs = [.ref a] ∧ SqL K H1 a xs ∧ R (Ite K a) H1) : iEnum K tr σ H R := h
theorem iZ {K : PySem.W.Frag} {tr : TA} {R : It → Hp → Prop} (h : tr σ H fun vs H1 => ∃ a b xs ys, vs = [.ref a, .ref b] ∧ SqL K H1 a xs ∧ SqL K H1 b ys ∧ R (Itz K a b) H1) : iZip K tr σ H R := h
theorem iS {R : It → Hp → Prop} (h : te σ H fun v H1 => ∃ x, v = .str x ∧ R (Its x) H1) : iStr te σ H R := h
theorem goL {K : PySem.W.Frag} {g : TG} {a : Addr} {xs : List V} (hq : SqL K H a xs) (Pv : Nat → L2.St → Hp → Prop) (h0 : Pv 0 σ H) (hG : ∀ i σ H, i ≤ xs.length → Pv i σ H → SqL K H a xs)
    (turn : ∀ i x σ H, xs[i]? = some x → Pv i σ H → g x σ H fun σ2 H2 => t ⟨Pv (i + 1), rt, nx, Pv (i + 1)⟩ σ2 H2) (hd : ∀ σ H, Pv xs.length σ H → nx σ H) :
    ∃ a', V.ref a = .ref a' ∧ (∃ ys, SqL K H a' ys) ∧ FR (Itl K a') g t nx rt σ H := ⟨a, rfl, ⟨_, hq⟩, for_list (D := ⟨nx, rt, nx, nx⟩) Pv h0 hG turn hd⟩
theorem goT {K : PySem.W.Frag} {g : TG} {a : Addr} {xs : List V} (hq : SqT K H a xs) (Pv : Nat → L2.St → Hp → Prop) (h0 : Pv 0 σ H) (hG : ∀ i σ H, i ≤ xs.length → Pv i σ H → SqT K H a xs)
    (turn : ∀ i x σ H, xs[i]? = some x → Pv i σ H → g x σ H fun σ2 H2 => t ⟨Pv (i + 1), rt, nx, Pv (i + 1)⟩ σ2 H2) (hd : ∀ σ H, Pv xs.length σ H → nx σ H) :
    ∃ a', V.ref a = .ref a' ∧ (∃ ys, SqT K H a' ys) ∧ FR (Itt K a') g t nx rt σ H := ⟨a, rfl, ⟨_, hq⟩, for_tup (D := ⟨nx, rt, nx, nx⟩) Pv h0 hG turn hd⟩
theorem goR {g : TG} {z : Int} {n : Nat} (hz : z.toNat = n) (hz2 : z < 1000000000) (hz1 : -1000000000 < z) (Pv : Nat → L2.St → Hp → Prop) (h0 : Pv 0 σ H)
    (turn : ∀ i σ H, i < n → Pv i σ H → g (.int (i : Nat)) σ H fun σ2 H2 => t ⟨Pv (i + 1), rt, nx, Pv (i + 1)⟩ σ2 H2) (hd : ∀ σ H, Pv n σ H → nx σ H) :
    ∃ j : Int, [V.int z] = [.int j] ∧ -(2 ^ 62) ≤ j ∧ j < 2 ^ 62 ∧ FR (Itr 0 j.toNat) g t nx rt σ H := by
  subst hz
  refine ⟨z, rfl, by omega, by omega, for_range (D := ⟨nx, rt, nx, nx⟩) Pv h0 (fun i σ H hi hp => ?_) hd⟩
  have e : (0 + (i : Int)) = ((i : Nat) : Int) := by omega
  rw [e]
  exact turn i σ H hi hp
theorem goR2 {g : TG} {y z : Int} {n : Nat} (hz : (z - y).toNat = n) (hb : -1000000000 < y ∧ y < 1000000000 ∧ -1000000000 < z ∧ z < 1000000000) (Pv : Nat → L2.St → Hp → Prop) (h0 : Pv 0 σ H)
    (turn : ∀ i σ H, i < n → Pv i σ H → g (.int (y + i)) σ H fun σ2 H2 => t ⟨Pv (i + 1), rt, nx, Pv (i + 1)⟩ σ2 H2) (hd : ∀ σ H, Pv n σ H → nx σ H) :
    ∃ i j : Int, [V.int y, V.int z] = [.int i, .int j] ∧ (-(2 ^ 62) ≤ i ∧ i < 2 ^ 62 ∧ -(2 ^ 62) ≤ j ∧ j < 2 ^ 62) ∧ FR (Itr i (j - i).toNat) g t nx rt σ H := by
  subst hz
  exact ⟨y, z, rfl, ⟨by omega, by omega, by omega, by omega⟩, for_range (D := ⟨nx, rt, nx, nx⟩) Pv h0 turn hd⟩
theorem goE {K : PySem.W.Frag} {g : TG} {a : Addr} {xs : List V} (hq : SqL K H a xs) (Pv : Nat → L2.St → Hp → Prop) (h0 : Pv 0 σ H) (hG : ∀ i σ H, i ≤ xs.length → Pv i σ H → SqL K H a xs)
    (turn : ∀ i x σ H T, xs[i]? = some x → Pv i σ H → H T = none → g (.ref T) σ (upd H T (.tup [.int (i : Nat), x])) fun σ2 H2 => t ⟨Pv (i + 1), rt, nx, Pv (i + 1)⟩ σ2 H2) (hd : ∀ σ H, Pv xs.length σ H → nx σ H) :
    ∃ a' ys, [V.ref a] = [.ref a'] ∧ SqL K H a' ys ∧ FR (Ite K a') g t nx rt σ H := by
  refine ⟨a, xs, rfl, hq, for_it (D := ⟨nx, rt, nx, nx⟩) walk_enum Pv h0 hG (fun i x σ H H' hi hp y => ?_) hd⟩
  obtain ⟨T, x1, x2, rfl, hT, rfl, e1, e2⟩ := y
  cases e1
  exact turn i x2 σ H T e2 hp hT
/-! a new list by a comprehension -/
theorem same_new {H : Hp} {p : Addr} {o : HO} (h : H p = none) : Same H (upd H p o) := fun b x e => by
  rw [upd_ne (ne_of_none e h)]
  exact e
theorem same_mut {H H' : Hp} {p : Addr} {o : HO} (e : Same H H') (h : H p = none) : Same H (upd H' p o) := fun a u ha => by
  rw [upd_ne (ne_of_none ha h)]
  exact e a u ha
/-- what a comprehension collects: f of the items that pass p -/
def pick {α β : Type} (p : α → Bool) (f : α → β) : List α → List β
  | [] => []
  | a :: r => if p a = true then f a :: pick p f r else pick p f r
theorem pick_app {α β : Type} {p : α → Bool} {f : α → β} : ∀ (l r : List α), pick p f (l ++ r) = pick p f l ++ pick p f r
  | [], r => rfl
  | a :: l, r => by
    show (if p a = true then f a :: pick p f (l ++ r) else pick p f (l ++ r)) = (if p a = true then f a :: pick p f l else pick p f l) ++ pick p f r
    rw [pick_app l r]
    by_cases h : p a = true
    · rw [if_pos h, if_pos h]; rfl
    · rw [if_neg h, if_neg h]
theorem pick_len {α β : Type} {p : α → Bool} {f : α → β} : ∀ (l : List α), (pick p f l).length ≤ l.length
  | [] => Nat.le_refl _
  | a :: l => by
    show (if p a = true then f a :: pick p f l else pick p f l).length ≤ l.length + 1
    have := pick_len (p := p) (f := f) l
    by_cases h : p a = true
    · rw [if_pos h, List.length_cons]; omega
    · rw [if_neg h]; omega
theorem pick_all {α β : Type} {p : α → Bool} {f : α → β} (h : ∀ a, p a = true) : ∀ (l : List α), pick p f l = l.map f
  | [] => rfl
  | a :: l => by
    show (if p a = true then f a :: pick p f l else pick p f l) = f a :: l.map f
    rw [if_pos (h a), pick_all h l]
theorem pick_filter {α β : Type} {p : α → Bool} {f : α → β} : ∀ (l : List α), pick p f l = (l.filter p).map f
  | [] => rfl
  | a :: l => by
    show (if p a = true then f a :: pick p f l else pick p f l) = _
    by_cases h : p a = true
    · rw [if_pos h, List.filter_cons_of_pos h, List.map_cons, pick_filter l]
    · rw [if_neg h, List.filter_cons_of_neg h, pick_filter l]
theorem take_one {α : Type} {l : List α} {i : Nat} {x : α} (h : l[i]? = some x) : l.take (i + 1) = l.take i ++ [x] := by
  rw [List.take_add_one, h]; rfl
theorem lcAny {J : It} {g : TG} {tt : TT} {vs : List Nat} {n : Nat} {G : Hp → Prop} {Y : Nat → Hp → V → Hp → Prop} (w : Walk J n G Y) {α : Type} (al : List α) (hal : al.length = n) (hsz : n ≤ sizeLine) (p : α → Bool) (f : α → V) (h0G : G H) (hGs : ∀ H', Same H H' → G H')
    (hY : ∀ i H1 x H2, Same H H1 → Y i H1 x H2 → Same H1 H2)
    (turn : ∀ i a x H1 H2 (Q' : VK) (R' : Hp → Prop), al[i]? = some a → Same H H1 → Y i H1 x H2 → (p a = true → ∀ H4, Same H2 H4 → Q' (f a) H4) → (p a = false → ∀ H4, Same H2 H4 → R' H4) →
      g x (wipe σ vs) H2 fun σ2 H3 => wipe σ2 vs = wipe σ vs ∧ tt σ2 H3 fun b H5 => if b = true then te σ2 H5 Q' else R' H5)
    (hd : ∀ H' q, H q = none → Same H H' → H' q = some (.lst (pick p f al)) → Q (.ref q) H') : LR J g tt te vs σ H Q := by
  intro D hD
  refine lc_it w (fun i H1 => Same H H1 ∧ H1 D = some (.lst (pick p f (al.take i)))) ⟨same_new hD, by rw [upd_same]; rfl⟩ (fun i H1 _ hp => hGs _ hp.1) (fun i x H1 H2 hi hp y => ?_) (fun H1 hp => ?_)
  · have hi' : i < al.length := by omega
    have ga : al[i]? = some al[i] := List.getElem?_eq_getElem hi'
    have sm := hY i H1 x H2 hp.1 y
    refine turn i al[i] x H1 H2 _ _ ga hp.1 y (fun ht H4 s4 => ?_) (fun hf H4 s4 => ?_)
    · have e4 : H4 D = some (.lst (pick p f (al.take i))) := s4 _ _ (sm _ _ hp.2)
      refine ⟨_, e4, ?_, same_mut ((hp.1.trans sm).trans s4) hD, ?_⟩
      · have := pick_len (p := p) (f := f) (al.take i)
        rw [List.length_take] at this
        exact Nat.lt_of_lt_of_le (Nat.lt_of_le_of_lt this (by omega : min i al.length < n)) hsz
      · rw [upd_same, take_one ga, pick_app]
        show _ = some (HO.lst (_ ++ (if p al[i] = true then [f al[i]] else [])))
        rw [if_pos ht]
    · have e4 : H4 D = some (.lst (pick p f (al.take i))) := s4 _ _ (sm _ _ hp.2)
      refine ⟨(hp.1.trans sm).trans s4, ?_⟩
      rw [e4, take_one ga, pick_app]
      show _ = some (HO.lst (_ ++ (if p al[i] = true then [f al[i]] else [])))
      rw [if_neg (by rw [hf]; exact Bool.false_ne_true), List.append_nil]
  · have e := hp.2
    rw [← hal, List.take_length] at e
    exact hd H1 D hD hp.1 e
theorem lcL {K : PySem.W.Frag} {g : TG} {tt : TT} {vs : List Nat} {a : Addr} {xs : List V} (hq : SqL K H a xs) (hsz : xs.length ≤ sizeLine) (p : V → Bool) (f : V → V)
    (turn : ∀ (i : Nat) x H1 (Q' : VK) (R' : Hp → Prop), xs[i]? = some x → Same H H1 → (p x = true → ∀ H4, Same H1 H4 → Q' (f x) H4) → (p x = false → ∀ H4, Same H1 H4 → R' H4) →
      g x (wipe σ vs) H1 fun σ2 H3 => wipe σ2 vs = wipe σ vs ∧ tt σ2 H3 fun b H5 => if b = true then te σ2 H5 Q' else R' H5)
    (hd : ∀ H' q, H q = none → Same H H' → H' q = some (.lst (pick p f xs)) → Q (.ref q) H') :
    ∃ a', V.ref a = .ref a' ∧ (∃ ys, SqL K H a' ys) ∧ LR (Itl K a') g tt te vs σ H Q := by
  refine ⟨a, rfl, ⟨_, hq⟩, lcAny (walk_list (K := K) (a := a) (xs := xs)) xs rfl hsz p f hq (fun H' s => s.seq hq) (fun i H1 x H2 s y => ?_) (fun i b x H1 H2 Q' R' hb s y kT kF => ?_) hd⟩
  · obtain ⟨rfl, _⟩ := y
    exact Same.refl _
  · obtain ⟨rfl, y⟩ := y
    rw [y] at hb
    cases hb
    exact turn i b _ Q' R' y s kT kF
theorem lcR {g : TG} {tt : TT} {vs : List Nat} {z : Int} {n : Nat} (hz : z.toNat = n) (hz2 : z < 1000000) (hz1 : -1000000 < z) (p : Nat → Bool) (f : Nat → V)
    (turn : ∀ i H1 (Q' : VK) (R' : Hp → Prop), i < n → Same H H1 → (p i = true → ∀ H4, Same H1 H4 → Q' (f i) H4) → (p i = false → ∀ H4, Same H1 H4 → R' H4) →
      g (.int (i : Nat)) (wipe σ vs) H1 fun σ2 H3 => wipe σ2 vs = wipe σ vs ∧ tt σ2 H3 fun b H5 => if b = true then te σ2 H5 Q' else R' H5)
    (hd : ∀ H' q, H q = none → Same H H' → H' q = some (.lst (pick p f (List.range n))) → Q (.ref q) H') :
    ∃ j : Int, [V.int z] = [.int j] ∧ -(2 ^ 62) ≤ j ∧ j < 2 ^ 62 ∧ LR (Itr 0 j.toNat) g tt te vs σ H Q := by
  subst hz
  have hs : z.toNat ≤ sizeLine := Nat.le_trans (by omega : z.toNat ≤ 1000000) (by decide)
  refine ⟨z, rfl, by omega, by omega, lcAny (walk_range (lo := 0) (n := z.toNat)) (List.range z.toNat) (List.length_range) hs p f trivial (fun _ _ => trivial) (fun i H1 x H2 s y => ?_) (fun i b x H1 H2 Q' R' hb s y kT kF => ?_) hd⟩
  · obtain ⟨rfl, _⟩ := y
    exact Same.refl _
  · obtain ⟨rfl, rfl⟩ := y
    obtain ⟨hi, e⟩ := List.getElem?_eq_some_iff.mp hb
    rw [List.getElem_range] at e
    subst e
    rw [List.length_range] at hi
    have e : (0 + (i : Int)) = ((i : Nat) : Int) := by omega
    show g (V.int (0 + (i : Int))) _ _ _
    rw [e]
    exact turn i _ Q' R' hi s kT kF
theorem lcE {K : PySem.W.Frag} {g : TG} {tt : TT} {vs : List Nat} {a : Addr} {xs : List V} (hq : SqL K H a xs) (hsz : xs.length ≤ sizeLine) (p : Nat → Bool) (f : Nat → V)
    (turn : ∀ (i : Nat) x T H1 (Q' : VK) (R' : Hp → Prop), xs[i]? = some x → Same H H1 → H1 T = none → (p i = true → ∀ H4, Same (upd H1 T (.tup [.int (i : Nat), x])) H4 → Q' (f i) H4) → (p i = false → ∀ H4, Same (upd H1 T (.tup [.int (i : Nat), x])) H4 → R' H4) →
      g (.ref T) (wipe σ vs) (upd H1 T (.tup [.int (i : Nat), x])) fun σ2 H3 => wipe σ2 vs = wipe σ vs ∧ tt σ2 H3 fun b H5 => if b = true then te σ2 H5 Q' else R' H5)
    (hd : ∀ H' q, H q = none → Same H H' → H' q = some (.lst (pick p f (List.range xs.length))) → Q (.ref q) H') :
    ∃ a' ys, [V.ref a] = [.ref a'] ∧ SqL K H a' ys ∧ LR (Ite K a') g tt te vs σ H Q := by
  refine ⟨a, xs, rfl, hq, lcAny (walk_enum (K := K) (a := a) (xs := xs)) (List.range xs.length) List.length_range hsz p f hq (fun H' s => s.seq hq) (fun i H1 x H2 s y => ?_) (fun i b x H1 H2 Q' R' hb s y kT kF => ?_) hd⟩
  · obtain ⟨T, x1, x2, rfl, hT, rfl, _, _⟩ := y
    exact same_new hT
  · obtain ⟨T, x1, x2, rfl, hT, rfl, e1, e2⟩ := y
    cases e1
    obtain ⟨hi, e⟩ := List.getElem?_eq_some_iff.mp hb
    rw [List.getElem_range] at e
    subst e
    exact turn i x2 T H1 Q' R' e2 s hT kT kF
end
end RD

namespace RD
open PySem PySem.Spec PyProof.Rows L2
/-! the layer's rules with the written part named K, their readings under a name -/
def rLen (K : PySem.W.Frag) : List V → Hp → VK → Prop := fun xs H Q => ∃ p ys, xs = [.ref p] ∧ (SqL K H p ys ∨ SqT K H p ys) ∧ Q (.int ys.length) H
def rLenD : List V → Hp → VK → Prop := fun xs H Q => ∃ a kvs, xs = [V.ref a] ∧ H a = some (.dK kvs) ∧ Q (.int kvs.length) H
def rLenS : List V → Hp → VK → Prop := fun xs H Q => ∃ z, xs = [.str z] ∧ z.length ≤ sizeLine ∧ Q (.int z.length) H
def rListOf (K : PySem.W.Frag) : List V → Hp → VK → Prop := fun xs H Q => ∃ p ys, xs = [.ref p] ∧ (SqL K H p ys ∨ SqT K H p ys) ∧ ∀ l, H l = none → Q (.ref l) (upd H l (.lst ys))
def rInt : List V → Hp → VK → Prop := fun xs H Q => (∃ i, xs = [.int i] ∧ Q (.int i) H) ∨ ∃ k, xs = [.bl k] ∧ Q (.int (if k then 1 else 0)) H
def rAbs : List V → Hp → VK → Prop := fun xs H Q => ∃ i, xs = [.int i] ∧ Q (.int (if i < 0 then -i else i)) H
def rMax2 : List V → Hp → VK → Prop := fun xs H Q => ∃ i j, xs = [.int i, .int j] ∧ Q (.int (if j > i then j else i)) H
def rMin2 : List V → Hp → VK → Prop := fun xs H Q => ∃ i j, xs = [.int i, .int j] ∧ Q (.int (if j < i then j else i)) H
def rStrI : List V → Hp → VK → Prop := fun xs H Q => ∃ i, xs = [.int i] ∧ i.natAbs.log2 < 1920 ∧ Q (.str (toString i)) H
def rIntS : List V → Hp → VK → Prop := fun xs H Q => ∃ a n, xs = [.str a] ∧ PySem.intText? a = some n ∧ a.length ≤ 640 ∧ Q (.int n) H
def tTru (K : PySem.W.Frag) (ta : TE) : TT := fun σ H Q => ta σ H fun x H' => ∃ k, TruV K x H' k ∧ Q k H'
section
variable {X : Cx} {K : PySem.W.Frag} {e o : Expr} {es : List Expr} {ta to tv te : TE} {tr : TA} {f name : Str} {pos apos cpos pos' p tpos : Pos} {Ty id : String} {r : V → List V → Hp → VK → Prop} {tg : Expr} {kk : Nat}
theorem k_len (h : X.K = K) : CallR X (.builtin "len") (rLen K) := by subst h; exact call_len_seq
theorem k_lenD : CallR X (.builtin "len") rLenD := call_lenD
theorem k_lenS : CallR X (.builtin "len") rLenS := call_len_str
theorem k_list (h : X.K = K) : CallR X (.type "list") (rListOf K) := by subst h; exact call_list_of
theorem k_int : CallR X (.type "int") rInt := call_int1
theorem k_abs : CallR X (.builtin "abs") rAbs := call_abs
theorem k_max2 (hc : X.calm = true) : CallR X (.builtin "max") rMax2 := call_max2 hc
theorem k_min2 (hc : X.calm = true) : CallR X (.builtin "min") rMin2 := call_min2 hc
theorem k_strI : CallR X (.type "str") rStrI := call_str_int
theorem k_intS : CallR X (.type "int") rIntS := call_int_str
theorem k_min (h : X.K = K) (hc : X.calm = true) : CallR X (.builtin "min") (rMin K) := by subst h; exact cr_min hc
theorem k_max (h : X.K = K) (hc : X.calm = true) : CallR X (.builtin "max") (rMax K) := by subst h; exact cr_max hc
theorem k_sum (h : X.K = K) (hc : X.calm = true) : CallR X (.builtin "sum") (rSum K) := by subst h; exact cr_sum hc
theorem k_any (h : X.K = K) (hc : X.calm = true) : CallR X (.builtin "any") (rAny K) := by subst h; exact cr_any hc
theorem k_all (h : X.K = K) (hc : X.calm = true) : CallR X (.builtin "all") (rAll K) := by subst h; exact cr_all hc
theorem k_sorted (h : X.K = K) : CallR X (.builtin "sorted") (rSorted K) := by subst h; exact cr_sorted
theorem k_isi (h : X.K = K) : CallR X (.builtin "isinstance") (rIsi K) := by subst h; exact call_isi
theorem k_ixL (h : X.K = K) : IxR X (rIxL K) := by subst h; exact ix_list
theorem k_ixT (h : X.K = K) : IxR X (rIxT K) := by subst h; exact ix_tup
theorem k_slL (h : X.K = K) : SlR X (rSlL K) := by subst h; exact sl_list
theorem k_slT (h : X.K = K) : SlR X (rSlT K) := by subst h; exact sl_tup
theorem k_in (h : X.K = K) : OpR X (compareOp .In) (rIn K false) := by subst h; exact op_in_seq
theorem k_notin (h : X.K = K) : OpR X (compareOp .NotIn) (rIn K true) := by subst h; exact op_notIn_seq
theorem k_eqD (h : X.K = K) (hu : X.A.units + 64 < cLine) : OpR X (compareOp .Eq) (rEqD K) := by subst h; exact op_eqD hu
theorem k_neD (h : X.K = K) (hu : X.A.units + 64 < cLine) : OpR X (compareOp .NotEq) (rNeD K) := by subst h; exact op_neD hu
theorem k_bm (h : X.K = K) (pa : PlainAttrs Ty) (slot : Slot Ty name id) (hty : typeOf (.builtin id) = pure (.type "method_descriptor")) (hm : MtR X id r) (ho : PE X o to) (ha : PA X (e :: es) tr)
    (hbase : attributeBase o name X.env (eval o X.env) = eval o X.env := by rfl)
    (hfew : ((backTo cpos (starEach (e :: es) X.env)).all (fun x => !x.1) && (backToKw cpos (keywordEach [] X.env)).all (fun x => x.1.isSome)
      && decide ((e :: es).length + ([] : List Keyword).length + (if ([] : List Keyword).isEmpty then 0 else 1) < 30)) = true := by rfl)
    (hline : (apos.endLine == cpos.line) = true := by rfl) (hs : starEach (e :: es) X.env = (false, eval e X.env) :: starEach es X.env := by rfl) (hplain : (backTo cpos (starEach es X.env)).any (·.1) = false := by rfl) :
    PE X (.Call (.Attribute o name apos) (e :: es) [] cpos) (tBM K Ty r to tr) := by subst h; exact pe_bm pa slot hty hm ho ha hbase hfew hline hs hplain
theorem k_bm0 (h : X.K = K) (pa : PlainAttrs Ty) (slot : Slot Ty name id) (hty : typeOf (.builtin id) = pure (.type "method_descriptor")) (hm : MtR X id r) (ho : PE X o to)
    (hbase : attributeBase o name X.env (eval o X.env) = eval o X.env := by rfl) (hline : (apos.endLine == cpos.line) = true := by rfl) : PE X (.Call (.Attribute o name apos) [] [] cpos) (tBM0 K Ty r to) := by subst h; exact pe_bm0 pa slot hty hm ho hbase hline
theorem k_fld (h : X.K = K) (he : PE X e ta) (hb : attributeBase e f X.env (eval e X.env) = eval e X.env) : PE X (.Attribute e f pos) (tFld K ta f) := by subst h; exact pe_fld he hb
theorem k_sfld {value : Expr} (h : X.K = K) (ha : PE X o ta) (hv : PE X value tv) (hs : swapsWith value (some (.Attribute o f pos')) pos.line X.env = pure false) : PS X (.Assign [.Attribute o f pos'] value pos) (sFld K ta tv f) := by subst h; exact ps_fld ha hv hs
theorem k_pil (h : X.K = K) (hl : PE X e ta) : PI X tg e (iList K ta) := by subst h; exact pi_list hl
theorem k_pit (h : X.K = K) (hl : PE X e ta) : PI X tg e (iTup K ta) := by subst h; exact pi_tup hl
theorem k_pie {elts : List Expr} (h : X.K = K) (hg : Gl X "enumerate") (hm : X.mg "enumerate" = none) (ha : PA X [e] tr) (hs : starEach [e] X.env = [(false, eval e X.env)] := by rfl) :
    PI X (.Tuple elts kk tpos) (.Call (.Name "enumerate" p) [e] [] pos) (iEnum K tr) := by subst h; exact pi_enum hg hm ha hs
theorem k_piz {e2 : Expr} {elts : List Expr} (h : X.K = K) (hg : Gl X "zip") (hm : X.mg "zip" = none) (ha : PA X [e, e2] tr)
    (hs : starEach [e, e2] X.env = (false, eval e X.env) :: starEach [e2] X.env := by rfl) (hpl : (backTo pos (starEach [e2] X.env)).any (·.1) = false := by rfl) :
    PI X (.Tuple elts kk tpos) (.Call (.Name "zip" p) [e, e2] [] pos) (iZip K tr) := by subst h; exact pi_zip hg hm ha hs hpl
theorem k_gtup {t : TGs} {n : Nat} (h : X.K = K) (hc : X.calm = true) (hp : PGs X es t)
    (hn : (assignEach es X.env).length = n := by rfl) (hst : (assignEach es X.env).findIdx? (·.1) = none := by rfl) : PG X (.Tuple es kk pos) (gTup K n t) := by subst h; exact pg_tup hc hp hn hst
theorem k_tru (h : X.K = K) (ha : PE X e ta) (he : ∀ whole, isTrue e X.env whole = (do let v ← whole; standAt e.pos; holding [v] (truthy v))) : PT X e (tTru K ta) := by subst h; exact pt_truth ha he
end
/-! their steps -/
section
variable {σ s : L2.St} {H : Hp} {Q : VK} {K : PySem.W.Frag} {a : Addr} {xs : List V} {n m : Int} {ta : TE} {QB : Bool → Hp → Prop}
theorem len (h : SqL K H a xs) (q : Q (.int xs.length) H) : rLen K [.ref a] H Q := ⟨a, xs, rfl, .inl h, q⟩
theorem lenT (h : SqT K H a xs) (q : Q (.int xs.length) H) : rLen K [.ref a] H Q := ⟨a, xs, rfl, .inr h, q⟩
theorem lenD {kvs : List (Key × V)} (h : H a = some (.dK kvs)) (q : Q (.int kvs.length) H) : rLenD [.ref a] H Q := ⟨a, kvs, rfl, h, q⟩
theorem lenS {z : Str} (h : z.length ≤ sizeLine) (q : Q (.int z.length) H) : rLenS [.str z] H Q := ⟨z, rfl, h, q⟩
theorem list (h : SqL K H a xs) (q : ∀ l, H l = none → Q (.ref l) (upd H l (.lst xs))) : rListOf K [.ref a] H Q := ⟨a, xs, rfl, .inl h, q⟩
theorem int1 (q : Q (.int n) H) : rInt [.int n] H Q := .inl ⟨n, rfl, q⟩
theorem abs1 (q : Q (.int (if n < 0 then -n else n)) H) : rAbs [.int n] H Q := ⟨n, rfl, q⟩
theorem max2 (q : Q (.int (if m > n then m else n)) H) : rMax2 [.int n, .int m] H Q := ⟨n, m, rfl, q⟩
theorem min2 (q : Q (.int (if m < n then m else n)) H) : rMin2 [.int n, .int m] H Q := ⟨n, m, rfl, q⟩
theorem strI (h : n.natAbs.log2 < 1920) (q : Q (.str (toString n)) H) : rStrI [.int n] H Q := ⟨n, rfl, h, q⟩
theorem tru (h : ta σ H fun x H' => ∃ k, TruV K x H' k ∧ QB k H') : tTru K ta σ H QB := h
theorem truL (h : SqL K H a xs) {P : Bool → Prop} (q : P (!xs.isEmpty)) : ∃ k, TruV K (.ref a) H k ∧ P k := ⟨_, .inl ⟨xs, h, rfl⟩, q⟩
theorem all1 {bs : List Bool} (h : SqL K H a (bs.map V.bl)) (q : Q (.bl (bs.all id)) H) : rAll K [.ref a] H Q := ⟨a, bs, rfl, h, q⟩
theorem any1 {bs : List Bool} (h : SqL K H a (bs.map V.bl)) (q : Q (.bl (bs.any id)) H) : rAny K [.ref a] H Q := ⟨a, bs, rfl, h, q⟩
theorem sort1 {ns : List Int} (h : SqL K H a (ns.map V.int)) (hl : ns.length < 64) (q : ∀ (ns' : List Int) (p : Addr), ns'.Perm ns → ns'.Pairwise (· ≤ ·) → H p = none → Q (.ref p) (upd H p (.lst (ns'.map V.int)))) : rSorted K [.ref a] H Q := ⟨a, ns, rfl, h, hl, q⟩
theorem isi {x c : V} {t u : Value} {b : Bool} (hc : ClsV c u) (ht : TyX K H x t) (hk : PySem.W.kitOne K t u = some b) (q : Q (.bl b) H) : rIsi K [x, c] H Q := ⟨x, c, t, u, b, rfl, hc, ht, hk, q⟩
theorem inL {x : V} (h : SqL K H a xs) (hx : flatV x = true) (ha : xs.all flatV = true) (q : Q (.bl (inV x xs)) H) : rIn K false x (.ref a) H Q := ⟨a, xs, rfl, .inl h, hx, ha, q⟩
theorem ninL {x : V} (h : SqL K H a xs) (hx : flatV x = true) (ha : xs.all flatV = true) (q : Q (.bl (!inV x xs)) H) : rIn K true x (.ref a) H Q := ⟨a, xs, rfl, .inl h, hx, ha, q⟩
end
/-- a word between a statement and the rest: what follows is shown once -/
def tCut (t u : TS) : TS := fun D σ H => ∃ W : L2.St → Hp → Prop, t ⟨W, D.rt, D.bk, D.ct⟩ σ H ∧ ∀ σ1 H1, W σ1 H1 → u D σ1 H1
theorem pss_cut {X : Cx} {s0 : Stmt} {more : List Stmt} {t u : TS} (a : PS X s0 t) (b : PSs X more u) : PSs X (s0 :: more) (tCut t u) := by
  refine ⟨fun pins s σ H D J hw => ?_⟩
  obtain ⟨W, h1, h2⟩ := hw
  refine wpAny_execs_cons (thn (a.run pins s σ H ⟨W, D.rt, D.bk, D.ct⟩ J h1) fun fl s1 q => ?_)
  cases fl with
  | next =>
    obtain ⟨σ1, H1, J1, q1⟩ := q
    exact b.run pins s1 σ1 H1 D J1 (h2 σ1 H1 q1)
  | _ => exact q
theorem cut {t u : TS} {σ : L2.St} {H : Hp} {nx bk ct : L2.St → Hp → Prop} {rt : VK} (W : L2.St → Hp → Prop) (h1 : t ⟨W, rt, bk, ct⟩ σ H) (h2 : ∀ σ1 H1, W σ1 H1 → u ⟨nx, rt, bk, ct⟩ σ1 H1) : tCut t u ⟨nx, rt, bk, ct⟩ σ H := ⟨W, h1, h2⟩
end RD
namespace RD
open PySem PySem.Spec PyProof.Rows L2
theorem pe_gl {X : Cx} {x z : Str} {pos : Pos} (hg : Gl X x) (hm : ∃ t, X.mg x = some (.str z t)) (hd : (x == ("__debug__" : Str)) = false := by decide) : PE X (.Name x pos) (tC (.str z)) := by
  obtain ⟨t, h⟩ := hm
  exact pe_glob hg h ⟨t, rfl⟩ hd
theorem pe_glI {X : Cx} {x : Str} {z : Int} {pos : Pos} (hg : Gl X x) (hm : ∃ t, X.mg x = some (.int z t)) (hd : (x == ("__debug__" : Str)) = false := by decide) : PE X (.Name x pos) (tC (.int z)) := by
  obtain ⟨t, h⟩ := hm
  exact pe_glob hg h ⟨t, rfl⟩ hd
end RD

namespace RD
open PySem PySem.Spec PyProof.Rows L2
/-! len, in and == by methods of one's own -/
section
variable {X : Cx} {CX : CXT} {n : Nat} {f C : Addr} {fd : FuncData} {ps : List Str} {sp : Sp} {E : XK} {K : PySem.W.Frag}
theorem call_own {Ar : Around} {pins : List (Addr × Obj)} {σ : L2.St} {H : Hp} {s : Shared} {Q : VK} {vs : List V} {us : List Value} (hfr : Ar.frames = X.A.frames) (room : Room n Ar) (F : FnOk X.prog X.w X.K X.mg X.base CX n f fd ps sp) (hb : Binds X.K fd ps []) (hx : Passes CX X E)
    (J : Inv X pins σ H s) (rv : Vals vs us) (hs : sp vs H Q E) : wpAny (model X.prog X.w) Ar (PySem.call (.ref f) us) (EP X pins σ Q) X.xe s := by
  have e := J.env0
  have e0 : Env0 X.prog X.w X.K X.mg X.base Ar X.stack s H := ⟨by rw [hfr]; exact e.frames, e.mod, e.bs, e.bsz, e.funs, e.frf, e.hok, e.bare⟩
  have hl : us.length = ps.length := rv.length.symm.trans (F.len _ _ _ _ hs)
  have bb := hb s us J.kIn (by rw [List.append_nil]; exact hl)
  rw [List.append_nil] at bb
  refine wpAny_call (codeAny_mono (F.run Ar X.stack s H ⟨us, []⟩ us vs Q E room e0 bb rv hs) ?_)
  intro rr s' hq
  cases rr with
  | error er => exact hx pins σ H s er s' J hq
  | ok fl =>
    cases fl with
    | ret u => exact J.after hq
    | next => exact hq.elim
    | brk => exact hq.elim
    | cont => exact hq.elim
def rLenOwn (C : Addr) (sp : Sp) (E : XK) : List V → Hp → VK → Prop := fun xs H Q => ∃ a dx fs, xs = [.ref a] ∧ H a = some (.ins C dx fs) ∧ sp [.ref a] H (fun v H' => ∃ z : Int, v = .int z ∧ 0 ≤ z ∧ z < 2 ^ 63 ∧ Q (.int z) H') E
theorem k_lenOwn (hr : Room (n + 1) X.A) (F : FnOk X.prog X.w X.K X.mg X.base CX n f fd ps sp) (hs : PySem.W.findIn X.K (.ref C) "__len__" = some (some (.ref f))) (hf : PySem.W.isFn X.K (.ref f) = true) (hb : Binds X.K fd ps []) (hx : Passes CX X E) :
    CallR X (.builtin "len") (rLenOwn C sp E) := by
  intro pins s σ H xs us Q I r hw
  obtain ⟨a, dx, fs, rfl, ha, hsp⟩ := hw
  obtain ⟨u, rfl, rx⟩ := vals1 r
  cases rx
  obtain ⟨_, O, _⟩ := ins_get I.hok ha
  obtain ⟨_, O, _⟩ := O.look
  obtain ⟨_, hF⟩ := I.fr
  refine PySem.W.len_K hF I.ok.mod.kin O hs hf (wpAny_mono (call_own rfl hr.in1 F hb hx I r hsp) ?_ fun _ _ z => z)
  rintro v s' ⟨y, H', I', ry, z, rfl, h0, h1, q⟩
  obtain ⟨t, rfl⟩ := ry
  exact ⟨⟨h0, h1⟩, .int z, H', I'.tok _, ⟨_, rfl⟩, q⟩
def rInOwn (C : Addr) (sp : Sp) (E : XK) (neg : Bool) : R2 := fun x y H Q => ∃ a dx fs, y = .ref a ∧ H a = some (.ins C dx fs) ∧ sp [.ref a, x] H (fun v H' => ∃ b, v = .bl b ∧ Q (.bl (if neg then !b else b)) H') E
theorem k_inOwn (hr : Room n X.A) (F : FnOk X.prog X.w X.K X.mg X.base CX n f fd ps sp) (hs : PySem.W.findIn X.K (.ref C) "__contains__" = some (some (.ref f))) (hf : PySem.W.isFn X.K (.ref f) = true) (hb : Binds X.K fd ps []) (hx : Passes CX X E) :
    OpR X (compareOp .In) (rInOwn C sp E false) := by
  intro pins s σ H x y v u Q I rx ry hw
  obtain ⟨a, dx, fs, rfl, ha, hsp⟩ := hw
  cases ry
  obtain ⟨_, O, _⟩ := ins_get I.hok ha
  obtain ⟨_, O, _⟩ := O.look
  obtain ⟨_, hF⟩ := I.fr
  refine PySem.W.in_K hF I.ok.mod.kin O hs hf (wpAny_mono (call_own (vs := [.ref a, x]) rfl hr F hb hx I (.cons rfl (.cons rx .nil)) hsp) ?_ fun _ _ z => z)
  rintro r s' ⟨y, H', I', ry, b, rfl, q⟩
  refine wpAny_mono (tru_ok pins s' σ H' (.bl b) r (fun k H'' => k = b ∧ Q (.bl b) H'') I' ry ⟨b, rfl, rfl, q⟩) ?_ fun _ _ z => z
  rintro k s'' ⟨H'', I'', rfl, q'⟩
  exact ⟨.bl k, H'', I'', rfl, q'⟩
theorem k_ninOwn (hr : Room n X.A) (F : FnOk X.prog X.w X.K X.mg X.base CX n f fd ps sp) (hs : PySem.W.findIn X.K (.ref C) "__contains__" = some (some (.ref f))) (hf : PySem.W.isFn X.K (.ref f) = true) (hb : Binds X.K fd ps []) (hx : Passes CX X E) :
    OpR X (compareOp .NotIn) (rInOwn C sp E true) := by
  intro pins s σ H x y v u Q I rx ry hw
  obtain ⟨a, dx, fs, rfl, ha, hsp⟩ := hw
  cases ry
  obtain ⟨_, O, _⟩ := ins_get I.hok ha
  obtain ⟨_, O, _⟩ := O.look
  obtain ⟨_, hF⟩ := I.fr
  refine PySem.W.notIn_K hF I.ok.mod.kin O hs hf (wpAny_mono (call_own (vs := [.ref a, x]) rfl hr F hb hx I (.cons rfl (.cons rx .nil)) hsp) ?_ fun _ _ z => z)
  rintro r s' ⟨y, H', I', ry, b, rfl, q⟩
  refine wpAny_mono (tru_ok pins s' σ H' (.bl b) r (fun k H'' => k = b ∧ Q (.bl (!b)) H'') I' ry ⟨b, rfl, rfl, q⟩) ?_ fun _ _ z => z
  rintro k s'' ⟨H'', I'', rfl, q'⟩
  exact ⟨.bl (!k), H'', I'', rfl, q'⟩
def rEqOwn (K : PySem.W.Frag) (C : Addr) (sp : Sp) (E : XK) : R2 := fun x y H Q => ∃ a dx fs tb, x = .ref a ∧ H a = some (.ins C dx fs) ∧ TyX K H y tb ∧ PySem.W.notFirst K C tb = true ∧ sp [.ref a, y] H (fun v H' => ∃ b, v = .bl b ∧ Q (.bl b) H') E
theorem k_eqOwn (h : X.K = K) (hr : Room n X.A) (F : FnOk X.prog X.w X.K X.mg X.base CX n f fd ps sp) (hs : PySem.W.findIn X.K (.ref C) "__eq__" = some (some (.ref f))) (hf : PySem.W.isFn X.K (.ref f) = true) (hb : Binds X.K fd ps []) (hx : Passes CX X E) :
    OpR X (compareOp .Eq) (rEqOwn K C sp E) := by
  subst h
  intro pins s σ H x y v u Q I rx ry hw
  obtain ⟨a, dx, fs, tb, rfl, ha, ty, nf, hsp⟩ := hw
  cases rx
  obtain ⟨_, O, _⟩ := ins_get I.hok ha
  obtain ⟨_, O, _⟩ := O.look
  obtain ⟨_, hF⟩ := I.fr
  obtain ⟨_, kx, kp, _⟩ := kit_of I ry ty
  show wpAny (model X.prog X.w) X.A (richCompare .Eq _ u) (EP X pins σ Q) X.xe s
  refine PySem.W.cmp_K (op := .Eq) (tb := tb) hr.units0 hF I.ok.mod.kin O (kx.ty _ _ I.kIn kp) nf hs hf (wpAny_mono (call_own (vs := [.ref a, y]) rfl hr F hb hx I (.cons rfl (.cons ry .nil)) hsp) ?_ fun _ _ z => z)
  rintro r s' ⟨y, H', I', ry, b, rfl, q⟩
  cases ry
  exact ⟨.bl b, H', I', rfl, q⟩
end
end RD

namespace RD
open PySem PySem.Spec PyProof.Rows L2
/-! further rules: an own error made without arguments; an object made where what is raised is wished for at the slots -/
section
variable {X : Cx} {C : Addr} {bmB : List Value} {B newId initId : String}
theorem pmk_own0 {x : Str} {p pos : Pos} (F : ExcBaseFacts B newId initId bmB) (q : PySem.W.excIn X.K C bmB newId = true) (gC : X.mg x = some (.ref C)) (kC : PySem.W.keepIn X.K (.ref C) = true) (r : Raises X (.ref C)) (hg : Gl X x)
    (hdb : (x == ("__debug__" : Str)) = false := by decide) : PMk X (.Call (.Name x p) [] [] pos) (fun _ H Q => Q (.ref C) none H) := by
  intro pins s0 σ H Q J hw
  refine wpAny_Call_Name_kw (ld_glob J hg gC ?_ hdb)
  refine PySem.W.callWith_K0 J.kIn kC ?_
  show wpAny _ _ (PySem.call (Value.ref C) []) _ _ _
  obtain ⟨_, _, _, _, _, _, _, _, _, _, _, _, _, _, _, _, _, hC, hN, hni, tl⟩ := exc_obj J.kIn q
  exact wpAny_call_exc_subT F tl hC hN hni (fun _ _ hm => mk_of J hm r hw (J.hok.gone hm.new)) (Nat.zero_le _)
end
section
variable {X : Cx} {CX : CXT} {k : Nat} {f C : Addr} {fd : FuncData} {ps : List Str} {sp : Sp} {E : L2.St → XK} {x : Str} {p pos : Pos} {e : Expr} {es : List Expr} {t : TA}
def tMakeS (C : Addr) (sp : Sp) (E : L2.St → XK) (t : TA) : TE := fun σ H Q => t σ H fun vs H1 => MKE C sp [] (E σ) vs H1 Q
/-- a way out with the slots as they are, seen as one that asks nothing of them -/
theorem pe_makeS (M : Mk X.K C f) (F : FnOk X.prog X.w X.K X.mg X.base CX k f fd ps sp) (hr : Room (k + 1) X.A) (hg : Gl X x) (hm : X.mg x = some (.ref C)) (hb : Binds X.K fd ps []) (hx : ∀ σ, PassesAt CX X σ (E σ))
    (ha : PA X (e :: es) t) (hdb : (x == ("__debug__" : Str)) = false := by decide) (he : starEach (e :: es) X.env = (false, eval e X.env) :: starEach es X.env := by rfl) (hpl : (backTo pos (starEach es X.env)).any (·.1) = false := by rfl) :
    PE X (.Call (.Name x p) (e :: es) [] pos) (tMakeS C sp E t) := by
  refine ⟨fun pins s0 σ H Q I hw => ?_⟩
  refine wpAny_Call_Name_kw (ld_glob I hg hm ?_ hdb)
  refine PySem.W.callWith_K (h₀ := X.base) I.ok.mod.kin M.kp (thn (ha.run pos pins s0 σ H _ I hw) fun us s ⟨vs, H1, I1, r, q⟩ => ⟨I1.kIn, ?_⟩) he hpl
  have hq := q (s.heap.objs.size + 1) s.heap.objs.size (I1.hok.fresh (Nat.le_succ _)) (I1.hok.fresh (Nat.le_refl _)) (Nat.ne_of_lt (Nat.lt_succ_self _))
  rw [List.append_nil] at hq
  have I2 := Inv.made (C := C) I1
  have r2 : Vals (V.ref (s.heap.objs.size + 1) :: vs) (Value.ref (s.heap.objs.size + 1) :: us) := .cons rfl r
  have hl : (Value.ref (s.heap.objs.size + 1) :: us).length = ps.length := (r2.length.symm.trans (F.len _ _ _ _ hq))
  have bb := hb _ (Value.ref (s.heap.objs.size + 1) :: us) I2.kIn (by rw [List.append_nil]; exact hl)
  rw [List.append_nil] at bb
  refine wpAny_call (make_map (f := f) I1.kIn M.makes M.init (beq_iff_eq.mp M.fn) ?_)
  refine codeAny_mono (F.run _ X.stack _ _ ⟨Value.ref (s.heap.objs.size + 1) :: us, []⟩ (Value.ref (s.heap.objs.size + 1) :: us) _ _ (E σ) (hr.make C us []) (I2.env0.make C us []) bb r2 hq) ?_
  intro rr s' hq'
  cases rr with
  | error er => exact hx σ pins _ _ er s' I2 hq'
  | ok fl =>
    cases fl with
    | ret u =>
      obtain ⟨_, H', I3, rv, ev, q3⟩ := I2.after hq'
      subst ev
      exact ⟨rv, V.ref (s.heap.objs.size + 1), H', I3, rfl, q3⟩
    | next => exact hq'.elim
    | brk => exact hq'.elim
    | cont => exact hq'.elim
end
/-- a reading under a fact -/
def tWhen (p : Prop) (t : TS) : TS := fun D σ H => p ∧ t D σ H
theorem pss_when {X : Cx} {sts : List Stmt} {t : TS} {p : Prop} (h : p → PSs X sts t) : PSs X sts (tWhen p t) := ⟨fun pins s σ H D I hw => (h hw.1).run pins s σ H D I hw.2⟩
theorem k_isE {X : Cx} {K : PySem.W.Frag} {a D : Addr} {oe : Obj} {pn : List (Addr × Obj)} (h : X.K = K) (C : ExcC K D) (hz : Zc (.ref D) none oe) (hf : ∃ vs, oe.data = .fields vs) : CallR (X.suite a ((a, oe) :: pn)) (.builtin "isinstance") (rIsE K D a) := by subst h; exact call_isE C hz hf
/-- an error of a class is what a clause names that names the class -/
theorem exm_self {K : PySem.W.Frag} {S : Addr} (h1 : PySem.W.subIn K (.ref S) (.type "BaseException") = some true) (h2 : PySem.W.isClsIn K S = true) (h3 : PySem.W.typeIn K (.ref S) = some (.type "type")) (h4 : PySem.W.subIn K (.ref S) (.ref S) = some true) :
    PySem.W.exmOne K (.ref S) (.ref S) = some true := by
  have e1 : (PySem.W.subIn K (.ref S) (.type "BaseException") == some true) = true := by rw [h1] <;> rfl
  have e2 : ((PySem.W.clsIn K S).isSome && PySem.W.typeIn K (.ref S) == some (.type "type")) = true := by
    have h2' : (PySem.W.clsIn K S).isSome = true := h2
    rw [h2', h3] <;> rfl
  show (if (PySem.W.subIn K (.ref S) (.type "BaseException") == some true) = true then (if ((PySem.W.clsIn K S).isSome && PySem.W.typeIn K (.ref S) == some (.type "type")) = true then PySem.W.subIn K (.ref S) (.ref S) else none) else none) = some true
  rw [if_pos e1, if_pos e2]
  exact h4
end RD

namespace MM
/-! rounds of a permutation -/
def it (f : Nat → Nat) : Nat → Nat → Nat
  | 0, h => h
  | i + 1, h => f (it f i h)
theorem it_one (f : Nat → Nat) : ∀ i h, it f (i + 1) h = it f i (f h)
  | 0, h => rfl
  | i + 1, h => by
    show f (it f (i + 1) h) = f (it f i (f h))
    rw [it_one f i h]
theorem it_add (f : Nat → Nat) : ∀ i j h, it f (i + j) h = it f i (it f j h)
  | 0, j, h => by rw [Nat.zero_add]; rfl
  | i + 1, j, h => by
    rw [Nat.succ_add]
    show f (it f (i + j) h) = f (it f i (it f j h))
    rw [it_add f i j h]
structure PermOn (f : Nat → Nat) (n : Nat) : Prop where
  lt : ∀ x, x < n → f x < n
  inj : ∀ x y, x < n → y < n → f x = f y → x = y
section
variable {f : Nat → Nat} {n : Nat}
theorem PermOn.it_lt (p : PermOn f n) : ∀ i h, h < n → it f i h < n
  | 0, _, hh => hh
  | i + 1, h, hh => p.lt _ (p.it_lt i h hh)
theorem PermOn.it_inj (p : PermOn f n) : ∀ i x y, x < n → y < n → it f i x = it f i y → x = y
  | 0, _, _, _, _, e => e
  | i + 1, x, y, hx, hy, e => p.it_inj i x y hx hy (p.inj _ _ (p.it_lt i x hx) (p.it_lt i y hy) e)
theorem pigeon : ∀ (n : Nat) (g : Nat → Nat), (∀ i, i ≤ n → g i < n) → ∃ i j, i < j ∧ j ≤ n ∧ g i = g j
  | 0, g, h => absurd (h 0 (Nat.le_refl _)) (Nat.not_lt_zero _)
  | n + 1, g, h => by
    by_cases c : ∃ i, i ≤ n ∧ g i = g (n + 1)
    · obtain ⟨i, hi, e⟩ := c
      exact ⟨i, n + 1, by omega, Nat.le_refl _, e⟩
    · have c' : ∀ i, i ≤ n → g i ≠ g (n + 1) := fun i hi e => c ⟨i, hi, e⟩
      have hn := h (n + 1) (Nat.le_refl _)
      obtain ⟨i, j, hij, hj, e⟩ := pigeon n (fun i => if g i = n then g (n + 1) else g i) (fun i hi => by
        show (if g i = n then g (n + 1) else g i) < n
        by_cases q : g i = n
        · rw [if_pos q]
          have := c' i hi
          omega
        · rw [if_neg q]
          have := h i (by omega)
          omega)
      refine ⟨i, j, hij, by omega, ?_⟩
      have e' : (if g i = n then g (n + 1) else g i) = (if g j = n then g (n + 1) else g j) := e
      have ci := c' i (by omega)
      have cj := c' j hj
      by_cases qi : g i = n
      · by_cases qj : g j = n
        · rw [qi, qj]
        · rw [if_pos qi, if_neg qj] at e'
          exact absurd e'.symm cj
      · by_cases qj : g j = n
        · rw [if_neg qi, if_pos qj] at e'
          exact absurd e' ci
        · rw [if_neg qi, if_neg qj] at e'
          exact e'
theorem least {P : Nat → Prop} : ∀ k, P k → ∃ m, P m ∧ m ≤ k ∧ ∀ j, j < m → ¬ P j := by
  intro k
  induction k using Nat.strongRecOn with
  | ind k ih =>
    intro hk
    by_cases c : ∃ j, j < k ∧ P j
    · obtain ⟨j, hj, pj⟩ := c
      obtain ⟨m, pm, hm, hl⟩ := ih j hj pj
      exact ⟨m, pm, by omega, hl⟩
    · exact ⟨k, hk, Nat.le_refl _, fun j hj pj => c ⟨j, hj, pj⟩⟩
/-- the round of h has k members -/
structure Per (f : Nat → Nat) (h k : Nat) : Prop where
  pos : 0 < k
  back : it f k h = h
  least : ∀ j, 0 < j → j < k → it f j h ≠ h
theorem PermOn.per (p : PermOn f n) {h : Nat} (hh : h < n) : ∃ k, k ≤ n ∧ Per f h k := by
  obtain ⟨i, j, hij, hj, e⟩ := pigeon n (fun i => it f i h) fun i _ => p.it_lt i h hh
  have e2 : it f i h = it f i (it f (j - i) h) := by
    rw [← it_add]
    have : i + (j - i) = j := by omega
    rw [this]
    exact e
  have e3 : it f (j - i) h = h := (p.it_inj i _ _ hh (p.it_lt _ h hh) e2).symm
  obtain ⟨m, ⟨pm, bm⟩, hm, hl⟩ := MM.least (P := fun k => 0 < k ∧ it f k h = h) (j - i) ⟨by omega, e3⟩
  exact ⟨m, by omega, pm, bm, fun j hj hjm e => hl j hjm ⟨hj, e⟩⟩
def cycGo (f : Nat → Nat) (h0 : Nat) : Nat → Nat → List Nat
  | 0, _ => []
  | k + 1, x => if x = h0 then [] else x :: cycGo f h0 k (f x)
def cyc (f : Nat → Nat) (n h : Nat) : List Nat := h :: cycGo f h n (f h)
theorem cycGo_per {h k : Nat} (p : Per f h k) : ∀ (m i fuel : Nat), i + m = k → 0 < i → m ≤ fuel → cycGo f h fuel (it f i h) = (List.range' i m).map (fun j => it f j h)
  | 0, i, fuel, e, _, _ => by
    have e' : it f i h = h := by
      have : i = k := by omega
      rw [this]
      exact p.back
    rw [e']
    cases fuel with
    | zero => rfl
    | succ q =>
      show (if h = h then [] else _) = _
      rw [if_pos rfl]
      rfl
  | m + 1, i, 0, _, _, hf => by omega
  | m + 1, i, fuel + 1, e, hi, hf => by
    show (if it f i h = h then [] else it f i h :: cycGo f h fuel (f (it f i h))) = _
    rw [if_neg (p.least i hi (by omega)), List.range'_succ, List.map_cons]
    have := cycGo_per p m (i + 1) fuel (by omega) (by omega) (by omega)
    rw [← this]
    rfl
theorem cyc_per {h k : Nat} (p : Per f h k) (hk : k ≤ n + 1) : cyc f n h = (List.range k).map (fun j => it f j h) := by
  have pp := p.pos
  obtain ⟨m, rfl⟩ : ∃ m, k = m + 1 := ⟨k - 1, by omega⟩
  rw [List.range_eq_range', List.range'_succ, List.map_cons]
  show h :: cycGo f h n (it f 1 h) = h :: _
  rw [cycGo_per p m 1 n (by omega) (by omega) (by omega)]
theorem Per.mul {h k : Nat} (p : Per f h k) : ∀ q, it f (k * q) h = h
  | 0 => rfl
  | q + 1 => by
    rw [Nat.mul_succ, it_add, p.back]
    exact p.mul q
theorem mem_cyc (p : PermOn f n) {h x : Nat} (hh : h < n) : x ∈ cyc f n h ↔ ∃ i, x = it f i h := by
  obtain ⟨k, hk, pk⟩ := p.per hh
  rw [cyc_per pk (by omega), List.mem_map]
  constructor
  · rintro ⟨j, _, rfl⟩
    exact ⟨j, rfl⟩
  · rintro ⟨i, rfl⟩
    refine ⟨i % k, List.mem_range.mpr (Nat.mod_lt _ pk.pos), ?_⟩
    have e : i = i % k + k * (i / k) := by
      have := Nat.mod_add_div i k
      omega
    show it f (i % k) h = it f i h
    have e2 : it f i h = it f (i % k + k * (i / k)) h := by rw [← e]
    rw [e2, it_add, pk.mul]
theorem it_back (p : PermOn f n) {h : Nat} (hh : h < n) (i : Nat) : ∃ j, h = it f j (it f i h) := by
  obtain ⟨k, hk, pk⟩ := p.per hh
  refine ⟨(k - 1) * i, ?_⟩
  rw [← it_add]
  have : (k - 1) * i + i = k * i := by
    have hp := pk.pos
    obtain ⟨m, rfl⟩ : ∃ m, k = m + 1 := ⟨k - 1, by omega⟩
    show m * i + i = (m + 1) * i
    rw [Nat.succ_mul]
  rw [this, pk.mul]
theorem cyc_lt (p : PermOn f n) {h x : Nat} (hh : h < n) (hx : x ∈ cyc f n h) : x < n := by
  obtain ⟨i, rfl⟩ := (mem_cyc p hh).mp hx
  exact p.it_lt i h hh
theorem cyc_symm (p : PermOn f n) {h x : Nat} (hh : h < n) (hx : x ∈ cyc f n h) : h ∈ cyc f n x := by
  have hl := cyc_lt p hh hx
  obtain ⟨i, rfl⟩ := (mem_cyc p hh).mp hx
  exact (mem_cyc p hl).mpr (it_back p hh i)
theorem cyc_trans (p : PermOn f n) {h x y : Nat} (hh : h < n) (hx : x ∈ cyc f n h) (hy : y ∈ cyc f n x) : y ∈ cyc f n h := by
  have hl := cyc_lt p hh hx
  obtain ⟨j, rfl⟩ := (mem_cyc p hl).mp hy
  obtain ⟨i, rfl⟩ := (mem_cyc p hh).mp hx
  exact (mem_cyc p hh).mpr ⟨j + i, (it_add f j i h).symm⟩
theorem cyc_self (h : Nat) : h ∈ cyc f n h := List.mem_cons_self
theorem cyc_len (p : PermOn f n) {h : Nat} (hh : h < n) : (cyc f n h).length ≤ n := by
  obtain ⟨k, hk, pk⟩ := p.per hh
  rw [cyc_per pk (by omega), List.length_map, List.length_range]
  exact hk
theorem cyc_nodup (p : PermOn f n) {h : Nat} (hh : h < n) : (cyc f n h).Nodup := by
  obtain ⟨k, hk, pk⟩ := p.per hh
  rw [cyc_per pk (by omega)]
  refine List.pairwise_map.mpr (List.Pairwise.imp_of_mem ?_ (List.pairwise_lt_range (n := k)))
  intro i j hi hj hij e
  have hj' := List.mem_range.mp hj
  have e2 : it f i h = it f i (it f (j - i) h) := by
    rw [← it_add]
    have : i + (j - i) = j := by omega
    rw [this]
    exact e
  exact pk.least (j - i) (by omega) (by omega) (p.it_inj i _ _ hh (p.it_lt _ h hh) e2).symm
theorem cyc_at (p : PermOn f n) {h i : Nat} (hh : h < n) (hi : i < (cyc f n h).length) : (cyc f n h)[i]? = some (it f i h) := by
  obtain ⟨k, hk, pk⟩ := p.per hh
  rw [cyc_per pk (by omega), List.length_map, List.length_range] at hi
  rw [cyc_per pk (by omega), List.getElem?_map, List.getElem?_range hi]
  rfl
theorem cyc_end (p : PermOn f n) {h : Nat} (hh : h < n) : it f (cyc f n h).length h = h := by
  obtain ⟨k, hk, pk⟩ := p.per hh
  rw [cyc_per pk (by omega), List.length_map, List.length_range]
  exact pk.back
/-! the rounds, each from its least member on -/
def isMin (f : Nat → Nat) (n h : Nat) : Bool := (cyc f n h).all fun x => decide (h ≤ x)
def rnds (f : Nat → Nat) (n : Nat) : Nat → List (List Nat)
  | 0 => []
  | m + 1 => rnds f n m ++ (if isMin f n m = true then [cyc f n m] else [])
theorem isMin_iff {h : Nat} : isMin f n h = true ↔ ∀ x ∈ cyc f n h, h ≤ x := by
  unfold isMin
  rw [List.all_eq_true]
  exact ⟨fun q x hx => of_decide_eq_true (q x hx), fun q x hx => decide_eq_true (q x hx)⟩
theorem mem_rnds {c : List Nat} : ∀ m, c ∈ rnds f n m ↔ ∃ g, g < m ∧ isMin f n g = true ∧ c = cyc f n g
  | 0 => by
    constructor
    · intro h; cases h
    · rintro ⟨g, hg, _⟩; omega
  | m + 1 => by
    show c ∈ rnds f n m ++ (if isMin f n m = true then [cyc f n m] else []) ↔ _
    rw [List.mem_append, mem_rnds m]
    constructor
    · rintro (⟨g, hg, r⟩ | h)
      · exact ⟨g, by omega, r⟩
      · by_cases q : isMin f n m = true
        · rw [if_pos q] at h
          exact ⟨m, by omega, q, List.mem_singleton.mp h⟩
        · rw [if_neg q] at h
          cases h
    · rintro ⟨g, hg, q, e⟩
      by_cases hm : g = m
      · subst hm
        right
        rw [if_pos q]
        exact List.mem_singleton.mpr e
      · exact .inl ⟨g, by omega, q, e⟩
theorem mem_flat {x m : Nat} : x ∈ (rnds f n m).flatten ↔ ∃ g, g < m ∧ isMin f n g = true ∧ x ∈ cyc f n g := by
  rw [List.mem_flatten]
  constructor
  · rintro ⟨c, hc, hx⟩
    obtain ⟨g, hg, q, rfl⟩ := (mem_rnds m).mp hc
    exact ⟨g, hg, q, hx⟩
  · rintro ⟨g, hg, q, hx⟩
    exact ⟨_, (mem_rnds m).mpr ⟨g, hg, q, rfl⟩, hx⟩
theorem has_min (p : PermOn f n) {h : Nat} (hh : h < n) : ∃ g, g ≤ h ∧ g ∈ cyc f n h ∧ isMin f n g = true := by
  obtain ⟨g, hg, hl, hm⟩ := MM.least (P := fun x => x ∈ cyc f n h) h (cyc_self h)
  refine ⟨g, hl, hg, isMin_iff.mpr fun x hx => ?_⟩
  have hx' := cyc_trans p hh hg hx
  exact Nat.le_of_not_lt fun z => hm x z hx'
theorem not_min_in (p : PermOn f n) {h : Nat} (hh : h < n) (q : isMin f n h = false) : h ∈ (rnds f n h).flatten := by
  obtain ⟨g, hg, hm, hq⟩ := has_min p hh
  have hne : g ≠ h := fun e => by rw [e, q] at hq; cases hq
  exact mem_flat.mpr ⟨g, by omega, hq, cyc_symm p hh hm⟩
theorem min_out (p : PermOn f n) {h x : Nat} (hh : h < n) (q : isMin f n h = true) (hx : x ∈ cyc f n h) : x ∉ (rnds f n h).flatten := fun hf => by
  obtain ⟨g, hg, hgm, hxg⟩ := mem_flat.mp hf
  have h1 : g ∈ cyc f n x := cyc_symm p (by omega) hxg
  have := isMin_iff.mp q g (cyc_trans p hh hx h1)
  omega
theorem rnds_len : ∀ m, (rnds f n m).length ≤ m
  | 0 => Nat.le_refl _
  | m + 1 => by
    show (rnds f n m ++ (if isMin f n m = true then [cyc f n m] else [])).length ≤ m + 1
    rw [List.length_append]
    have := rnds_len m
    by_cases q : isMin f n m = true
    · rw [if_pos q]; show _ + 1 ≤ _; omega
    · rw [if_neg q]; show _ + 0 ≤ _; omega
theorem rnds_each (p : PermOn f n) {m : Nat} (hm : m ≤ n) {c : List Nat} (hc : c ∈ rnds f n m) : c.length ≤ n ∧ 0 < c.length := by
  obtain ⟨g, hg, _, rfl⟩ := (mem_rnds m).mp hc
  exact ⟨cyc_len p (by omega), Nat.succ_pos _⟩
theorem rnds_nodup (p : PermOn f n) : ∀ m, m ≤ n → (rnds f n m).flatten.Nodup
  | 0, _ => List.nodup_nil
  | m + 1, hm => by
    show (rnds f n m ++ (if isMin f n m = true then [cyc f n m] else [])).flatten.Nodup
    by_cases q : isMin f n m = true
    · rw [if_pos q, List.flatten_append]
      refine List.nodup_append.mpr ⟨rnds_nodup p m (by omega), ?_, ?_⟩
      · simpa using cyc_nodup p (show m < n by omega)
      · intro x hx y hy e
        subst e
        have hy' : x ∈ cyc f n m := by simpa using hy
        exact min_out p (by omega) q hy' hx
    · rw [if_neg q, List.append_nil]
      exact rnds_nodup p m (by omega)
end
theorem perm_erase {α : Type} : ∀ (l : List α) (i : Nat) (h : i < l.length), (l[i] :: l.eraseIdx i).Perm l
  | a :: l, 0, _ => List.Perm.refl _
  | a :: l, i + 1, h => by
    have hi : i < l.length := Nat.lt_of_succ_lt_succ h
    show (l[i]'hi :: a :: l.eraseIdx i).Perm (a :: l)
    exact (List.Perm.swap a _ _).trans (List.Perm.cons a (perm_erase l i hi))
/-! meshes as lists of next halves -/
def fn (st : List Nat) (x : Nat) : Nat := st.getD x 0
def tw (h : Nat) : Nat := if h % 2 = 0 then h + 1 else h - 1
def inv (ns : List Nat) : List Nat := (List.range ns.length).map fun h => ns.idxOf h
def stp (ns : List Nat) (b : Bool) : List Nat := if b = true then ns else (inv ns).map tw
structure IsMesh (ns : List Nat) : Prop where
  perm : ns.Perm (List.range ns.length)
  even : ns.length % 2 = 0
theorem tw_tw (h : Nat) : tw (tw h) = h := by
  unfold tw
  by_cases q : h % 2 = 0
  · rw [if_pos q, if_neg (by omega)]; omega
  · rw [if_neg q, if_pos (by omega)]; omega
theorem tw_inj {a b : Nat} (e : tw a = tw b) : a = b := by rw [← tw_tw a, e, tw_tw]
theorem tw_lt {h n : Nat} (hn : n % 2 = 0) (hh : h < n) : tw h < n := by
  unfold tw
  by_cases q : h % 2 = 0
  · rw [if_pos q]; omega
  · rw [if_neg q]; omega
theorem fn_at {st : List Nat} {x : Nat} (h : x < st.length) : st[x]? = some (fn st x) := by
  unfold fn
  rw [List.getD_eq_getElem?_getD, List.getElem?_eq_getElem h]
  rfl
section
variable {ns : List Nat}
theorem IsMesh.lt (m : IsMesh ns) {x : Nat} (h : x ∈ ns) : x < ns.length := List.mem_range.mp (m.perm.mem_iff.mp h)
theorem IsMesh.mem (m : IsMesh ns) {x : Nat} (h : x < ns.length) : x ∈ ns := m.perm.mem_iff.mpr (List.mem_range.mpr h)
theorem IsMesh.nodup (m : IsMesh ns) : ns.Nodup := m.perm.nodup_iff.mpr List.nodup_range
theorem fn_mem {st : List Nat} {x : Nat} (h : x < st.length) : fn st x ∈ st := List.mem_of_getElem? (fn_at h)
theorem IsMesh.fnp (m : IsMesh ns) : PermOn (fn ns) ns.length where
  lt := fun x hx => m.lt (fn_mem hx)
  inj := fun x y hx hy e => by
    have h1 := fn_at hx
    have h2 := fn_at hy
    rw [e, ← h2] at h1
    exact (List.getElem?_inj hx m.nodup).mp h1
theorem inv_len : (inv ns).length = ns.length := by unfold inv; rw [List.length_map, List.length_range]
theorem idx_lt {x : Nat} (h : x ∈ ns) : ns.idxOf x < ns.length := List.idxOf_lt_length_iff.mpr h
theorem idx_at {x : Nat} (h : x ∈ ns) : ns[ns.idxOf x]? = some x := by
  rw [List.getElem?_eq_getElem (idx_lt h), List.getElem_idxOf (idx_lt h)]
theorem inv_at {x : Nat} (h : x < ns.length) : (inv ns)[x]? = some (ns.idxOf x) := by
  unfold inv
  rw [List.getElem?_map, List.getElem?_range h]
  rfl
theorem fn_inv {x : Nat} (h : x < ns.length) : fn (inv ns) x = ns.idxOf x := by
  have := fn_at (st := inv ns) (x := x) (by rw [inv_len]; exact h)
  rw [inv_at h] at this
  exact (Option.some.inj this).symm
theorem IsMesh.idx_inj (m : IsMesh ns) {x y : Nat} (hx : x ∈ ns) (hy : y ∈ ns) (e : ns.idxOf x = ns.idxOf y) : x = y := by
  have h1 := idx_at hx
  have h2 := idx_at hy
  rw [e, h2] at h1
  exact (Option.some.inj h1).symm
theorem stp_len (b : Bool) : (stp ns b).length = ns.length := by
  cases b
  · show ((inv ns).map tw).length = _
    rw [List.length_map, inv_len]
  · rfl
theorem stp_at {x : Nat} (h : x < ns.length) : (stp ns false)[x]? = some (tw (ns.idxOf x)) := by
  show ((inv ns).map tw)[x]? = _
  rw [List.getElem?_map, inv_at h]
  rfl
theorem fn_stp {x : Nat} (h : x < ns.length) : fn (stp ns false) x = tw (ns.idxOf x) := by
  have := fn_at (st := stp ns false) (x := x) (by rw [stp_len]; exact h)
  rw [stp_at h] at this
  exact (Option.some.inj this).symm
theorem IsMesh.stp (m : IsMesh ns) (b : Bool) : PermOn (fn (stp ns b)) ns.length := by
  cases b
  · refine ⟨fun x hx => ?_, fun x y hx hy e => ?_⟩
    · rw [fn_stp hx]
      exact tw_lt m.even (idx_lt (m.mem hx))
    · rw [fn_stp hx, fn_stp hy] at e
      exact m.idx_inj (m.mem hx) (m.mem hy) (tw_inj e)
  · exact m.fnp
end
end MM

namespace Pf
open PySem PySem.Spec PyProof.Rows L2
theorem sq {K : PySem.W.Frag} {H : Hp} {a : Addr} {xs : List V} (h : H a = some (.lst xs)) : SqL K H a xs := .inl (.inl h)
theorem st {K : PySem.W.Frag} {H : Hp} {a : Addr} {xs : List V} (h : H a = some (.tup xs)) : SqT K H a xs := .inl (.inl h)
theorem szl {n : Nat} (h : n ≤ 100000) : n ≤ sizeLine := Nat.le_trans h (by decide)
theorem szt {n : Nat} (h : n < 100000) : n < sizeLine := Nat.lt_of_lt_of_le h (by decide)
abbrev vn (n : Nat) : V := .int (n : Int)
def vns (l : List Nat) : List V := l.map vn
theorem vns_len (l : List Nat) : (vns l).length = l.length := List.length_map _
theorem vns_int (l : List Nat) : vns l = (l.map (fun n : Nat => (n : Int))).map V.int := by
  unfold vns
  rw [List.map_map]
  rfl
theorem vns_at {l : List Nat} {i x : Nat} (h : l[i]? = some x) : (vns l)[i]? = some (vn x) := by
  unfold vns
  rw [List.getElem?_map, h]
  rfl
theorem vns_app (l m : List Nat) : vns (l ++ m) = vns l ++ vns m := List.map_append
theorem of_vns {l : List Nat} {i : Nat} {x : V} (h : (vns l)[i]? = some x) : ∃ n, l[i]? = some n ∧ x = vn n := by
  unfold vns at h
  rw [List.getElem?_map] at h
  cases e : l[i]? with
  | none => rw [e] at h; cases h
  | some n => rw [e] at h; exact ⟨n, rfl, (Option.some.inj h).symm⟩
theorem at_n {xs : List V} {j : Nat} {v : V} (h : xs[j]? = some v) : atI xs ((j : Nat) : Int) = some v := atI_nat h
theorem ix_n {n j : Nat} (h : j < n) : ixN n ((j : Nat) : Int) = some j := by
  unfold ixN
  rw [if_pos (by omega), if_pos (by omega), Int.toNat_natCast]
/-! cuts -/
theorem cut_to (xs : List V) (k : Nat) : cutV xs none (some (k : Int)) = xs.take k := by
  unfold cutV
  rw [HT.sIx_none, HT.sIx_nat]
  show List.take (min k xs.length - 0) xs = _
  rw [Nat.sub_zero]
  by_cases h : k ≤ xs.length
  · rw [Nat.min_eq_left h]
  · rw [Nat.min_eq_right (by omega), List.take_length, List.take_of_length_le (by omega)]
theorem cut_from (xs : List V) (k : Nat) : cutV xs (some (k : Int)) none = xs.drop k := by
  unfold cutV
  rw [HT.sIx_none, HT.sIx_nat]
  by_cases h : k ≤ xs.length
  · rw [Nat.min_eq_left h]
    exact List.take_of_length_le (by rw [List.length_drop]; exact Nat.le_refl _)
  · rw [Nat.min_eq_right (by omega), List.drop_of_length_le (Nat.le_refl _), List.drop_of_length_le (by omega), List.take_nil]
/-! data -/
def dI (l : List Int) : PyData := .list (l.map PyData.int)
def dN (l : List Nat) : PyData := dI (l.map fun n : Nat => (n : Int))
def dLL (l : List (List Nat)) : PyData := .list (l.map dN)
theorem eqv_ints : ∀ l m : List Int, PyData.eqvAll (l.map PyData.int) (m.map PyData.int) = decide (l = m)
  | [], [] => by simp [PyData.eqvAll]
  | [], _ :: _ => by simp [PyData.eqvAll]
  | _ :: _, [] => by simp [PyData.eqvAll]
  | a :: l, b :: m => by
    simp only [List.map_cons, PyData.eqvAll, PyData.eqv, eqv_ints l m]
    by_cases e : a = b
    · subst e; simp
    · simp [e]
theorem eqv_dI (l m : List Int) : PyData.eqv (dI l) (dI m) = decide (l = m) := by
  unfold dI
  rw [PyData.eqv]
  exact eqv_ints l m
theorem map_nat_inj : ∀ {l m : List Nat}, l.map (fun n : Nat => (n : Int)) = m.map (fun n : Nat => (n : Int)) → l = m
  | [], [], _ => rfl
  | [], _ :: _, h => by cases h
  | _ :: _, [], h => by cases h
  | a :: l, b :: m, h => by
    rw [List.map_cons, List.map_cons, List.cons.injEq] at h
    rw [map_nat_inj h.2, Int.ofNat.inj h.1]
theorem eqv_dN (l m : List Nat) : PyData.eqv (dN l) (dN m) = decide (l = m) := by
  unfold dN
  rw [eqv_dI]
  by_cases e : l = m
  · rw [decide_eq_true e, e, decide_eq_true rfl]
  · rw [decide_eq_false e, decide_eq_false fun z => e (map_nat_inj z)]
theorem eqv_lls : ∀ l m : List (List Nat), PyData.eqvAll (l.map dN) (m.map dN) = decide (l = m)
  | [], [] => by simp [PyData.eqvAll]
  | [], _ :: _ => by simp [PyData.eqvAll]
  | _ :: _, [] => by simp [PyData.eqvAll]
  | a :: l, b :: m => by
    simp only [List.map_cons, PyData.eqvAll, eqv_dN, eqv_lls l m]
    by_cases e : a = b
    · subst e; simp
    · simp [e]
theorem eqv_dLL (l m : List (List Nat)) : PyData.eqv (dLL l) (dLL m) = decide (l = m) := by
  unfold dLL
  rw [PyData.eqv]
  exact eqv_lls l m
theorem lay_ints : ∀ l : List Int, PyData.canLayAll0 (l.map PyData.int) = true
  | [] => by simp [PyData.canLayAll0]
  | a :: l => by simp [PyData.canLayAll0, PyData.canLay0, lay_ints l]
theorem dep_ints : ∀ l : List Int, PyData.depthAll (l.map PyData.int) = 0
  | [] => by simp [PyData.depthAll]
  | a :: l => by simp [PyData.depthAll, PyData.depth, dep_ints l]
theorem sh_dI (l : List Int) : SeqAt.shaped (dI l) = true := by
  unfold SeqAt.shaped dI
  rw [PyData.canLay0, PyData.depth, lay_ints, dep_ints]
  rfl
theorem sh_dN (l : List Nat) : SeqAt.shaped (dN l) = true := sh_dI _
theorem lay_dN (l : List Nat) : PyData.canLay0 (dN l) = true := by
  unfold dN dI
  rw [PyData.canLay0]
  exact lay_ints _
theorem dep_dN (l : List Nat) : PyData.depth (dN l) = 1 := by
  unfold dN dI
  rw [PyData.depth, dep_ints]
theorem lay_lls : ∀ l : List (List Nat), PyData.canLayAll0 (l.map dN) = true
  | [] => by simp [PyData.canLayAll0]
  | a :: l => by simp [PyData.canLayAll0, lay_dN, lay_lls l]
theorem dep_lls : ∀ l : List (List Nat), PyData.depthAll (l.map dN) ≤ 1
  | [] => by simp [PyData.depthAll]
  | a :: l => by
    have := dep_lls l
    simp only [List.map_cons, PyData.depthAll, dep_dN]
    omega
theorem sh_dLL (l : List (List Nat)) : SeqAt.shaped (dLL l) = true := by
  unfold SeqAt.shaped dLL
  rw [PyData.canLay0, PyData.depth, lay_lls]
  have := dep_lls l
  simp
  omega
theorem dp_ints {K : PySem.W.Frag} {H : Hp} : ∀ l : List Int, DpAll K H (l.map V.int) (l.map PyData.int)
  | [] => .nil
  | a :: l => .cons (.int a) (dp_ints l)
theorem dp_I {K : PySem.W.Frag} {H : Hp} {a : Addr} {l : List Int} (h : SqL K H a (l.map V.int)) : Dp K H (.ref a) (dI l) := .lst h (dp_ints l)
theorem dp_N {K : PySem.W.Frag} {H : Hp} {a : Addr} {l : List Nat} (h : SqL K H a (vns l)) : Dp K H (.ref a) (dN l) := by
  rw [vns_int] at h
  exact dp_I h
/-- a list of lists of numbers, at p, its lists at ps -/
structure LL (H : Hp) (p : Addr) (ps : List Addr) (xss : List (List Nat)) : Prop where
  top : H p = some (.lst (ps.map V.ref))
  each : Paired (fun q xs => H q = some (.lst (vns xs))) ps xss
theorem paired_imp {α β : Type} {F G : α → β → Prop} (k : ∀ a b, F a b → G a b) : ∀ {l : List α} {m : List β}, Paired F l m → Paired G l m
  | _, _, .nil => .nil
  | _, _, .cons r t => .cons (k _ _ r) (paired_imp k t)
theorem LL.same {H H' : Hp} {p : Addr} {ps : List Addr} {xss : List (List Nat)} (h : LL H p ps xss) (s : Same H H') : LL H' p ps xss := ⟨s _ _ h.top, paired_imp (fun _ _ e => s _ _ e) h.each⟩
theorem dp_all {K : PySem.W.Frag} {H : Hp} : ∀ {ps : List Addr} {xss : List (List Nat)}, Paired (fun q xs => H q = some (.lst (vns xs))) ps xss → DpAll K H (ps.map V.ref) (xss.map dN)
  | _, _, .nil => .nil
  | _, _, .cons r t => .cons (dp_N (sq r)) (dp_all t)
theorem dp_LL {K : PySem.W.Frag} {H : Hp} {p : Addr} {ps : List Addr} {xss : List (List Nat)} (h : LL H p ps xss) : Dp K H (.ref p) (dLL xss) := .lst (sq h.top) (dp_all h.each)
theorem paired_app {α β : Type} {F : α → β → Prop} : ∀ {l l' : List α} {m m' : List β}, Paired F l m → Paired F l' m' → Paired F (l ++ l') (m ++ m')
  | _, _, _, _, .nil, s => s
  | _, _, _, _, .cons r t, s => .cons r (paired_app t s)
theorem paired_len {α β : Type} {F : α → β → Prop} : ∀ {l : List α} {m : List β}, Paired F l m → l.length = m.length
  | _, _, .nil => rfl
  | _, _, .cons _ t => by rw [List.length_cons, List.length_cons, paired_len t]
theorem paired_mem {α β : Type} {F : α → β → Prop} : ∀ {l : List α} {m : List β}, Paired F l m → ∀ a ∈ l, ∃ b ∈ m, F a b
  | _, _, .nil, _, h => by cases h
  | _, _, .cons (a := x) (b := y) r t, a, h => by
    rcases List.mem_cons.mp h with rfl | h
    · exact ⟨y, List.mem_cons_self, r⟩
    · obtain ⟨b, hb, f⟩ := paired_mem t a h
      exact ⟨b, List.mem_cons_of_mem _ hb, f⟩
theorem paired_upd {H : Hp} {p : Addr} {o : HO} : ∀ {l : List Addr} {m : List (List Nat)}, Paired (fun q xs => H q = some (.lst (vns xs))) l m → (∀ x ∈ l, x ≠ p) → Paired (fun q xs => (upd H p o) q = some (.lst (vns xs))) l m
  | _, _, .nil, _ => .nil
  | _, _, .cons r t, h => .cons (by rw [upd_ne (h _ List.mem_cons_self)]; exact r) (paired_upd t fun x hx => h x (List.mem_cons_of_mem _ hx))
theorem same_but {H H' : Hp} {p : Addr} {o : HO} (h : Same H H') (hp : H p = none) : Same H (upd H' p o) := RD.same_mut h hp
/-- all but what stands at a is as it was -/
def SameX (a : Addr) (H H' : Hp) : Prop := ∀ b o, H b = some o → b ≠ a → H' b = some o
theorem SameX.refl (a : Addr) (H : Hp) : SameX a H H := fun _ _ h _ => h
theorem SameX.trans {a : Addr} {H H1 H2 : Hp} (x : SameX a H H1) (y : SameX a H1 H2) : SameX a H H2 := fun b o h hb => y b o (x b o h hb) hb
theorem Same.x {a : Addr} {H H1 : Hp} (x : Same H H1) : SameX a H H1 := fun b o h _ => x b o h
theorem SameX.put {a : Addr} {H H1 : Hp} {o : HO} (x : SameX a H H1) : SameX a H (upd H1 a o) := fun b u h hb => by rw [upd_ne hb]; exact x b u h hb
theorem SameX.same {a : Addr} {H H1 : Hp} (x : SameX a H H1) (h : H a = none) : Same H H1 := fun b o e => x b o e (ne_of_none e h)
theorem SameX.mut {a : Addr} {H H' : Hp} {p : Addr} {o : HO} (e : SameX a H H') (h : H p = none) : SameX a H (upd H' p o) := fun b u hb hn => by
  rw [upd_ne (ne_of_none hb h)]
  exact e b u hb hn
theorem SameX.free {a : Addr} {H H' : Hp} (e : SameX a H H') {l : Addr} (h : H' l = Option.none) (hl : l ≠ a) : H l = Option.none := by
  cases q : H l with
  | none => rfl
  | some o =>
    rw [e l o q hl] at h
    cases h
theorem SameX.under {t : Addr} {H H1 H2 : Hp} (x : SameX t H1 H2) (s : Same H H1) (n : H t = none) : Same H H2 := fun b o e => x b o (s b o e) (ne_of_none e n)
theorem same_not {H H' : Hp} {p q : Addr} {o : HO} (_ : Same H H') (e : H p = some o) (n : H q = none) : p ≠ q := ne_of_none e n
end Pf

namespace RD
open PySem PySem.Spec PyProof.Rows L2
section
variable {σ : L2.St} {H : Hp} {Q : VK} {a b : Addr} {xs zs : List V}
theorem pop {y : V} (h : H a = some (.lst (xs ++ [y]))) (q : Q y (upd H a (.lst xs))) : rPop (.ref a) [] H Q := ⟨a, xs ++ [y], y, rfl, rfl, h, by simp, by rw [List.dropLast_concat]; exact q⟩
theorem ext (h : H a = some (.lst xs)) (h' : H b = some (.lst zs)) (hl : xs.length + zs.length ≤ sizeLine) (q : Q .non (upd H a (.lst (xs ++ zs)))) : rExtend (.ref a) [.ref b] H Q := ⟨a, b, xs, zs, rfl, rfl, h, h', hl, q⟩
theorem prop {C : Addr} {sp : Sp} {dvs : List V} {E : XK} {ta : TE} (h : ta σ H fun x H1 => ∃ a dx fs, x = .ref a ∧ H1 a = some (.ins C dx fs) ∧ sp (.ref a :: dvs) H1 Q E) : tProp C sp dvs E ta σ H Q := h
theorem min3 {i j k : Nat} (q : Q (.int ((min (min i j) k : Nat) : Int)) H) : rNuC3 nuMin3 [.int (i : Int), .int (j : Int), .int (k : Int)] H Q := by
  refine ⟨_, _, _, _, rfl, ?_, q⟩
  show (Option.map _ (some (decide ((j : Int) < (i : Int))))).bind _ = _
  show nuMin2 (if decide ((j : Int) < (i : Int)) = true then V.int j else V.int i) (.int k) = _
  by_cases h : (j : Int) < (i : Int)
  · rw [if_pos (decide_eq_true h)]
    show some (if decide ((k : Int) < (j : Int)) = true then V.int k else V.int j) = _
    by_cases h2 : (k : Int) < (j : Int)
    · rw [if_pos (decide_eq_true h2)]
      congr 2
      omega
    · rw [if_neg (by rw [decide_eq_false h2]; exact Bool.false_ne_true)]
      congr 2
      omega
  · rw [if_neg (by rw [decide_eq_false h]; exact Bool.false_ne_true)]
    show some (if decide ((k : Int) < (i : Int)) = true then V.int k else V.int i) = _
    by_cases h2 : (k : Int) < (i : Int)
    · rw [if_pos (decide_eq_true h2)]
      congr 2
      omega
    · rw [if_neg (by rw [decide_eq_false h2]; exact Bool.false_ne_true)]
      congr 2
      omega
/-- a comprehension over a list of objects, each with its datum -/
theorem lcP {K : PySem.W.Frag} {te : TE} {g : TG} {tt : TT} {vs : List Nat} {qs : List Addr} {β : Type} (ds : List β) (hq : SqL K H a (qs.map V.ref)) (hl : qs.length = ds.length) (hsz : qs.length ≤ sizeLine) (p : β → Bool) (f : β → V)
    (turn : ∀ (i : Nat) c d H1 (Q' : VK) (R' : Hp → Prop), qs[i]? = some c → ds[i]? = some d → Same H H1 → (p d = true → ∀ H4, Same H1 H4 → Q' (f d) H4) → (p d = false → ∀ H4, Same H1 H4 → R' H4) →
      g (.ref c) (wipe σ vs) H1 fun σ2 H3 => wipe σ2 vs = wipe σ vs ∧ tt σ2 H3 fun b H5 => if b = true then te σ2 H5 Q' else R' H5)
    (hd : ∀ H' q, H q = none → Same H H' → H' q = some (.lst (pick p f ds)) → Q (.ref q) H') :
    ∃ a', V.ref a = .ref a' ∧ (∃ ys, SqL K H a' ys) ∧ LR (Itl K a') g tt te vs σ H Q := by
  refine ⟨a, rfl, ⟨_, hq⟩, lcAny (walk_list (K := K) (a := a) (xs := qs.map V.ref)) ds (by rw [List.length_map]; exact hl.symm) (by rw [List.length_map]; exact hsz) p f hq (fun H' s => s.seq hq) (fun i H1 x H2 s y => ?_) (fun i b x H1 H2 Q' R' hb s y kT kF => ?_) hd⟩
  · obtain ⟨rfl, _⟩ := y
    exact Same.refl _
  · obtain ⟨rfl, y⟩ := y
    rw [List.getElem?_map] at y
    cases e : qs[i]? with
    | none => rw [e] at y; cases y
    | some c =>
      rw [e] at y
      cases y
      exact turn i c b _ Q' R' e hb s kT kF
/-- [a new list of numbers for each item] -/
theorem lcN {K : PySem.W.Frag} {te : TE} {g : TG} {tt : TT} {vs : List Nat} {β : Type} (ds : List β) (v : β → V) (F : β → List Nat) (hq : SqL K H a (ds.map v)) (hsz : ds.length ≤ 100000)
    (turn : ∀ (i : Nat) d H1 (Q' : VK) (R' : Hp → Prop), ds[i]? = some d → Same H H1 → (∀ H4 c, Same H1 H4 → H1 c = none → H4 c = some (.lst (Pf.vns (F d))) → Q' (.ref c) H4) →
      g (v d) (wipe σ vs) H1 fun σ2 H3 => wipe σ2 vs = wipe σ vs ∧ tt σ2 H3 fun b H5 => if b = true then te σ2 H5 Q' else R' H5)
    (hd : ∀ H' q qs, H q = none → Same H H' → (∀ x ∈ qs, H x = none ∧ x ≠ q) → Pf.LL H' q qs (ds.map F) → Q (.ref q) H') :
    ∃ a', V.ref a = .ref a' ∧ (∃ ys, SqL K H a' ys) ∧ LR (Itl K a') g tt te vs σ H Q := by
  refine ⟨a, rfl, ⟨_, hq⟩, ?_⟩
  intro D hD
  refine lc_it (walk_list (K := K) (a := a) (xs := ds.map v)) (fun i H1 => Same H H1 ∧ ∃ qs, (∀ x ∈ qs, H x = none ∧ x ≠ D) ∧ Pf.LL H1 D qs ((ds.take i).map F)) ⟨same_new hD, [], (fun x hx => nomatch hx), upd_same, .nil⟩ (fun i H1 _ hp => hp.1.seq hq) (fun i x H1 H2 hi hp y => ?_) (fun H1 hp => ?_)
  · obtain ⟨rfl, y⟩ := y
    obtain ⟨s1, qs, hqs, ll⟩ := hp
    rw [List.length_map] at hi
    have ga : ds[i]? = some ds[i] := List.getElem?_eq_getElem hi
    rw [List.getElem?_map, ga] at y
    cases y
    refine turn i ds[i] _ _ _ ga s1 fun H4 c s4 nc ec => ?_
    have ll4 := ll.same s4
    have hlen := Pf.paired_len ll4.each
    rw [List.length_map, List.length_take] at hlen
    have Dc : D ≠ c := ne_of_none ll.top nc
    refine ⟨_, ll4.top, by rw [List.length_map]; exact Pf.szt (by omega), same_mut (s1.trans s4) hD, qs ++ [c], fun x hx => ?_, by rw [upd_same, List.map_append]; rfl, ?_⟩
    · rcases List.mem_append.mp hx with hx | hx
      · exact hqs x hx
      · rw [List.mem_singleton.mp hx]
        exact ⟨s1.free nc, Dc.symm⟩
    · rw [take_one ga, List.map_append]
      refine Pf.paired_app (Pf.paired_upd ll4.each fun x hx => (hqs x hx).2) (.cons ?_ .nil)
      rw [upd_ne Dc.symm]
      exact ec
  · obtain ⟨s1, qs, hqs, ll⟩ := hp
    rw [List.length_map, List.take_length] at ll
    exact hd H1 D qs hD s1 hqs ll
theorem ipi {f : Int → Int → Int} {i j : Int} (q : Q (.int (f i j)) H) : ipI f (.int i) (.int j) H Q := ⟨i, j, rfl, rfl, q⟩
theorem slT {K : PySem.W.Frag} {lo hi : Option Int} (h : SqT K H a xs) (hn : ¬ (HT.sIx xs.length 0 lo = 0 ∧ HT.sIx xs.length xs.length hi = xs.length)) (q : ∀ p, H p = none → Q (.ref p) (upd H p (.tup (cutV xs lo hi)))) : rSlT K (.ref a) lo hi H Q := ⟨a, xs, rfl, h, hn, q⟩
theorem lenO {C : Addr} {sp : Sp} {E : XK} {dx : Addr} {fs : List (Str × V)} (h : H a = some (.ins C dx fs)) (q : sp [.ref a] H (fun v H' => ∃ z : Int, v = .int z ∧ 0 ≤ z ∧ z < 2 ^ 63 ∧ Q (.int z) H') E) : rLenOwn C sp E [.ref a] H Q := ⟨a, dx, fs, rfl, h, q⟩
end
end RD
namespace Pf
open PySem PySem.Spec PyProof.Rows L2
theorem paired_at {α β : Type} {F : α → β → Prop} : ∀ {l : List α} {m : List β}, Paired F l m → ∀ {i : Nat} {a : α} {b : β}, l[i]? = some a → m[i]? = some b → F a b
  | _, _, .nil, i, a, b, h, _ => by cases h
  | _, _, .cons r t, 0, a, b, h, h' => by
    cases h
    cases h'
    exact r
  | _, _, .cons r t, i + 1, a, b, h, h' => paired_at t (by simpa using h) (by simpa using h')
theorem inV_vns (x : Nat) (l : List Nat) : inV (vn x) (vns l) = decide (x ∈ l) := by
  unfold vns
  induction l with
  | nil => simp [inV]
  | cons y r ih =>
    show (((y : Int) == (x : Int)) || inV (vn x) (r.map vn)) = _
    rw [ih]
    by_cases e : x = y
    · subst e; simp
    · have : ((y : Int) == (x : Int)) = false := by
        rw [beq_eq_false_iff_ne]
        intro z
        exact e (Int.ofNat.inj z).symm
      rw [this, Bool.false_or]
      simp [e]
theorem flat_vns (l : List Nat) : (vns l).all flatV = true := by
  unfold vns
  rw [List.all_map]
  exact List.all_eq_true.mpr fun _ _ => rfl
end Pf

namespace RD
open PySem PySem.Spec PyProof.Rows L2 PySem.W
/-! several clauses, each with a name for the error -/
def wManyA (K : PySem.W.Frag) (i : Nat) (Wo : WX) (D : Ends) : List (Value × (Addr → Value → Option Addr → TS)) → WX
  | [] => Wo
  | (c, ts) :: r => fun cls d σ H => ∃ b, PySem.W.exmOne K cls c = some b ∧ (b = true → ∀ a, H a = none → ts a cls d ⟨fun σ' H' => D.nx (σ'.set i none) H', D.rt, fun σ' H' => D.bk (σ'.set i none) H', fun σ' H' => D.ct (σ'.set i none) H'⟩ (σ.set i (some (.ref a))) H) ∧ (b = false → wManyA K i Wo D r cls d σ H)
inductive HdsA (X : Cx) (n : Str) : List ExceptHandler → List (Value × (Addr → Value → Option Addr → TS)) → Prop
  | nil : HdsA X n [] []
  | cons {x : Str} {c : Value} {ts : Addr → Value → Option Addr → TS} {b0 : Stmt} {suite : List Stmt} {np pos' : Pos} {hs : List ExceptHandler} {l : List (Value × (Addr → Value → Option Addr → TS))} (hc : Names X x c)
      (su : ∀ (a : Addr) (oe : Obj) (cls : Value) (d : Option Addr) (pn : List (Addr × Obj)), Zc cls d oe → (∃ vs, oe.data = .fields vs) → PSs (X.suite a ((a, oe) :: pn)) (b0 :: suite) (ts a cls d)) (r : HdsA X n hs l) :
      HdsA X n (.ExceptHandler (some (.Name x np)) (some n) (b0 :: suite) pos' :: hs) ((c, ts) :: l)
section
variable {X : Cx} {body : List Stmt} {h0 : ExceptHandler} {hds : List ExceptHandler} {l : List (Value × (Addr → Value → Option Addr → TS))} {pos : Pos} {tb : WX → TS} {Wo : WX} {n : Str} {i : Nat}
theorem ps_try_manyA (hs : X.stack = X.env :: X.outer) (hf : X.env.frame = some X.env.locals) (hN : X.N.Nodup) (hi : X.N[i]? = some n) (hln : X.env.kindOf n = some .local) (tk : Takes X Wo)
    (hb : ∀ (W : WX) (pn : List (Addr × Obj)) (xe : Value → Shared → Prop), Takes (X.tr pn xe) W → PassesOwn (model X.prog X.w) X.A X.env xe → PSs (X.tr pn xe) body (tb W))
    (hh : HdsA X n (h0 :: hds) l) : PS X (.Try body (h0 :: hds) [] [] pos) (fun D σ H => tb (wManyA X.K i Wo D l) D σ H) := by
  refine ⟨fun pins s σ H D I hw => ?_⟩
  have ok := I.ok
  have hfr : X.A.frames = some (X.env :: X.outer) := by rw [ok.frames, hs]
  have hloc : Loc X.env.scope n := .inl hln
  refine wpAny_Try_except (wpAny_mono ((hb (wManyA X.K i Wo D l) (X.pn ++ pins) (fun e s1 => wpAny (model X.prog X.w) X.A (noteFrame e X.env) (fun _ s2 => wpAny (model X.prog X.w) X.A (setFlight e none) (fun _ s3 => wpAny (model X.prog X.w) X.A (handleBy e X.env (h0 :: hds)) (SP X pins D) X.xe s3) X.xe s2) X.xe s1) (fun u s' xx => ?_) PassesOwn.looking).run [] s σ H D (I.toTry _) hw) (fun fl s1 hsp => ?_) (fun e s1 he => he))
  · obtain ⟨a, B, sI, pins', σ', H', cls, d, rfl, J', nb, up, sky, na, os, ag, ww⟩ := xx
    have J : Inv X pins σ' H' sI := J'.ofTry ok
    have sk : Sky B (X.env :: X.outer) a (Zc cls d) X.env.locals s'.heap := by rw [← hs]; exact sky
    show wpAny (model X.prog X.w) X.A (noteFrame (.ref a) X.env) _ _ _
    refine Sky.land Zc.steady hfr hf sk fun k3 f3 u3 => ?_
    have J3 : Inv X pins σ' H' { s' with heap := k3 } := J.landed nb f3.1 (up.trans u3) os ag
    obtain ⟨o3, v3, e3, z3, d3⟩ := f3.there
    have nfr : a ∉ frs (X.env :: X.outer) := fun hm => by
      obtain ⟨_, o', e', hnf⟩ := f3.2.2.1.mem hm
      rw [e3] at e'; cases e'; exact hnf _ d3
    have nL : a ≠ X.env.locals := fun z => nfr (List.mem_filterMap.mpr ⟨X.env, List.mem_cons_self, by rw [hf, z]⟩)
    have nF : a ∉ X.fs := fun hm => by
      obtain ⟨e, he, q⟩ := List.mem_filterMap.mp hm; exact nfr (List.mem_filterMap.mpr ⟨e, List.mem_cons_of_mem _ he, q⟩)
    have S3 := J3.suite e3 d3 na nL nF
    have go : ∀ {hd' : List ExceptHandler} {l' : List (Value × (Addr → Value → Option Addr → TS))}, HdsA X n hd' l' → wManyA X.K i Wo D l' cls d σ' H' → wpAny (model X.prog X.w) X.A (handleBy (.ref a) X.env hd') (SP X pins D) X.xe { s' with heap := k3 } := by
      intro hd' l' hk
      induction hk with
      | nil =>
        intro w0
        refine wpAny_handleBy_nil ?_
        obtain ⟨k1, k2, k4, oe, vs, Tb, oT, ts', he, hz, hd, h1, hr⟩ := id f3
        unfold PySem.passOn
        refine wpAny_bind (wpAny_field he hd h1 ?_)
        rw [if_neg (show ¬ ((Value.ref Tb == Value.none) = true) from by simp)]
        have fin : wpAny (model X.prog X.w) X.A (setFlight (.ref a) X.env.frame) (fun _ s4 => wpAny (model X.prog X.w) X.A (throw (.ref a) : Sem Flow) (SP X pins D) X.xe s4) X.xe { s' with heap := k3 } := by
          rw [hf]
          refine HandSPX.setFlight_upZ f3 fun h4 hh4 up4 => wpAny_throw (tk _ _ ⟨a, B, sI, pins, σ', H', cls, d, rfl, J, nb, (up.trans u3).trans up4, .inr (.inr (by rw [hs]; exact hh4)), na, os, ag, w0⟩)
        first | exact wpAny_bind (wpAny_pure (wpAny_bind fin)) | exact wpAny_bind fin
      | @cons x c ts b0 suite np pos' hds2 l2 hc hsu r ih =>
        intro w0
        obtain ⟨b, hb1, hyes, hno⟩ := w0
        refine wpAny_handleBy_cons (codeAny_handlers_test ?_) (by intro q; cases q)
        have LT : PySem.W.Looks (model X.prog X.w) k3 (typeOf (.ref a)) cls := fun A Q E s k q => wpAny_typeOf_ref (k _ _ e3) (by rw [z3.1]; exact q)
        have LM := PySem.W.exm_one (M := model X.prog X.w) (J3.kIn) LT hb1
        have test : ∀ {Q : Value → Shared → Prop} {E : Value → Shared → Prop}, Q c { s' with heap := k3 } → wpAny (model X.prog X.w) (X.A.mark (some (.ref a))) (eval (.Name x np) X.env) Q E { s' with heap := k3 } := fun {Q E} q => by
          obtain ⟨hg, hdbg, hm | ⟨hm, hv, hnn⟩⟩ := hc
          · exact ld_glob (X := X.suite a ((a, o3) :: (X.pn ++ pins))) S3 hg hm q hdbg
          · exact ld_blt (X := X.suite a ((a, o3) :: (X.pn ++ pins))) S3 hg hm hv q hnn hdbg
        refine test (LM.here ?_)
        cases b with
        | true =>
          refine codeAny_handlers_suite_as (HandSPX.lands_againZ f3 fun h4 f4 up4 => ?_)
          have J4 : Inv X pins σ' H' { s' with heap := h4 } := J.landed nb f4.1 ((up.trans u3).trans up4) os ag
          obtain ⟨o4, v4, e4, z4, d4⟩ := f4.there
          have S4 := J4.suite e4 d4 na nL nF
          refine store_ok (X := X.suite a ((a, o4) :: (X.pn ++ pins))) (v := .ref a) S4 hN hi hloc rfl (fun s5 S5 => ?_) (.inr hln)
          refine wpAny_mono ((hsu a o4 cls d (X.pn ++ pins) z4 ⟨_, d4⟩).run [] s5 _ H' _ S5 (hyes rfl a na)) (fun f s6 hsp => ?_) (fun _ _ z => False.elim z)
          have end_ : ∀ {σ6 : L2.St} {H6 : Hp} {Q : Shared → Prop}, Inv (X.suite a ((a, o4) :: (X.pn ++ pins))) [] σ6 H6 s6 → (∀ s7, Inv X pins (σ6.set i none) H6 s7 → Q s7) → wpAny (model X.prog X.w) X.A (do bindName X.env n .none; unbindBehindTheSuite X.env n pos') (fun _ s7 => Q s7) X.xe s6 := fun {σ6 H6 Q} S6 hq => gone_ok (S6.unsuite ok) hN hi hln hq
          cases f with
          | next => obtain ⟨σ6, H6, S6, q6⟩ := hsp; exact end_ S6 fun s7 J7 => ⟨_, _, J7, q6⟩
          | brk => obtain ⟨σ6, H6, S6, q6⟩ := hsp; exact end_ S6 fun s7 J7 => ⟨_, _, J7, q6⟩
          | cont => obtain ⟨σ6, H6, S6, q6⟩ := hsp; exact end_ S6 fun s7 J7 => ⟨_, _, J7, q6⟩
          | ret u => obtain ⟨v6, σ6, H6, S6, r6, q6⟩ := hsp; exact end_ S6 fun s7 J7 => ⟨_, _, _, J7, r6, q6⟩
        | false =>
          show wpAny _ X.A (handleBy (.ref a) X.env hds2) _ _ _
          exact ih (hno rfl)
    exact go hh ww
  · cases fl with
    | next => obtain ⟨σ', H', J', q⟩ := hsp; exact wpAny_execs_nil ⟨σ', H', J'.ofTry ok, q⟩
    | brk => obtain ⟨σ', H', J', q⟩ := hsp; exact ⟨σ', H', J'.ofTry ok, q⟩
    | cont => obtain ⟨σ', H', J', q⟩ := hsp; exact ⟨σ', H', J'.ofTry ok, q⟩
    | ret u => obtain ⟨v, σ', H', J', r, q⟩ := hsp; exact ⟨v, σ', H', J'.ofTry ok, r, q⟩
end
/-! isinstance of an error with attributes -/
section
variable {prog : Program} {w : World} {A : Around} {E : Value → Shared → Prop} {s : Shared} {K : Frag} {x D : Addr} {ox : Obj} {od : Obj}
theorem cls_any {Q : Option Value → Shared → Prop} (C : ExcC K D) (Y : K.In s.heap) (I : InstAt s.heap x ox D (some od)) (hq : Q (some (.ref D)) { s with toks := s.toks + 1 }) : wpAny (model prog w) A (getAttr? (.ref x) "__class__") Q E s := by
  have hf : findObj K D (some od) "__class__" = some (.bind (.builtin "getset_descriptor.__get__") (.builtin "object.__class__")) := findObj_data (by obtain ⟨cd, hc, _⟩ := any_some C.hd; rw [hc]; rfl) C.ha C.hn C.ht
  obtain ⟨hp, g, d, t, os⟩ := s
  have M0 := I.type (M := model prog w)
  have M1 := looks_findIn (M := model prog w) Y C.hg
  have M2 := looks_findIn (M := model prog w) Y C.hk
  have M3 := looks_find (M := model prog w) Y I hf
  have sub : Looks (model prog w) hp (isInstance (.ref x) (.type "BaseException")) true := M0.andThen (looks_subIn Y C.hs)
  have n2 : (Value.builtin "BaseException.__getattribute__" == Value.builtin "object.__getattribute__") = false := by decide +kernel
  have n1 : (onTheHeap (Value.ref D) && Value.builtin "BaseException.__getattribute__" == Value.builtin "object.__getattribute__") = false := by rw [n2]; rfl
  have n0 : (false && onTheHeap (Value.builtin "BaseException.__getattribute__")) = false := rfl
  unfold getAttr? getAttrBy? getAttrBy
  refine wpAny_bind (wpAny_mkText (wpAny_bind (wpAny_attempt (wpAny_holding (wpAny_bind (M0.at (wpAny_bind (M1.at ?_))))))))
  show wpAny _ _ (if (onTheHeap (Value.ref D) && Value.builtin "BaseException.__getattribute__" == Value.builtin "object.__getattribute__") = true then _ else _) _ _ _
  rw [n1, if_neg Bool.false_ne_true]
  unfold getAttrByItsOwn hookBefore
  refine wpAny_bind ?_
  rw [if_pos (show onTheHeap (Value.ref D) = true from rfl)]
  refine M2.at (wpAny_bind (wpAny_attempt (wpAny_holding ?_)))
  unfold callGetattribute
  rw [n0, if_neg Bool.false_ne_true]
  unfold boundAndCalled
  rw [PySem.F.excAttr_ValueError.ga.bind (.ref x)]
  refine wpAny_bind (wpAny_pure ?_)
  show wpAny _ _ (PySem.call (.builtin "BaseException.__getattribute__") [.ref x, .str "__class__" t]) _ _ _
  refine wpAny_call (codeAny_call_builtin PySem.F.excAttr_ValueError.ga.plain PySem.F.entry_bexc_ga (@check_slot (model prog w) _ _ ⟨hp, g, d, t + 1, os⟩ "BaseException.__getattribute__" "BaseException" "__getattribute__" (.ref x) [.str "__class__" t] [] _ (by decide +kernel) (by decide +kernel) sub (PySem.F.args_bexc_ga (.ref x) (.str "__class__" t)) ?_))
  unfold Builtin.«object.__getattribute__»
  refine wpAny_bind (wpAny_of_eq (a := ((Value.ref x : Value), [Value.str "__class__" t])) (by first | rfl | (simp only [slotArgs]; rfl)) (wpAny_bind (wpAny_pure (wpAny_bind (M0.at (wpAny_bind (M3.at ?_)))))))
  show wpAny _ _ (holding [Value.builtin "object.__class__"] (PySem.call (.builtin "getset_descriptor.__get__") [.builtin "object.__class__", .ref x, .ref D]) >>= PySem.ret) _ _ _
  refine wpAny_bind (wpAny_holding (wpAny_call (class_get (s := ⟨hp, g, d, t + 1, os⟩) (ox := ox) (od := some od) Y I C.hm ?_)))
  refine wpAny_pure ?_
  show wpAny _ _ (handedOut (.ref D)) _ _ _
  rw [handedOut_of (v := .ref D) rfl]
  first | exact wpAny_pure (wpAny_pure hq) | exact wpAny_pure hq | exact wpAny_pure (wpAny_bind (wpAny_pure (wpAny_pure hq)))
theorem kitx_any (C : ExcC K D) : KitX K (.ref x) (.ref D) (fun h => InstAt h x ox D (some od)) where
  ty := fun _ _ _ I => I.type
  it := fun _ _ Y _ => by
    obtain ⟨cdD, hcD, _⟩ := any_some C.hd
    unfold clsIn at hcD
    split at hcD
    · rename_i c' d' cd' sl' ho
      intro A' Q' E' s' k q
      unfold isType loadHead
      exact wpAny_bind (wpAny_loadPart (k _ _ (Y _ _ ho)) (wpAny_pure q))
    · cases hcD
  ne := (handS_kitx_exc (x := x) (ox := ox) C.hg C.hk C.hs C.hd C.ha C.hn C.ht C.hm).ne
  ca := fun Y I k => cls_any C Y I k
end
/-- isinstance(e, c), e the error of a suite, its attributes at dd -/
def rIsX (K : PySem.W.Frag) (D a dd : Addr) : List V → Hp → VK → Prop := fun xs H Q => ∃ (c : V) (cv : Value) (b : Bool) (fs : List (Str × V)), xs = [.ref a, c] ∧ (∀ u, RelV c u → u = cv) ∧ H dd = some (.xd fs) ∧ PySem.W.kitOne K (.ref D) cv = some b ∧ Q (.bl b) H
theorem k_isX {X : Cx} {K : PySem.W.Frag} {a D dd : Addr} {oe : Obj} {pn : List (Addr × Obj)} (h : X.K = K) (C : ExcC K D) (hz : Zc (.ref D) (some dd) oe) (hf : ∃ vs, oe.data = .fields vs) : CallR (X.suite a ((a, oe) :: pn)) (.builtin "isinstance") (rIsX K D a dd) := by
  subst h
  intro pins s σ H xs us Q I r hw
  obtain ⟨c, cv, b, fs, rfl, hcv, hdd, e, q⟩ := hw
  obtain ⟨u1, u2, rfl, rx, rt⟩ := vals2 r
  cases rx
  have ec := hcv _ rt
  subst ec
  obtain ⟨hget, _⟩ := I.pin (a, oe) (List.mem_append.mpr (.inl List.mem_cons_self))
  obtain ⟨vs, hv⟩ := hf
  have hx : ObjOk X.prog X.w H s.heap dd (.xd fs) := I.hok dd _ hdd
  obtain ⟨mA, hns, hr⟩ := hx
  obtain ⟨od, ho, hl⟩ := lookIn_ns hns
  have J : PySem.W.InstAt s.heap a oe D (some od) := ⟨hget, hz.1, by unfold PySem.W.notCls; rw [hv] <;> rfl, by rw [hz.2]; exact ho⟩
  exact PySem.W.kia_one (kitx_any C) I.kIn J e (fun z => nomatch z) fun tk => ⟨.bl b, H, I.kept (t' := tk) fun _ _ z => z, rfl, q⟩
end RD

namespace RD
open PySem PySem.Spec PyProof.Rows L2
/-! an own error class with its own __init__ -/
def oexB (K : PySem.W.Frag) (C : Addr) : Bool := match K.lookup C with
  | some ⟨.type "type", _, .cls cd, sl⟩ => (match cd.mro, sl.toList with
    | .ref D :: bm, [_, _, _, _, some (.builtin n), _] => D == C && n == "ValueError.__new__" && !cd.hasDel && cd.hasDict && HandSPX.refsVE bm
    | _, _ => false)
  | _ => false
theorem oex_cls {K : PySem.W.Frag} {C : Addr} (q : oexB K C = true) : ∃ nm qn N bs bm sn sub ab col dd k0 k1 k2 k3 k5, K.lookup C = some (excClassObj nm qn C N bs bm true sn sub ab col dd k0 k1 k2 k3 k5 "ValueError.__new__") ∧ HandSPX.refsVE bm = true := by
  unfold oexB at q
  split at q
  · rename_i dd cd sl ho
    split at q
    · rename_i D bm k0 k1 k2 k3 n k5 hm hs
      simp only [Bool.and_eq_true, beq_iff_eq, Bool.not_eq_true'] at q
      obtain ⟨⟨⟨⟨rfl, rfl⟩, hdel⟩, hdi⟩, ht⟩ := q
      obtain ⟨nm, bs, mro, N, qn, hd, sn, sub, ab, col, del⟩ := cd
      dsimp only at hm hdel hdi
      subst hm hdel hdi
      have hsl : sl = #[k0, k1, k2, k3, some (.builtin "ValueError.__new__"), k5] := by
        obtain ⟨l⟩ := sl
        simp only at hs; rw [hs]
      subst hsl
      exact ⟨nm, qn, N, bs, bm, sn, sub, ab, col, dd, k0, k1, k2, k3, k5, ho, ht⟩
    · cases q
  · cases q
theorem oexC {K : PySem.W.Frag} {C : Addr} (q : oexB K C = true) (h1 : PySem.W.findIn K (.ref C) "__setattr__" = some (some (.builtin "object.__setattr__"))) (h2 : PySem.W.subIn K (.ref C) (.type "BaseException") = some true) (h3 : PySem.W.typeIn K (.ref C) = some (.type "type")) (h4 : PySem.W.keepIn K (.ref C) = true) : OexC K C := ⟨oex_cls q, h1, h2, h3, h4⟩
/-- the promise of an __init__ that stores attributes one by one -/
def sp_exi1 (C : Addr) (f : Str) : Sp := fun vs H Q _ => ∃ (a : Addr) (v : V), vs = [.ref a, v] ∧ H a = some (exo a C none) ∧ ∀ dx, H dx = none → dx ≠ a → Q .non (upd (upd H dx (exd dx [(f, v)])) a (exo a C (some dx)))
def sp_exi2 (C : Addr) (f g : Str) : Sp := fun vs H Q _ => ∃ (a : Addr) (v u : V), vs = [.ref a, v, u] ∧ H a = some (exo a C none) ∧ ∀ dx, H dx = none → dx ≠ a → Q .non (upd (upd (upd H dx (exd dx [(f, v)])) a (exo a C (some dx))) dx (exd dx [(g, u), (f, v)]))
/-- raise C(v) -/
theorem mk1 {C : Addr} {f : Str} {v : V} {H : Hp} {W : XK} (q : ∀ dx, H dx = none → W (.ref C) (some dx) (upd H dx (.xd [(f, v)]))) :
    [v].length ≤ 1000 ∧ ∀ a, H a = none → sp_exi1 C f (.ref a :: ([v] ++ [])) (upd H a (exo a C none)) (fun x H2 => x = .non ∧ ∃ (d : Addr) (fs : List (Str × V)), H2 a = some (exo a C (some d)) ∧ H2 d = some (exd d fs) ∧ H d = none ∧ W (.ref C) (some d) (upd (L2.del H2 a) d (.xd fs))) (fun _ _ _ => False) := by
  refine ⟨(show 1 ≤ 1000 by decide), fun a na => ⟨a, v, rfl, upd_same, fun dx ndx ne => ⟨rfl, dx, [(f, v)], upd_same, by rw [upd_ne ne, upd_same], by rw [upd_ne ne] at ndx; exact ndx, ?_⟩⟩⟩
  rw [upd_ne ne] at ndx
  have e : upd (L2.del (upd (upd (upd H a (exo a C none)) dx (exd dx [(f, v)])) a (exo a C (some dx))) a) dx (.xd [(f, v)]) = upd H dx (.xd [(f, v)]) := by
    funext b
    by_cases h : b = dx
    · subst h; rw [upd_same, upd_same]
    · rw [upd_ne h, upd_ne h]
      by_cases h2 : b = a
      · subst h2; rw [del_same, na]
      · rw [del_ne h2, upd_ne h2, upd_ne h, upd_ne h2]
  rw [e]
  exact q dx ndx
theorem mk2 {C : Addr} {f g : Str} {v u : V} {H : Hp} {W : XK} (q : ∀ dx, H dx = none → W (.ref C) (some dx) (upd H dx (.xd [(g, u), (f, v)]))) :
    [v, u].length ≤ 1000 ∧ ∀ a, H a = none → sp_exi2 C f g (.ref a :: ([v, u] ++ [])) (upd H a (exo a C none)) (fun x H2 => x = .non ∧ ∃ (d : Addr) (fs : List (Str × V)), H2 a = some (exo a C (some d)) ∧ H2 d = some (exd d fs) ∧ H d = none ∧ W (.ref C) (some d) (upd (L2.del H2 a) d (.xd fs))) (fun _ _ _ => False) := by
  refine ⟨(show 2 ≤ 1000 by decide), fun a na => ⟨a, v, u, rfl, upd_same, fun dx ndx ne => ⟨rfl, dx, [(g, u), (f, v)], by rw [upd_ne ne.symm, upd_same], upd_same, by rw [upd_ne ne] at ndx; exact ndx, ?_⟩⟩⟩
  rw [upd_ne ne] at ndx
  have e : upd (L2.del (upd (upd (upd (upd H a (exo a C none)) dx (exd dx [(f, v)])) a (exo a C (some dx))) dx (exd dx [(g, u), (f, v)])) a) dx (.xd [(g, u), (f, v)]) = upd H dx (.xd [(g, u), (f, v)]) := by
    funext b
    by_cases h : b = dx
    · subst h; rw [upd_same, upd_same]
    · rw [upd_ne h, upd_ne h]
      by_cases h2 : b = a
      · subst h2; rw [del_same, na]
      · rw [del_ne h2, upd_ne h, upd_ne h2, upd_ne h, upd_ne h2]
  rw [e]
  exact q dx ndx
theorem ost {K : PySem.W.Frag} {f : Str} {to te : TE} {σ : L2.St} {H : Hp} {nx bk ct : L2.St → Hp → Prop} {rt : VK} (h : te σ H fun y H1 => to σ H1 fun x H2 => ∃ a C : Addr, x = .ref a ∧ OexC K C ∧ PySem.W.findIn K (.ref C) f = some none ∧
  ((H2 a = some (exo a C none) ∧ ∀ dx, H2 dx = none → dx ≠ a → nx σ (upd (upd H2 dx (exd dx [(f, y)])) a (exo a C (some dx)))) ∨
    ∃ (dx : Addr) (fs : List (Str × V)), H2 a = some (exo a C (some dx)) ∧ H2 dx = some (exd dx fs) ∧ fs.length ≤ 900 ∧ nx σ (upd H2 dx (exd dx ((f, y) :: fs))))) : tOst K f to te ⟨nx, rt, bk, ct⟩ σ H := h
end RD

namespace RD
open PySem PySem.Spec PyProof.Rows L2
theorem star {K : PySem.W.Frag} {te : TE} {t : TA} {σ : L2.St} {H : Hp} {QA : List V → Hp → Prop} (h : te σ H fun x H1 => ∃ p xs, x = V.ref p ∧ (SqT K H1 p xs ∨ SqL K H1 p xs) ∧ t σ H1 fun ys H2 => QA (xs ++ ys) H2) : StX.tStar K te t σ H QA := h
theorem starL {K : PySem.W.Frag} {a : Addr} {xs : List V} {H : Hp} {P : Addr → List V → Prop} (h : SqL K H a xs) (q : P a xs) : ∃ p ys, V.ref a = V.ref p ∧ (SqT K H p ys ∨ SqL K H p ys) ∧ P p ys := ⟨a, xs, rfl, .inr h, q⟩
end RD

namespace RD
open PySem PySem.Spec PyProof.Rows L2
theorem callS {sp : Sp} {E : L2.St → XK} {tr : TA} {σ : L2.St} {H : Hp} {Q : VK} (h : tr σ H fun vs H1 => sp vs H1 Q (E σ)) : tCallS sp E tr σ H Q := h
theorem xf {a C : Addr} {cls : Value} {d : Option Addr} {f : Str} {te : TE} {σ : L2.St} {H : Hp} {Q : VK} (h : te σ H fun x H1 => x = .ref a ∧ cls = .ref C ∧ ∃ (dd : Addr) (fs : List (Str × V)) (v : V), d = some dd ∧ H1 dd = some (.xd fs) ∧ fs.lookup f = some v ∧ Q v H1) : tXf a cls d C f te σ H Q := h
theorem isX {K : PySem.W.Frag} {D a dd c : Addr} {b : Bool} {fs : List (Str × V)} {H : Hp} {Q : VK} (h : H dd = some (.xd fs)) (k : PySem.W.kitOne K (.ref D) (.ref c) = some b) (q : Q (.bl b) H) : rIsX K D a dd [.ref a, .ref c] H Q := ⟨_, _, b, fs, rfl, fun u r => r, h, k, q⟩
theorem isE {K : PySem.W.Frag} {D a c : Addr} {b : Bool} {H : Hp} {Q : VK} (k : PySem.W.kitOne K (.ref D) (.ref c) = some b) (q : Q (.bl b) H) : rIsE K D a [.ref a, .ref c] H Q := ⟨_, _, b, rfl, fun u r => r, k, q⟩
end RD
namespace RD
open PySem PySem.Spec PyProof.Rows L2
end RD

namespace Pf
open PySem PySem.Spec PyProof.Rows L2
/-! dicts from numbers to numbers -/
def kvN (p : Nat × Nat) : Key × V := (Sum.inl (p.1 : Int), vn p.2)
theorem val_kvN : ∀ (ps : List (Nat × Nat)) (x : Nat), x ∉ ps.map (·.1) → valV (ps.map kvN) (Sum.inl (x : Int) : Key) = none
  | [], _, _ => rfl
  | q :: r, x, h => by
    rw [List.map_cons]
    have ne : ¬ (kvN q).1 = (Sum.inl (x : Int) : Key) := fun z => h (by rw [List.map_cons, Int.ofNat.inj (Sum.inl.inj z)]; exact List.mem_cons_self)
    rw [valV_neg ne]
    exact val_kvN r x fun z => h (List.mem_cons_of_mem _ z)
theorem val_kvN' : ∀ (ps : List (Nat × Nat)) (x y : Nat), (ps.map (·.1)).Nodup → (x, y) ∈ ps → valV (ps.map kvN) (Sum.inl (x : Int) : Key) = some (vn y)
  | q :: r, x, y, hn, h => by
    rw [List.map_cons, List.nodup_cons] at hn
    rw [List.map_cons]
    rcases List.mem_cons.mp h with h | h
    · subst h
      exact valV_pos (p := kvN (x, y)) rfl
    · have e : ¬ q.1 = x := fun z => hn.1 (by rw [z]; exact List.mem_map.mpr ⟨(x, y), h, rfl⟩)
      rw [valV_neg fun z => e (Int.ofNat.inj (Sum.inl.inj z))]
      exact val_kvN' r x y hn.2 h
theorem frz_get {H : Hp} {d : Addr} {od : Obj} {kvs : List (Key × V)} {n : Int} {v : V} (h : H d = some (.frz od (.dK kvs))) (e : valV kvs (Sum.inl n : Key) = some v) : DGet H d (.int n) (some v) := .inl ⟨kvs, Sum.inl n, .inr ⟨od, h⟩, rfl, e.symm⟩
/-- {key(x): val(x) for x in d}, all keys unlike -/
theorem dcK {g : TG} {tt : TT} {tk tv : TE} {vs : List Nat} {σ : L2.St} {H : Hp} {Q : VK} {d : Addr} {i : Nat} {ps : List (Nat × Nat)} (key : Nat × Nat → Nat) (val : Nat × Nat → V) (hs : σ[i]? = some (some (.ref d))) (hd : H d = some (.dK (ps.map kvN))) (hz : ps.length ≤ 100000) (hk : (ps.map key).Nodup)
    (turn : ∀ (j : Nat) (p : Nat × Nat) (od : Obj) (H1 : Hp) (X : V → V → Hp → Prop) (R' : Hp → Prop), ps[j]? = some p → H1 d = some (.frz od (.dK (ps.map kvN))) → X (vn (key p)) (val p) H1 →
      g (vn p.1) (wipe σ vs) H1 fun σ2 H2 => wipe σ2 vs = wipe σ vs ∧ tt σ2 H2 fun b H3 => if b = true then tk σ2 H3 fun y H4 => tv σ2 H4 fun z H5 => X y z H5 else R' H3)
    (q : ∀ D, H D = none → Q (.ref D) (upd H D (.dK (ps.map fun p => ((Sum.inl (key p : Int) : Key), val p))))) : tLockE (tDc (iKeys (tVar i)) g tt tk tv vs) σ H Q := by
  refine ⟨d, _, hd, trivial, fun od => ⟨_, hs, d, od, rfl, .inl ⟨_, upd_same, fun D hD => ?_⟩⟩⟩
  have Dd : D ≠ d := fun z => by rw [z, upd_same] at hD; cases hD
  rw [upd_ne Dd] at hD
  refine ⟨fun j m H' => m = ps.length - j ∧ j ≤ ps.length ∧ H' = upd (upd H d (.frz od (.dK (ps.map kvN)))) D (.dK ((ps.take j).map fun p => ((Sum.inl (key p : Int) : Key), val p))), ⟨ps.length, by simp, Nat.zero_le _, rfl⟩, ?_⟩
  rintro j m H' ⟨rfl, hj, rfl⟩
  have hdd : ∀ o, (upd (upd H d (.frz od (.dK (ps.map kvN)))) D o) d = some (.frz od (.dK (ps.map kvN))) := fun o => by rw [upd_ne Dd.symm, upd_same]
  rcases Nat.lt_or_ge j ps.length with hl | hl
  · right
    refine ⟨⟨hdd _, by rw [List.length_map]; exact hl⟩, fun H2 => H2 = upd (upd H d (.frz od (.dK (ps.map kvN)))) D (.dK ((ps.take (j + 1)).map fun p => ((Sum.inl (key p : Int) : Key), val p))), fun H2 e => ⟨ps.length - (j + 1), by omega, rfl, by omega, e⟩, fun x H2 y => ?_⟩
    obtain ⟨rfl, k, v, hkv, rfl⟩ := y
    have hp : ps[j]? = some ps[j] := List.getElem?_eq_getElem hl
    rw [List.getElem?_map, hp] at hkv
    cases hkv
    refine turn j ps[j] od _ _ _ hp (hdd _) ⟨_, Sum.inl ((key ps[j] : Nat) : Int), rfl, upd_same, by rw [List.length_map, List.length_take]; exact szt (by omega), ?_⟩
    have tk1 := RD.take_one hp
    have hnew : valV ((ps.take j).map fun p => ((Sum.inl (key p : Int) : Key), val p)) (Sum.inl ((key ps[j] : Nat) : Int) : Key) = none := by
      have hn2 : ((ps.take (j + 1)).map key).Nodup := hk.sublist ((List.take_sublist _ _).map key)
      rw [tk1, List.map_append, List.nodup_append] at hn2
      have : ∀ l : List (Nat × Nat), (∀ p ∈ l, key p ≠ key ps[j]) → valV (l.map fun p => ((Sum.inl (key p : Int) : Key), val p)) (Sum.inl ((key ps[j] : Nat) : Int) : Key) = none := by
        intro l
        induction l with
        | nil => intro _; rfl
        | cons a r ih =>
          intro h
          rw [List.map_cons, valV_neg fun z => h a List.mem_cons_self (Int.ofNat.inj (Sum.inl.inj z))]
          exact ih fun p hp => h p (List.mem_cons_of_mem _ hp)
      exact this _ fun p hp e => hn2.2.2 _ (List.mem_map_of_mem hp) _ (by simp) e
    rw [putK_new _ hnew]
    funext b
    by_cases hb : b = D
    · subst hb
      rw [upd_same, upd_same, tk1, List.map_append]
      rfl
    · rw [upd_ne hb, upd_ne hb, upd_ne hb]
  · left
    have e : j = ps.length := by omega
    subst e
    refine ⟨⟨hdd _, by rw [List.length_map]; exact Nat.le_refl _⟩, hdd _, ?_⟩
    rw [List.take_length]
    have e2 : upd (upd (upd H d (.frz od (.dK (ps.map kvN)))) D (.dK (ps.map fun p => ((Sum.inl (key p : Int) : Key), val p)))) d (.dK (ps.map kvN)) = upd H D (.dK (ps.map fun p => ((Sum.inl (key p : Int) : Key), val p))) := by
      funext b
      by_cases hb : b = d
      · subst hb
        rw [upd_same, upd_ne Dd.symm, hd]
      · rw [upd_ne hb]
        by_cases hb2 : b = D
        · subst hb2; rw [upd_same, upd_same]
        · rw [upd_ne hb2, upd_ne hb2, upd_ne hb]
    rw [e2]
    exact q D hD
section
variable {X : Cx}
/-- d = {..} on one line -/
theorem swDc {kx vx : Expr} {gs : List Comprehension} {scope : Scope} {pos py : Pos} {y : Str} {l : Nat} {env : Env} (h1 : env.scope.kind = .function) (h2 : env.scope.names.lookup y = some .local) (h3 : (py.line == pos.line) = true)
    (h4 : (scope.names.any fun (n, k) => n == y && (k == .local || k == .cell)) = false) : swapsWith (.DictComp kx vx gs scope pos) (some (.Name y py)) l env = pure true := by
  have k2 : env.kindOf y = some .local := h2
  have k1 : env.blockKind = .function := by unfold Env.blockKind; rw [h1]; rfl
  unfold swapsWith
  simp only [k1, k2, h4, Expr.pos, h3]
  rfl
theorem setDc {i : Nat} {y : Str} {py : Pos} {kx vx tg iter : Expr} {ifs : List Expr} {scope : Scope} {own : List (Str × Nat)} {pos spos : Pos} {wi : TI} {g : TG} {tt : TT} {tk tv : TE} (hc : X.calm = true) (hN : X.N.Nodup) (hy : X.N[i]? = some y) (hyl : X.env.scope.names.lookup y = some .local)
    (hsw : swapsWith (.DictComp kx vx [⟨tg, iter, ifs, 0⟩] scope pos) (some (.Name y py)) spos.line X.env = pure true) (hi : PI X tg iter wi) (ok : BlkOk X.N X.env.scope scope own)
    (hg : ∀ (s : Shared) (H : Hp) (C : Addr) (cl : List (Str × Addr)) (fp : List Addr), PG (X.blk s H scope (compEnvC scope cl C X.env) fp) tg g) (ht : ∀ (s : Shared) (H : Hp) (C : Addr) (cl : List (Str × Addr)) (fp : List Addr), PTs (X.blk s H scope (compEnvC scope cl C X.env) fp) ifs tt)
    (hk : ∀ (s : Shared) (H : Hp) (C : Addr) (cl : List (Str × Addr)) (fp : List Addr), PE (X.blk s H scope (compEnvC scope cl C X.env) fp) kx tk)
    (he : ∀ (s : Shared) (H : Hp) (C : Addr) (cl : List (Str × Addr)) (fp : List Addr), PE (X.blk s H scope (compEnvC scope cl C X.env) fp) vx tv) (hs : ∀ x, foldedSetIterable iter X.env x = pure x := by intro _; rfl) :
    PS X (.Assign [.Name y py] (.DictComp kx vx [⟨tg, iter, ifs, 0⟩] scope pos) spos) (tAsg (tDc wi g tt tk tv (own.map (·.2))) (gName i)) := by
  refine ⟨fun pins s σ H D I h => ?_⟩
  rw [exec_Assign_Name_used _ _ _ _ hsw]
  refine wpAny_bind (wpAny_standAt (wpAny_bind ?_))
  show wpAny _ X.A (do let _ ← comprehension (.DictComp kx vx [⟨tg, iter, ifs, 0⟩] scope pos) scope X.env (firstIterPos [⟨tg, iter, ifs, 0⟩] pos) newDict false (eval iter X.env) (some (assign (.Name y py) X.env))) _ _ s
  have h : tDc wi g tt tk tv (own.map (·.2)) σ H (fun x H1 => gName i x σ H1 D.nx) := h
  refine wpAny_bind (thn (dc_core (Qf := fun _ s' => SP X pins D .next s') hc hN I hi ok hg ht hk he hs h fun L C s' m H' I' q hn f => ?_) fun _ s' hq => wpAny_pure (wpAny_pure hq))
  show wpAny _ _ (assign (.Name y py) X.env (.ref L)) _ _ _
  obtain ⟨f0, f1, f2, f3, f4, f5⟩ := f
  refine wpAny_assign_Name (store_ok2 (v := V.ref L) I' hN hy (.inl hyl) rfl (fun s2 I2 ⟨a, sb, ha⟩ => ?_) (.inr hyl))
  have haC : C ≠ a := by
    rcases ha with z | z
    · rw [z]; exact f1
    · exact fun e => f4 y a z e.symm
  exact ⟨m, hn.sameBut sb haC, fun h3 sb3 => ⟨_, H', I2.turned (t' := s2.toks) (fun b o hb e => (sb3.2 b hb).trans e) f0 f1 f3 f4 f5, q⟩⟩
/-- the walked dict may not change meanwhile -/
theorem setDcL {st : Stmt} {i : Nat} {t : TE} (h : PS X st (tAsg t (gName i))) : PS X st (tAsg (tLockE t) (gName i)) := ⟨fun pins s σ H D I z => (ps_lock h).run pins s σ H D I z⟩
end
end Pf

namespace RD
open PySem PySem.Spec PyProof.Rows L2
/-! x in d.values() -/
theorem cont_loop {prog : Program} {w : World} {A : Around} {KT : Type} [DecidableEq KT] {knd : KeyKind prog w KT} {it d : Addr} {ep : Nat} {kvs : List (KT × Value)} {v : Value} (g : Value → Bool) (hh : A.handled = none) (hd : d ≠ it)
    (he : ∀ (B : Around) (s : Shared) (p : KT × Value), p ∈ kvs → SeqAt.EqAt B s p.2 v (g p.2)) (R : Result → Shared → Prop) :
    ∀ (n i : Nat) (s : Shared), i + n = kvs.length → s.heap.IsValIter it d i kvs.length ep → s.heap.DictAt knd d kvs ep →
      (∀ h', Heap.ExtBut it s.heap h' → R (.ok (.ret (.bool ((kvs.drop i).any fun p => g p.2)))) { s with heap := h' }) →
      codeAny (model prog w) A (.builtin "proto.contains_iter" ⟨[.ref it, v], []⟩) R s
  | 0, i, s, hn, st, hm, q => by
    refine codeAny_builtin (b := Builtin.«proto.contains_iter») (entryFor_of_tree (by kernel_rfl)) ?_
    unfold Builtin.«proto.contains_iter»
    refine wpAny_bind (wpAny_pyNext_values_end (A := A.under _) hh st hm (List.getElem?_eq_none (by omega)) fun h' x => ?_)
    have e : (kvs.drop i).any (fun p => g p.2) = false := by rw [List.drop_of_length_le (by omega)]; rfl
    rw [e] at q
    exact wpAny_bind (wpAny_rule (wpAny_pure (q h' x)))
  | n + 1, i, s, hn, st, hm, q => by
    refine codeAny_builtin (b := Builtin.«proto.contains_iter») (entryFor_of_tree (by kernel_rfl)) ?_
    unfold Builtin.«proto.contains_iter»
    have hi : i < kvs.length := by omega
    have ga : kvs[i]? = some (kvs[i].1, kvs[i].2) := List.getElem?_eq_getElem hi
    have ed : (kvs.drop i).any (fun p => g p.2) = (g kvs[i].2 || (kvs.drop (i + 1)).any fun p => g p.2) := by rw [List.drop_eq_getElem_cons hi, List.any_cons]
    refine wpAny_bind (wpAny_pyNext_values_item (A := A.under _) st hm ga fun h' st' sb => ?_)
    refine wpAny_bind (he _ _ kvs[i] (List.getElem_mem hi) _ _ _ _ ?_)
    have hm' : h'.DictAt knd d kvs ep := by
      obtain ⟨od, es, ho, r⟩ := hm
      exact ⟨od, es, (sb.2 d hd).trans ho, r⟩
    by_cases hg : g kvs[i].2 = true
    · rw [hg, Bool.true_or] at ed
      rw [ed] at q
      rw [hg, if_pos rfl]
      refine wpAny_bind (wpAny_rule (wpAny_pure (q h' fun b o hb e => (sb.2 b hb).trans e)))
    · have hg : g kvs[i].2 = false := by simpa using hg
      rw [hg, Bool.false_or] at ed
      rw [ed] at q
      rw [hg, if_neg Bool.false_ne_true]
      refine wpAny_pure ⟨Code.quiet_builtin _ (by decide +kernel), cont_loop g hh hd he R n (i + 1) { s with heap := h' } (by omega) st' hm' fun h2 x => ?_⟩
      exact q h2 fun b o hb e => x b o hb ((sb.2 b hb).trans e)
theorem no_vals : typeLookup (.type "dict_values") "__contains__" = pure none := by rw [typeLookup_type, builtinLookup_eq_fast]; kernel_rfl
theorem in_vals {prog : Program} {w : World} {A : Around} {E : Value → Shared → Prop} {s : Shared} {KT : Type} [DecidableEq KT] {knd : KeyKind prog w KT} {v d : Addr} {ep : Nat} {kvs : List (KT × Value)} {x : Value} {Q : Value → Shared → Prop} (g : Value → Bool) (hh : A.handled = none)
    (hv : s.heap.IsValuesView v d) (hm : s.heap.DictAt knd d kvs ep) (he : ∀ (B : Around) (s : Shared) (p : KT × Value), p ∈ kvs → SeqAt.EqAt B s p.2 x (g p.2))
    (hQ : ∀ h', (∀ b o, s.heap.get? b = some o → h'.get? b = some o) → Q (.bool (kvs.any fun p => g p.2)) { s with heap := h' }) : wpAny (model prog w) A (compareOp .In x (.ref v)) Q E s := by
  show wpAny _ _ (do return Value.bool (← PySem.contains (.ref v) x)) _ _ _
  refine wpAny_bind ?_
  unfold PySem.contains
  refine wpAny_holding ?_
  show wpAny _ _ (do if (← specialOf (.ref v) "__contains__") == some .none then _ else _) _ _ _
  refine wpAny_bind (wpAny_specialOf hv.typeIs no_vals ?_)
  rw [if_neg (by decide)]
  refine wpAny_bind (wpAny_callSpecialUnlessNone?_none hv.typeIs no_vals ?_)
  refine wpAny_bind (wpAny_rule ?_)
  refine wpAny_bind (wpAny_tryCatch (wpAny_pyIter_values hv hm ?_))
  have dl : d < s.heap.objs.size := by
    obtain ⟨od, es, ho, _⟩ := hm
    exact Heap.lt_size ho
  refine wpAny_bind (wpAny_runValue (cont_loop g hh (Nat.ne_of_lt dl) he _ kvs.length 0 _ (Nat.zero_add _) ⟨_, Heap.get?_push_size _ rfl, rfl, rfl⟩ (hm.push _) fun h' xb => ?_))
  refine wpAny_pure (wpAny_pure (hQ h' fun b o e => xb b o (Nat.ne_of_lt (Heap.lt_size e)) (Heap.get?_push_of_some _ e)))
end RD
namespace RD
open PySem PySem.Spec PyProof.Rows L2
def tInVals (ty td : TE) : TE := fun σ H Q => ty σ H fun y H1 => td σ H1 fun x H2 => ∃ d o kvs, x = .ref d ∧ H2 d = some (.frz o (.dK kvs)) ∧ flatV y = true ∧ kvs.all (fun p => flatV p.2) = true ∧ Q (.bl (inV y (kvs.map (·.2)))) H2
theorem kv_eq {kvs : List (Key × V)} {vs : List (Key × Value)} (kv : KV kvs vs) : Vals (kvs.map (·.2)) (vs.map (·.2)) := by
  induction kv with
  | nil => exact .nil
  | cons r _ ih => exact .cons r.2 ih
theorem pc_inVals {X : Cx} {i e : Expr} {ty td : TE} {apos cpos : Pos} (hc : X.calm = true) (hi : PE X i ty) (he : PE X e td) (hbase : attributeBase e "values" X.env (eval e X.env) = eval e X.env := by rfl) (hline : (apos.endLine == cpos.line) = true := by rfl) :
    PC X .In i (.Call (.Attribute e "values" apos) [] [] cpos) (tInVals ty td) := by
  refine ⟨fun pins s σ H Q I h => ?_⟩
  refine thn (hi.run pins s σ H _ I h) fun iv s1 ⟨y, H1, I1, ry, q1⟩ => ?_
  refine wpAny_Call_method (T := "dict") (id := "dict.values") hbase rfl hline F.plainAttrs_dict F.slot_dict_values F.type_dict_values (thn (he.run pins s1 σ H1 _ I1 q1) fun u s2 ⟨x, H2, I2, rx, d, o, kvs, ex, hd, fy, fk, q⟩ => ?_)
  subst ex
  obtain rfl : u = Value.ref d := rx
  obtain ⟨hs, hgd, hx, es, ep, vs, hdt, hsz, kv, hm⟩ := I2.frzK hd
  have hl : kvs.length = vs.length := Paired.length kv
  refine ⟨hm.dictOf.typeIs, hm.dictOf.mapOf.noDict, ?_⟩
  have I3 : Inv X pins σ H2 { s2 with heap := s2.heap.push { cls := .type "dict_values", data := .fields #[.ref d] } } := I2.kept (t' := s2.toks) fun b ob q => Heap.get?_push_of_some _ q
  have vv := kv_eq kv
  have fk' : (kvs.map (·.2)).all flatV = true := by rw [List.all_map]; exact fk
  have fin : wpAny (model X.prog X.w) X.A (compareOp .In iv (.ref s2.heap.objs.size)) (EP X pins σ Q) X.xe { s2 with heap := s2.heap.push { cls := .type "dict_values", data := .fields #[.ref d] } } := by
    refine in_vals (knd := mixKind X.prog X.w) (eqU y) (I2.ok.hd hc) ⟨_, Heap.get?_push_size _ rfl, rfl, rfl⟩ (hm.push _) (fun B s p hp => mem_eqAt ry fy vv fk' p.2 (List.mem_map_of_mem hp)) fun h' k => ?_
    refine ⟨.bl _, H2, I3.kept (t' := s2.toks) k, rfl, ?_⟩
    have e : (vs.any fun p => eqU y p.2) = inV y (kvs.map (·.2)) := by
      have e1 := any_eqU (x := y) vv fk'
      rw [List.any_map (l := vs)] at e1
      exact e1
    rw [e]
    exact q
  show wpAny _ _ (callWith cpos (.builtin "dict.values") [.ref d] [] []) _ X.xe s2
  exact method_meetsIn F.slot_dict_values F.entry_dict_values rfl (PySem.evalArgs_none ⟨rfl, hm.dictOf.typeIs, F.args_dict_values_1 _, _, meets_dict_values (mixKind X.prog X.w) d hs, ⟨vs, hm.dictOf⟩, fin⟩)
def rRepS : R2 := fun x y H Q => ∃ (l : List Nat) (k : Int), x = .str ⟨l.toArray⟩ ∧ y = .int k ∧ 0 ≤ k ∧ k < 2 ^ 62 ∧ l.length * k.toNat ≤ 1000000 ∧ Q (.str ⟨(List.replicate k.toNat l).flatten.toArray⟩) H
theorem fold_cps (l : List Nat) : ∀ (n : Nat) (a : List Nat), List.foldl (fun x1 x2 => x1 ++ x2) a.toArray (List.replicate n l.toArray) = (a ++ (List.replicate n l).flatten).toArray
  | 0, a => by simp
  | n + 1, a => by
    rw [List.replicate_succ, List.foldl_cons, List.replicate_succ, List.flatten_cons, ← List.append_assoc, ← fold_cps l n (a ++ l)]
    simp
theorem len_rep (l : List Nat) : ∀ n, (List.replicate n l).flatten.length = n * l.length
  | 0 => by simp
  | n + 1 => by rw [List.replicate_succ, List.flatten_cons, List.length_append, len_rep l n, Nat.succ_mul, Nat.add_comm]
theorem op_repS {X : Cx} : OpR X (binaryOp .Mult) rRepS := by
  intro pins s σ H x y v u Q I rx ry h
  obtain ⟨l, k, rfl, rfl, h0, h1, hl, q⟩ := h
  obtain ⟨t, rfl⟩ := rx
  obtain ⟨t', rfl⟩ := ry
  have hr : (decide (k < -(2 ^ 63 : Int)) || decide (k ≥ 2 ^ 63)) = false := by
    rw [decide_eq_false (by omega), decide_eq_false (by omega)]; rfl
  have hsz : (⟨l.toArray⟩ : Str).length = l.length := by show l.toArray.size = _; simp
  have hk : l.length * k.toNat ≤ sizeLine := Nat.le_trans hl (by decide)
  have tl : Builtin.Str.tooLong (l.length * k.toNat) = false := decide_eq_false (by omega)
  refine PySem.P.mul_str hr (fun h2 h3 => ?_) (fun _ _ => by rw [hsz]; exact tl) ?_
  · rw [hsz]
    have hp : 0 < k := by omega
    have h4 : (l.length : Int) ≤ 1000000 := by
      have : 1 ≤ k.toNat := by omega
      have := Nat.le_mul_of_pos_right l.length this
      omega
    have h5 : (l.length : Int) * k ≤ 1000000 := by
      have e : k = (k.toNat : Int) := by omega
      rw [e]
      have h6 := Int.ofNat_le.mpr hl
      rw [Int.natCast_mul] at h6
      exact h6
    have := Int.le_ediv_of_mul_le (a := (l.length : Int)) (b := 2 ^ 63 - 1) hp (by omega)
    omega
  · by_cases c1 : k < 1
    · rw [if_pos c1]
      have e0 : k = 0 := by omega
      subst e0
      exact ⟨by decide, .str _, H, I.tok _, ⟨_, rfl⟩, q⟩
    · rw [if_neg c1]
      by_cases c2 : (k == 1 || (⟨l.toArray⟩ : Str).length == 0) = true
      · rw [if_pos c2]
        refine ⟨.str ⟨l.toArray⟩, H, I, ⟨t, rfl⟩, ?_⟩
        have e : (List.replicate k.toNat l).flatten = l := by
          rw [Bool.or_eq_true, beq_iff_eq, beq_iff_eq, hsz] at c2
          rcases c2 with c2 | c2
          · subst c2; simp
          · have : l = [] := List.eq_nil_of_length_eq_zero c2
            subst this; simp
        rw [e] at q
        exact q
      · rw [if_neg c2]
        have e := fold_cps l k.toNat []
        rw [List.nil_append] at e
        show (⟨List.foldl (fun x1 x2 => x1 ++ x2) ([] : List Nat).toArray (List.replicate k.toNat l.toArray)⟩ : Str).length ≤ sizeLine ∧ _
        refine ⟨?_, ?_⟩
        · rw [e]
          show ((List.replicate k.toNat l).flatten.toArray).size ≤ _
          rw [List.size_toArray, len_rep, Nat.mul_comm]
          exact hk
        · rw [show (#[] : Array Nat) = ([] : List Nat).toArray from rfl, e]
          exact ⟨.str _, H, I.tok _, ⟨_, rfl⟩, q⟩
theorem k_sortedD {X : Cx} (hc : X.calm = true) : CallR X (.builtin "sorted") (fun xs H Q => ∃ (a : Addr) (kvs : List (Key × V)) (ks : List Int), xs = [.ref a] ∧ Rd H a (.dK kvs) ∧ kvs.map (·.1) = ks.map Sum.inl ∧ ks.length < 64 ∧ ∀ (ys : List Int) (p : Addr), ys.Perm ks → ys.Pairwise (· ≤ ·) → H p = none → Q (.ref p) (upd H p (.lst (ys.map V.int)))) := call_sortedDI hc
def tLockT (t : TT) : TT := fun σ H QB => ∃ d u, H d = some u ∧ Mut (some u) ∧ ∀ od, t σ (upd H d (.frz od u)) fun b H' => H' d = some (.frz od u) ∧ QB b (upd H' d u)
theorem pt_lock {X : Cx} {e : Expr} {t : TT} (h : PT X e t) : PT X e (tLockT t) := by
  refine ⟨fun pins s σ H Q I hw => ?_⟩
  obtain ⟨d, u, hd, mu, hw⟩ := hw
  obtain ⟨od, J⟩ := I.lock hd mu
  refine thn (h.run pins s σ _ _ J (hw od)) fun v s1 hh => ?_
  obtain ⟨H1, J2, e2, q⟩ := hh
  exact ⟨_, J2.unlock e2 (I.nofrz hd mu), q⟩
theorem upd_back {H : Hp} {d : Addr} {u v : HO} (h : H d = some u) : upd (upd H d v) d u = H := by
  funext b
  by_cases e : b = d
  · subst e; rw [upd_same, h]
  · rw [upd_ne e, upd_ne e]
theorem lockVals {σ : L2.St} {H : Hp} {QB : Bool → Hp → Prop} {d : Addr} {i : Nat} {kvs : List (Key × V)} (hi : σ[i]? = some (some (.ref d))) (h : H d = some (.dK kvs)) (hf : kvs.all (fun p => flatV p.2) = true) (q : QB (inV .non (kvs.map (·.2))) H) : tLockT (tB (tInVals (tC .non) (tVar i))) σ H QB := by
  refine ⟨d, .dK kvs, h, trivial, fun od => ⟨_, hi, d, od, kvs, rfl, upd_same, rfl, hf, _, rfl, upd_same, ?_⟩⟩
  rw [upd_back h]
  exact q
end RD

namespace RD
open PySem PySem.Spec PyProof.Rows L2
theorem k_notinD {X : Cx} {K : PySem.W.Frag} (h : X.K = K) (hu : X.A.units + 65 < cLine) : OpR X (compareOp .NotIn) (rNotInD K) := by subst h; exact op_notInD hu
theorem room65 {k : Nat} {A : Around} (r : Room k A) : A.units + 65 < cLine := by have := r.un; omega
theorem any_dN (M : List Nat) : ∀ L : List (List Nat), ((L.map Pf.dN).any fun z => PyData.eqv z (Pf.dN M)) = decide (M ∈ L)
  | [] => rfl
  | a :: r => by
    rw [List.map_cons, List.any_cons, Pf.eqv_dN, any_dN M r]
    by_cases e : a = M
    · rw [decide_eq_true e, e, decide_eq_true List.mem_cons_self]
      rfl
    · have : M ∈ a :: r ↔ M ∈ r := ⟨fun z => by
        rcases List.mem_cons.mp z with z | z
        · exact absurd z.symm e
        · exact z, List.mem_cons_of_mem _⟩
      simp only [this, decide_eq_false e, Bool.false_or]
theorem notinD {K : PySem.W.Frag} {H : Hp} {Q : VK} {x y : V} {M : List Nat} {L : List (List Nat)} (h1 : Dp K H x (Pf.dN M)) (h2 : Dp K H y (Pf.dLL L)) (q : Q (.bl (!decide (M ∈ L))) H) : rNotInD K x y H Q := by
  refine ⟨_, _, h1, h2, Pf.sh_dN _, Pf.sh_dLL _, ?_⟩
  rw [any_dN]
  exact q
theorem k_inD {X : Cx} {K : PySem.W.Frag} (h : X.K = K) (hu : X.A.units + 65 < cLine) : OpR X (compareOp .In) (rInD K) := by subst h; exact op_inD hu
end RD
namespace RD
open PySem PySem.Spec PyProof.Rows L2
end RD

namespace Pf
open PySem PySem.Spec PyProof.Rows L2
/-! a dict as a function F on the list L of its keys -/
def pF (F : Nat → Nat) (L : List Nat) : List (Nat × Nat) := L.map fun x => (x, F x)
def FU (H : Hp) (d : Addr) (F : Nat → Nat) (L : List Nat) : Prop := H d = some (.dK ((pF F L).map kvN))
def FD (H : Hp) (d : Addr) (F : Nat → Nat) (L : List Nat) : Prop := Rd H d (.dK ((pF F L).map kvN))
theorem FU.rd {H : Hp} {d : Addr} {F : Nat → Nat} {L : List Nat} (h : FU H d F L) : FD H d F L := .inl h
theorem FD.same {H H' : Hp} {d : Addr} {F : Nat → Nat} {L : List Nat} (h : FD H d F L) (s : Same H H') : FD H' d F L := by
  rcases h with h | ⟨o, h⟩
  · exact .inl (s _ _ h)
  · exact .inr ⟨o, s _ _ h⟩
theorem FU.same {H H' : Hp} {d : Addr} {F : Nat → Nat} {L : List Nat} (h : FU H d F L) (s : Same H H') : FU H' d F L := s _ _ h
theorem pF_fst (F : Nat → Nat) (L : List Nat) : (pF F L).map (·.1) = L := by
  unfold pF
  rw [List.map_map]
  exact List.map_id L
theorem pF_len (F : Nat → Nat) (L : List Nat) : (pF F L).length = L.length := List.length_map _
theorem FD.get {H : Hp} {d : Addr} {F : Nat → Nat} {L : List Nat} (h : FD H d F L) (hn : L.Nodup) {x : Nat} (hx : x ∈ L) : DGet H d (vn x) (some (vn (F x))) :=
  .inl ⟨_, Sum.inl (x : Int), h, rfl, (val_kvN' (pF F L) x (F x) (by rw [pF_fst]; exact hn) (List.mem_map.mpr ⟨x, hx, rfl⟩)).symm⟩
theorem FD.ne {H : Hp} {d p : Addr} {F : Nat → Nat} {L : List Nat} (h : FD H d F L) (n : H p = none) : d ≠ p := by
  rcases h with h | ⟨o, h⟩ <;> exact ne_of_none h n
theorem FD.upd {H : Hp} {d p : Addr} {F : Nat → Nat} {L : List Nat} {o : HO} (h : FD H d F L) (n : d ≠ p) : FD (upd H p o) d F L := by
  rcases h with h | ⟨o', h⟩
  · exact .inl (by rw [upd_ne n]; exact h)
  · exact .inr ⟨o', by rw [upd_ne n]; exact h⟩
/-- a dict that is walked is as it was -/
theorem same_lock {H H' : Hp} {d : Addr} {u : HO} {od : Obj} (hd : H d = some u) (s : Same (upd H d (.frz od u)) H') : Same H (upd H' d u) := fun b o hb => by
  by_cases e : b = d
  · subst e
    rw [upd_same, ← hd]
    exact hb
  · rw [upd_ne e]
    exact s b o (by rw [upd_ne e]; exact hb)
theorem sameX_lock {H H' : Hp} {d t : Addr} {u : HO} {od : Obj} (hd : H d = some u) (s : SameX t (upd H d (.frz od u)) H') : SameX t H (upd H' d u) := fun b o hb hn => by
  by_cases e : b = d
  · subst e
    rw [upd_same, ← hd]
    exact hb
  · rw [upd_ne e]
    exact s b o (by rw [upd_ne e]; exact hb) hn
end Pf
namespace RD
open PySem PySem.Spec PyProof.Rows L2 Pf
section
variable {σ : L2.St} {H : Hp} {Q : VK} {nx bk ct : L2.St → Hp → Prop} {rt : VK} {t : TS} {g : TG}
theorem goD {d : Addr} {i : Nat} {F : Nat → Nat} {L : List Nat} (hs : σ[i]? = some (some (.ref d))) (hd : FU H d F L) (Pv : Nat → L2.St → Hp → Prop) (h0 : ∀ od, Pv 0 σ (upd H d (.frz od (.dK ((pF F L).map kvN)))))
    (turn : ∀ (od : Obj) (j x : Nat) (σ' : L2.St) (H' : Hp), L[j]? = some x → Pv j σ' H' → H' d = some (.frz od (.dK ((pF F L).map kvN))) → g (vn x) σ' H' fun σ2 H2 => t ⟨fun σ3 H3 => H3 d = some (.frz od (.dK ((pF F L).map kvN))) ∧ Pv (j + 1) σ3 H3, fun v H3 => H3 d = some (.frz od (.dK ((pF F L).map kvN))) ∧ rt v (upd H3 d (.dK ((pF F L).map kvN))), fun σ3 H3 => H3 d = some (.frz od (.dK ((pF F L).map kvN))) ∧ nx σ3 (upd H3 d (.dK ((pF F L).map kvN))), fun σ3 H3 => H3 d = some (.frz od (.dK ((pF F L).map kvN))) ∧ Pv (j + 1) σ3 H3⟩ σ2 H2)
    (fin : ∀ σ' H', Pv L.length σ' H' → nx σ' (upd H' d (.dK ((pF F L).map kvN)))) : tLock (tFor (iKeys (tVar i)) g t) ⟨nx, rt, bk, ct⟩ σ H := by
  refine ⟨d, _, hd, trivial, fun od => ⟨_, hs, d, od, rfl, .inl ⟨_, upd_same, ?_⟩⟩⟩
  refine for_it (walk_keys (d := d) (o := od) (kvs := (pF F L).map kvN)) (D := ⟨fun σ3 H3 => H3 d = some (.frz od (.dK ((pF F L).map kvN))) ∧ nx σ3 (upd H3 d (.dK ((pF F L).map kvN))), fun v H3 => H3 d = some (.frz od (.dK ((pF F L).map kvN))) ∧ rt v (upd H3 d (.dK ((pF F L).map kvN))), fun σ3 H3 => H3 d = some (.frz od (.dK ((pF F L).map kvN))) ∧ bk σ3 (upd H3 d (.dK ((pF F L).map kvN))), fun σ3 H3 => H3 d = some (.frz od (.dK ((pF F L).map kvN))) ∧ ct σ3 (upd H3 d (.dK ((pF F L).map kvN)))⟩) (fun j σ' H' => H' d = some (.frz od (.dK ((pF F L).map kvN))) ∧ Pv j σ' H') ⟨upd_same, h0 od⟩ (fun j σ' H' _ hp => hp.1) (fun j x σ' H' H2 hj hp y => ?_) (fun σ' H' hp => ?_)
  · obtain ⟨rfl, k, v, hk, rfl⟩ := y
    rw [List.getElem?_map] at hk
    rw [List.length_map, pF_len] at hj
    have hL : L[j]? = some L[j] := List.getElem?_eq_getElem hj
    have e : (pF F L)[j]? = some (L[j], F L[j]) := by
      unfold pF
      rw [List.getElem?_map, hL]
      rfl
    rw [e] at hk
    cases hk
    exact turn od j L[j] σ' _ hL hp.2 hp.1
  · rw [List.length_map, pF_len] at hp
    exact ⟨hp.1, fin σ' H' hp.2⟩
/-- sorted(d) -/
def rSrtD (xs : List V) (H : Hp) (Q : VK) : Prop := ∃ (a : Addr) (kvs : List (Key × V)) (ks : List Int), xs = [.ref a] ∧ Rd H a (.dK kvs) ∧ kvs.map (·.1) = ks.map Sum.inl ∧ ks.length < 64 ∧ ∀ (ys : List Int) (p : Addr), ys.Perm ks → ys.Pairwise (· ≤ ·) → H p = none → Q (.ref p) (upd H p (.lst (ys.map V.int)))
theorem k_srtD {X : Cx} (hc : X.calm = true) : CallR X (.builtin "sorted") rSrtD := k_sortedD hc
theorem srtD {d : Addr} {F : Nat → Nat} {L E : List Nat} (h : FD H d F L) (hE : E.Pairwise (· < ·)) (hp : L.Perm E) (hl : L.length < 64) (q : ∀ p, H p = none → Q (.ref p) (upd H p (.lst (vns E)))) :
    rSrtD [.ref d] H Q := by
  refine ⟨d, _, L.map (fun n : Nat => (n : Int)), rfl, h, ?_, by rw [List.length_map]; exact hl, fun ys p pm so np => ?_⟩
  · rw [List.map_map, List.map_map]
    unfold pF
    rw [List.map_map]
    rfl
  · have e : ys = E.map (fun n : Nat => (n : Int)) := by
      refine List.Perm.eq_of_pairwise (le := (· ≤ ·)) (fun x y _ _ h1 h2 => Int.le_antisymm h1 h2) so (List.pairwise_map.mpr (List.Pairwise.imp (fun h => by omega) hE)) (pm.trans (hp.map _))
    rw [e, ← vns_int]
    exact q p np
theorem set_swap {α : Type} (l : List α) {i j : Nat} (h : i ≠ j) (a b : α) : (l.set i a).set j b = (l.set j b).set i a := List.set_comm a b h
/-- [x for xs in a for x in xs], of lists of numbers -/
theorem lc2N {K : PySem.W.Frag} {a : Addr} {i j k : Nat} {qs : List Addr} {L : List (List Nat)} (hs : σ[i]? = some (some (.ref a))) (hij : i ≠ j) (hik : i ≠ k) (hjk : j ≠ k) (hj : j < σ.length) (hk : k < σ.length) (ll : LL H a qs L) (hz : L.flatten.length ≤ 10000)
    (q : ∀ H' D, H D = none → Same H H' → H' D = some (.lst (vns L.flatten)) → Q (.ref D) H') : tLc2 (iList K (tVar i)) (gName j) tYes (iList K (tVar j)) (gName k) tYes (tVar k) [j, k] [k] σ H Q := by
  have hlen := paired_len ll.each
  refine ⟨_, hs, a, rfl, ⟨_, sq ll.top⟩, fun D hD => ?_⟩
  have wl : (wipe σ [j, k]).length = σ.length := wipe_length σ _
  refine ⟨fun u m H' => m = L.length - u ∧ u ≤ L.length ∧ Same H H' ∧ H' D = some (.lst (vns (L.take u).flatten)), ⟨_, rfl, Nat.zero_le _, same_new hD, upd_same⟩, ?_⟩
  rintro u m H1 ⟨rfl, hu, s1, e1⟩
  have w1 := walk_list (K := K) (a := a) (xs := qs.map V.ref)
  rw [List.length_map, hlen] at w1
  by_cases hlt : u < L.length
  · have hq : qs[u]? = some (qs[u]'(by omega)) := List.getElem?_eq_getElem (by omega)
    have hL : L[u]? = some L[u] := List.getElem?_eq_getElem hlt
    have tk := take_one hL
    refine .inr ⟨w1.goes u H1 hlt (sq (s1 _ _ ll.top)), fun H' => Same H H' ∧ H' D = some (.lst (vns (L.take (u + 1)).flatten)), fun H' h => ⟨_, by omega, rfl, by omega, h⟩, fun x H2 y0 => ?_⟩
    obtain ⟨rfl, y⟩ := w1.yields u H1 x H2 hlt (sq (s1 _ _ ll.top)) y0
    rw [List.getElem?_map, hq] at y
    cases y
    have hc := s1 _ _ (paired_at ll.each hq hL)
    refine ⟨?_, ?_⟩
    · show wipe ((wipe σ [j, k]).set j _) [j, k] = wipe σ [j, k]
      simp only [wipe]
      rw [set_swap _ hjk.symm, set_swap _ hjk, List.set_set, set_swap _ hjk, List.set_set, List.set_set, set_swap _ hjk.symm]
    · refine RD.yes (RD.bT ?_)
      have hv : ((wipe σ [j, k]).set j (some (V.ref (qs[u]'(by omega)))))[j]? = some (some (V.ref (qs[u]'(by omega)))) := List.getElem?_set_self (by rw [wl]; exact hj)
      refine ⟨_, hv, _, rfl, ⟨_, sq hc⟩, fun v m H' => m = L[u].length - v ∧ v ≤ L[u].length ∧ Same H H' ∧ H' D = some (.lst (vns ((L.take u).flatten ++ L[u].take v))), ⟨_, rfl, Nat.zero_le _, s1, by rw [List.take_zero, List.append_nil]; exact e1⟩, ?_⟩
      rintro v m H3 ⟨rfl, hv', s3, e3⟩
      have hc3 := s3 _ _ (paired_at ll.each hq hL)
      have w2 := walk_list (K := K) (a := qs[u]'(by omega)) (xs := vns L[u])
      rw [vns_len] at w2
      have hsz : (L.take u).flatten.length + L[u].length ≤ 10000 := by
        have h1 : (L.take (u + 1)).flatten.length ≤ L.flatten.length := by
          have h2 := congrArg (fun l => (List.flatten l).length) (List.take_append_drop (u + 1) L)
          simp only [List.flatten_append, List.length_append] at h2
          omega
        rw [tk, List.flatten_append, List.length_append, List.flatten_cons, List.flatten_nil, List.append_nil] at h1
        omega
      by_cases hlt2 : v < L[u].length
      · have hx : L[u][v]? = some L[u][v] := List.getElem?_eq_getElem hlt2
        refine .inr ⟨w2.goes v H3 hlt2 (sq hc3), fun H' => Same H H' ∧ H' D = some (.lst (vns ((L.take u).flatten ++ L[u].take (v + 1)))), fun H' h => ⟨_, by omega, rfl, by omega, h⟩, fun x H4 y0 => ?_⟩
        obtain ⟨rfl, y⟩ := w2.yields v H3 x H4 hlt2 (sq hc3) y0
        rw [vns_at hx] at y
        cases y
        refine ⟨?_, RD.yes (RD.bT ?_)⟩
        · show wipe ((wipe _ [k]).set k _) [k] = wipe _ [k]
          simp only [wipe]
          rw [List.set_set, List.set_set]
        · refine ⟨_, List.getElem?_set_self (by rw [wipe_length, List.length_set, wl]; exact hk), _, e3, by rw [vns_len, List.length_append, List.length_take]; exact szt (by omega), same_mut s3 hD, ?_⟩
          rw [upd_same, take_one hx, ← List.append_assoc, vns_app (_ ++ _)]
          rfl
      · have e : v = L[u].length := by omega
        subst e
        rw [List.take_length] at e3
        refine .inl ⟨w2.stops H3 (sq hc3), s3, ?_⟩
        rw [e3, tk, List.flatten_append, List.flatten_cons, List.flatten_nil, List.append_nil]
  · have e : u = L.length := by omega
    subst e
    rw [List.take_length] at e1
    exact .inl ⟨w1.stops H1 (sq (s1 _ _ ll.top)), q H1 D hD s1 e1⟩
theorem lock {d : Addr} {t : TS} {D : Ends} (h : tLock t D σ H) : tLock t D σ H := h
theorem srt1 {K : PySem.W.Frag} {a : Addr} {l : List Nat} (h : H a = some (.lst (vns l))) (hl : l.length < 64) (q : ∀ (so : List Nat) (p : Addr), so.Perm l → so.Pairwise (· ≤ ·) → H p = none → Q (.ref p) (upd H p (.lst (vns so)))) : rSorted K [.ref a] H Q := by
  refine sort1 (ns := l.map fun n : Nat => (n : Int)) (by rw [← vns_int]; exact sq h) (by rw [List.length_map]; exact hl) fun so p pm srt np => ?_
  obtain ⟨m, rfl⟩ : ∃ m : List Nat, so = m.map fun n : Nat => (n : Int) := by
    refine ⟨so.map Int.toNat, ?_⟩
    rw [List.map_map]
    conv => lhs; rw [← List.map_id so]
    refine List.map_congr_left fun z hz => ?_
    obtain ⟨x, _, rfl⟩ := List.mem_map.mp (pm.mem_iff.mp hz)
    rfl
  rw [← vns_int]
  refine q m p ?_ ?_ np
  · have := pm.map Int.toNat
    rw [List.map_map, List.map_map] at this
    have e : ∀ l : List Nat, l.map (Int.toNat ∘ fun n : Nat => (n : Int)) = l := fun l => by
      conv => rhs; rw [← List.map_id l]
      exact List.map_congr_left fun x _ => rfl
    rw [e, e] at this
    exact this
  · exact List.Pairwise.imp (fun h => by omega) (List.pairwise_map.mp srt)
/-! a list or a tuple walked -/
def SqS (K : PySem.W.Frag) (H : Hp) (a : Addr) (xs : List V) : Prop := SqL K H a xs ∨ SqT K H a xs
theorem seqT {K : PySem.W.Frag} {H H' : Hp} {a : Addr} {xs : List V} (e : Same H H') (h : SqT K H a xs) : SqT K H' a xs := by
  rcases h with (h | ⟨o, h⟩) | h
  · exact .inl (.inl (e _ _ h))
  · exact .inl (.inr ⟨o, e _ _ h⟩)
  · exact .inr h
theorem SqS.same {K : PySem.W.Frag} {H H' : Hp} {a : Addr} {xs : List V} (h : SqS K H a xs) (e : Same H H') : SqS K H' a xs := by
  rcases h with h | h
  · exact .inl (e.seq h)
  · exact .inr (seqT e h)
def IS (K : PySem.W.Frag) (R : It → Hp → Prop) (x : V) (H1 : Hp) : Prop := ∃ a, x = .ref a ∧ ((∃ xs, SqL K H1 a xs) ∧ R (Itl K a) H1 ∨ (∃ xs, SqT K H1 a xs) ∧ R (Itt K a) H1)
def iSeq (K : PySem.W.Frag) (te : TE) : TI := fun σ H R => te σ H (IS K R)
theorem pi_seq {X : Cx} {tg l : Expr} {tl : TE} (hl : PE X l tl) : PI X tg l (iSeq X.K tl) := by
  refine ⟨fun pins s σ H R I h => ?_⟩
  refine thn (hl.run pins s σ H _ I h) fun v s1 ⟨x, H1, I1, r1, q1⟩ => ?_
  obtain ⟨a, e, q1⟩ := q1
  subst e
  cases r1
  rcases q1 with ⟨⟨xs, hq⟩, q⟩ | ⟨⟨xs, hq⟩, q⟩
  · obtain ⟨its, rv, p, hz⟩ := I1.list hq
    refine wpAny_pyIter_list p.isList ?_
    refine ⟨s1.heap.objs.size, [s1.heap.objs.size], _, _, H1, rfl, I1.kept (t' := s1.toks) fun b o e => Heap.get?_push_of_some _ e, turn_list a _, ⟨_, Heap.get?_push_size _ rfl, rfl, rfl⟩, fun b hb => ?_, q⟩
    have e : b = s1.heap.objs.size := by simpa using hb
    subst e
    exact I1.fpOk (Nat.le_refl _) (I1.hok.fresh (Nat.le_refl _))
  · obtain ⟨its, rv, p, hz⟩ := I1.tuple hq
    refine wpAny_pyIter_tuple (show s1.heap.IsTuple a its.toArray from p) ?_
    refine ⟨s1.heap.objs.size, [s1.heap.objs.size], _, _, H1, rfl, I1.kept (t' := s1.toks) fun b o e => Heap.get?_push_of_some _ e, turn_tuple a _, ⟨_, Heap.get?_push_size _ rfl, rfl, rfl⟩, fun b hb => ?_, q⟩
    have e : b = s1.heap.objs.size := by simpa using hb
    subst e
    exact I1.fpOk (Nat.le_refl _) (I1.hok.fresh (Nat.le_refl _))
theorem k_pis {X : Cx} {K : PySem.W.Frag} {tg e : Expr} {ta : TE} (h : X.K = K) (hl : PE X e ta) : PI X tg e (iSeq K ta) := by subst h; exact pi_seq hl
theorem iSq {K : PySem.W.Frag} {te : TE} {R : It → Hp → Prop} (h : te σ H (IS K R)) : iSeq K te σ H R := h
theorem goSq {K : PySem.W.Frag} {a : Addr} {xs : List V} (hq : SqS K H a xs) (Pv : Nat → L2.St → Hp → Prop) (h0 : Pv 0 σ H) (hG : ∀ i σ H', i ≤ xs.length → Pv i σ H' → Same H H')
    (turn : ∀ i x σ H, xs[i]? = some x → Pv i σ H → g x σ H fun σ2 H2 => t ⟨Pv (i + 1), rt, nx, Pv (i + 1)⟩ σ2 H2) (hd : ∀ σ H, Pv xs.length σ H → nx σ H) : IS K (fun J H1 => FR J g t nx rt σ H1) (.ref a) H := by
  rcases hq with hq | hq
  · exact ⟨a, rfl, .inl ⟨⟨_, hq⟩, for_list (D := ⟨nx, rt, nx, nx⟩) Pv h0 (fun i σ' H' hi hp => (hG i σ' H' hi hp).seq hq) turn hd⟩⟩
  · exact ⟨a, rfl, .inr ⟨⟨_, hq⟩, for_tup (D := ⟨nx, rt, nx, nx⟩) Pv h0 (fun i σ' H' hi hp => seqT (hG i σ' H' hi hp) hq) turn hd⟩⟩
theorem callN {n m : Nat} {sp : Sp} {gV : List V → List V → List V} {E : XK} {ta tk : TA} (h : ta σ H fun vs H1 => tk σ H1 fun zs H2 => vs.length = n ∧ zs.length = m ∧ sp (gV vs zs) H2 Q E) : tCallN n m sp gV E ta tk σ H Q := h
end
end RD
namespace Pf
open PySem PySem.Spec PyProof.Rows L2
/-! tuples of two numbers -/
def TP (H : Hp) (q : Addr) (p : Nat × Nat) : Prop := H q = some (.tup [vn p.1, vn p.2])
theorem tps_same {H H' : Hp} (s : Same H H') {qs : List Addr} {W : List (Nat × Nat)} (h : Paired (TP H) qs W) : Paired (TP H') qs W := paired_imp (fun _ _ e => s _ _ e) h
def Ties (K : PySem.W.Frag) (H : Hp) (a : Addr) (ts : List (Nat × Nat)) : Prop := ∃ qs, RD.SqS K H a (qs.map V.ref) ∧ Paired (TP H) qs ts
theorem Ties.same {K : PySem.W.Frag} {H H' : Hp} {a : Addr} {ts : List (Nat × Nat)} (h : Ties K H a ts) (s : Same H H') : Ties K H' a ts := by
  obtain ⟨qs, h1, h2⟩ := h
  exact ⟨qs, h1.same s, tps_same s h2⟩
/-! lists of lists, by their places -/
theorem zip_paired {α β : Type} {F : α → β → Prop} : ∀ {l : List α} {m : List β}, Paired F l m → ∀ z ∈ l.zip m, F z.1 z.2
  | _, _, .nil, z, h => by cases h
  | _, _, .cons r t, z, h => by
    rcases List.mem_cons.mp (show z ∈ _ :: _ from h) with h | h
    · subst h; exact r
    · exact zip_paired t z h
theorem paired_of {α β : Type} {F : α → β → Prop} : ∀ (Z : List (α × β)), (∀ z ∈ Z, F z.1 z.2) → Paired F (Z.map (·.1)) (Z.map (·.2))
  | [], _ => .nil
  | z :: Z, h => .cons (h z List.mem_cons_self) (paired_of Z fun y hy => h y (List.mem_cons_of_mem _ hy))
theorem zip_filter {α β : Type} (p : β → Bool) {l : List α} {m : List β} (h : l.length = m.length) : ((l.zip m).filter fun z => p z.2).map (·.2) = m.filter p := by
  have e : (l.zip m).map (·.2) = m := List.map_snd_zip (by omega)
  have := List.filter_map (f := fun z : α × β => z.2) (p := p) (l := l.zip m)
  rw [e] at this
  exact this.symm
theorem zip_at {α β : Type} {l : List α} {m : List β} {i : Nat} {a : α} {z : α × β} (h : l[i]? = some a) (hz : (l.zip m)[i]? = some z) : z.1 = a ∧ m[i]? = some z.2 := by
  rw [List.getElem?_zip_eq_some] at hz
  rw [h] at hz
  exact ⟨(Option.some.inj hz.1).symm, hz.2⟩
end Pf

namespace RD
open PySem PySem.Spec PyProof.Rows L2
def rTupOf (K : PySem.W.Frag) (xs : List V) (H : Hp) (Q : VK) : Prop := ∃ p ys, xs = [.ref p] ∧ ((SqL K H p ys ∧ ∀ l, H l = none → Q (.ref l) (upd H l (.tup ys))) ∨ (SqT K H p ys ∧ Q (.ref p) H))
theorem k_tupOf {X : Cx} {K : PySem.W.Frag} (h : X.K = K) : CallR X (.type "tuple") (rTupOf K) := by subst h; exact call_tuple_of
section
variable {σ : L2.St} {H : Hp} {Q : VK}
theorem tupL {K : PySem.W.Frag} {a : Addr} {ys : List V} (h : SqL K H a ys) (q : ∀ l, H l = none → Q (.ref l) (upd H l (.tup ys))) : rTupOf K [.ref a] H Q := ⟨a, ys, rfl, .inl ⟨h, q⟩⟩
theorem gtup3 {K : PySem.W.Frag} {i j k : Nat} {T : Addr} {x y z : V} {QG : L2.St → Hp → Prop} (h : SqT K H T [x, y, z]) (q : gName i x σ H fun σ1 H1 => gName j y σ1 H1 fun σ2 H2 => gName k z σ2 H2 QG) : gTup K 3 (gCons (gName i) (gCons (gName j) (gCons (gName k) gNil))) (.ref T) σ H QG := ⟨T, [x, y, z], rfl, h, rfl, x, [y, z], rfl, y, [z], rfl, z, [], rfl, rfl, q⟩
theorem gtup4 {K : PySem.W.Frag} {i j k l : Nat} {T : Addr} {x y z u : V} {QG : L2.St → Hp → Prop} (h : SqT K H T [x, y, z, u]) (q : gName i x σ H fun σ1 H1 => gName j y σ1 H1 fun σ2 H2 => gName k z σ2 H2 fun σ3 H3 => gName l u σ3 H3 QG) : gTup K 4 (gCons (gName i) (gCons (gName j) (gCons (gName k) (gCons (gName l) gNil)))) (.ref T) σ H QG := ⟨T, [x, y, z, u], rfl, h, rfl, x, [y, z, u], rfl, y, [z, u], rfl, z, [u], rfl, u, [], rfl, rfl, q⟩
end
end RD

namespace RD
open PySem PySem.Spec PyProof.Rows L2 SX
/-! texts as lists of codes -/
abbrev vst (l : List Nat) : V := .str (S l)
def vsts (ls : List (List Nat)) : List V := ls.map vst
theorem vsts_len (ls : List (List Nat)) : (vsts ls).length = ls.length := List.length_map _
theorem vsts_app (a b : List (List Nat)) : vsts (a ++ b) = vsts a ++ vsts b := List.map_append
theorem vsts_at {ls : List (List Nat)} {i : Nat} {l : List Nat} (h : ls[i]? = some l) : (vsts ls)[i]? = some (vst l) := by unfold vsts; rw [List.getElem?_map, h]; rfl
theorem of_vsts {ls : List (List Nat)} {i : Nat} {x : V} (h : (vsts ls)[i]? = some x) : ∃ l, ls[i]? = some l ∧ x = vst l := by
  unfold vsts at h
  rw [List.getElem?_map] at h
  cases e : ls[i]? with
  | none => rw [e] at h; cases h
  | some l => rw [e] at h; exact ⟨l, rfl, (Option.some.inj h).symm⟩
theorem l10 : Str.ofString "\n" = S [10] := by decide +kernel
theorem l32 : Str.ofString " " = S [32] := by decide +kernel
theorem l0 : Str.ofString "" = S [] := by decide +kernel
theorem dstr {a b : List Nat} : decide (S a = S b) = decide (a = b) := by
  by_cases e : a = b
  · rw [decide_eq_true e, e, decide_eq_true rfl]
  · rw [decide_eq_false e, decide_eq_false fun z => e (S_inj z)]
def rSgn (neg : Bool) : R2 := fun x y H Q => ∃ (c : Nat) (z : Str), x = .str ⟨#[c]⟩ ∧ y = .str z ∧ Q (.bl (if neg = true then !decide (c ∈ z.cps.toList) else decide (c ∈ z.cps.toList))) H
theorem k_sgn {X : Cx} : OpR X (compareOp .In) (rSgn false) := op_in_sign
theorem k_nsgn {X : Cx} : OpR X (compareOp .NotIn) (rSgn true) := op_notIn_sign
def rSplit : V → List V → Hp → VK → Prop := fun x xs H Q => ∃ a b, x = .str a ∧ xs = [.str b] ∧ (b.length == 0) = false ∧ a.length + 2 ≤ sizeLine ∧ rNewStrs (Txt.split a b) H Q
def rJoin (K : PySem.W.Frag) : V → List V → Hp → VK → Prop := fun x xs H Q => ∃ a p, ∃ ys : List Str, x = .str a ∧ xs = [.ref p] ∧ (SqL K H p (ys.map V.str) ∨ SqT K H p (ys.map V.str)) ∧ (ys.map (·.length)).sum + ys.length * a.length ≤ 16777216 ∧ Q (.str (Txt.join a ys)) H
theorem k_split {X : Cx} {o e : Expr} {to te : TE} {apos pos : Pos} (ho : PE X o to) (he : PE X e te) (hs : starEach [e] X.env = [(false, eval e X.env)] := by rfl) (hbase : attributeBase o "split" X.env (eval o X.env) = eval o X.env := by rfl) (hline : (apos.endLine == pos.line) = true := by rfl) :
    PE X (.Call (.Attribute o "split" apos) [e] [] pos) (tM1 rSplit to te) := pe_split ho he hs hbase hline
theorem k_join {X : Cx} {K : PySem.W.Frag} {o e : Expr} {to te : TE} {apos pos : Pos} (h : X.K = K) (ho : PE X o to) (he : PE X e te) (hs : starEach [e] X.env = [(false, eval e X.env)] := by rfl) (hbase : attributeBase o "join" X.env (eval o X.env) = eval o X.env := by rfl) (hline : (apos.endLine == pos.line) = true := by rfl) :
    PE X (.Call (.Attribute o "join" apos) [e] [] pos) (tM1 (rJoin K) to te) := by subst h; exact pe_join ho he hs hbase hline
def rAddS : R2 := fun x y H Q => ∃ i j, x = .str i ∧ y = .str j ∧ i.length + j.length ≤ sizeLine ∧ Q (.str (i ++ j)) H
theorem k_addS {X : Cx} : OpR X (binaryOp .Add) rAddS := op_add_str
section
variable {σ : L2.St} {H : Hp} {Q : VK} {nx bk ct : L2.St → Hp → Prop} {rt : VK} {te to : TE} {t : TS} {K : PySem.W.Frag}
theorem m1 {r : V → List V → Hp → VK → Prop} (h : to σ H fun x H1 => (∃ a, x = .str a) ∧ te σ H1 fun y H2 => r x [y] H2 Q) : tM1 r to te σ H Q := h
theorem goS {g : TG} {l : List Nat} (Pv : Nat → L2.St → Hp → Prop) (h0 : Pv 0 σ H)
    (turn : ∀ i c σ H, l[i]? = some c → Pv i σ H → g (vst [c]) σ H fun σ2 H2 => t ⟨Pv (i + 1), rt, nx, Pv (i + 1)⟩ σ2 H2) (hd : ∀ σ H, Pv l.length σ H → nx σ H) :
    ∃ z, vst l = .str z ∧ FR (Its z) g t nx rt σ H := by
  refine ⟨S l, rfl, for_it (D := ⟨nx, rt, nx, nx⟩) (walk_str (z := S l)) Pv h0 (fun _ _ _ _ _ => trivial) (fun i x σ H H' hi hp y => ?_) fun σ H hp => hd σ H (by have e : (S l).cps.size = l.length := (by simp); rw [e] at hp; exact hp)⟩
  obtain ⟨rfl, c, hc, rfl⟩ := y
  exact turn i c σ _ (by rw [← hc]; simp) hp
theorem goZ {g : TG} {a b : Addr} {xs ys : List V} (h1 : SqL K H a xs) (h2 : SqL K H b ys) (hl : xs.length = ys.length) (Pv : Nat → L2.St → Hp → Prop) (h0 : Pv 0 σ H) (hG : ∀ i σ H, i ≤ xs.length → Pv i σ H → SqL K H a xs ∧ SqL K H b ys)
    (turn : ∀ i x y σ H T, xs[i]? = some x → ys[i]? = some y → Pv i σ H → H T = none → g (.ref T) σ (upd H T (.tup [x, y])) fun σ2 H2 => t ⟨Pv (i + 1), rt, nx, Pv (i + 1)⟩ σ2 H2) (hd : ∀ σ H, Pv xs.length σ H → nx σ H) :
    ∃ a' b' xs' ys', [V.ref a, V.ref b] = [.ref a', .ref b'] ∧ SqL K H a' xs' ∧ SqL K H b' ys' ∧ FR (Itz K a' b') g t nx rt σ H := by
  refine ⟨a, b, xs, ys, rfl, h1, h2, for_it (D := ⟨nx, rt, nx, nx⟩) (walk_zip (K := K) (a := a) (b := b) (xs := xs) (ys := ys) (n := xs.length) (by omega)) Pv h0 hG (fun i x σ H H' hi hp y => ?_) hd⟩
  obtain ⟨T, x1, x2, rfl, hT, rfl, e1, e2⟩ := y
  exact turn i x1 x2 σ H T e1 e2 hp hT
theorem splt {l : List Nat} {c : Nat} (hc : c < 256) (hl : l.length ≤ 1000000) (q : ∀ p, H p = none → Q (.ref p) (upd H p (.lst (vsts (TL.spl [c] 0 [] l))))) :
    rSplit (vst l) [vst [c]] H Q := by
  refine ⟨S l, S [c], rfl, rfl, rfl, by rw [S_len]; exact Nat.le_trans (by omega : l.length + 2 ≤ 1000002) (by decide), fun p np => ?_⟩
  rw [split_S (by simp) (by simpa using hc), List.map_map]
  exact q p np
theorem sum_le : ∀ (ls : List (List Nat)) (k : Nat), (∀ l ∈ ls, l.length ≤ k) → ((ls.map S).map (·.length)).sum + ls.length ≤ ls.length * (k + 1)
  | [], _, _ => by simp
  | l :: r, k, h => by
    have h1 := sum_le r k fun x hx => h x (List.mem_cons_of_mem _ hx)
    have h2 := h l List.mem_cons_self
    simp only [List.map_cons, List.sum_cons, List.length_cons, Nat.succ_mul, S_len] at h1 ⊢
    omega
theorem jnd {p : Addr} {c k : Nat} {ls : List (List Nat)} (hs : SqL K H p (vsts ls)) (hk : ∀ l ∈ ls, l.length ≤ k) (hb : ls.length * (k + 1) ≤ 16777216) (q : Q (vst (TL.joinL [c] ls)) H) :
    rJoin K (vst [c]) [.ref p] H Q := by
  refine ⟨S [c], p, ls.map S, rfl, rfl, .inl (by rw [List.map_map]; exact hs), ?_, ?_⟩
  · have := sum_le ls k hk
    rw [S_len, List.length_map]
    show _ + _ * 1 ≤ _
    omega
  · rw [join_S]
    exact q
theorem strN {n : Nat} (h : n < 1000000000) (q : Q (vst (TL.numL n)) H) : rStrI [Pf.vn n] H Q := by
  refine ⟨(n : Int), rfl, ?_, ?_⟩
  · have : (n : Int).natAbs = n := rfl
    rw [this]
    exact Nat.lt_of_le_of_lt (Nat.log2_le_self n |> fun h2 => Nat.le_of_lt_succ (by
      have : n.log2 < 30 := by
        by_cases z : n = 0
        · subst z; decide
        · exact (Nat.log2_lt z).mpr (Nat.lt_of_lt_of_le h (by decide))
      omega : n.log2 < 30 + 1)) (by decide)
  · have e := num_S n
    show Q (.str (Str.ofString (toString ((n : Nat) : Int)))) H
    rw [e]
    exact q
theorem ixS {l : List Nat} {i : Int} {c : Nat} (hl : l.length ≤ 1000000) (ha : atI l i = some c) (q : Q (vst [c]) H) : rIxS (vst l) (.int i) H Q := ⟨S l, i, c, rfl, rfl, by rw [S_len]; exact Nat.le_trans hl (by decide), ha, q⟩
theorem nsg {c : Nat} {l : List Nat} (q : Q (.bl (!decide (c ∈ l))) H) : rSgn true (vst [c]) (vst l) H Q := ⟨c, S l, rfl, rfl, q⟩
theorem isg {c : Nat} {l : List Nat} (q : Q (.bl (decide (c ∈ l))) H) : rSgn false (vst [c]) (vst l) H Q := ⟨c, S l, rfl, rfl, q⟩
theorem adds {a b : List Nat} (h : a.length + b.length ≤ 1000000) (q : Q (vst (a ++ b)) H) : rAddS (vst a) (vst b) H Q := by
  refine ⟨S a, S b, rfl, rfl, by rw [S_len, S_len]; exact Nat.le_trans h (by decide), ?_⟩
  rw [S_cat]
  exact q
end
end RD

namespace RD
open PySem PySem.Spec PyProof.Rows L2 PySem.W
/-! text.rpartition(sep) -/
def rRpart : V → List V → Hp → VK → Prop := fun x xs H Q => ∃ a b, x = .str a ∧ xs = [.str b] ∧ (b.length == 0) = false ∧ a.length ≤ sizeLine ∧
    ∀ p, H p = none → Q (.ref p) (upd H p (.tup [.str (Txt.rpartition a b).1, .str (Txt.rpartition a b).2.1, .str (Txt.rpartition a b).2.2]))
theorem mt_rpart {X : Cx} : MtR X "str.rpartition" rRpart := by
  intro pins sh σ H x xs v us Q J rx rs hh
  obtain ⟨a, b, rfl, rfl, hb, hz, hh⟩ := hh
  obtain ⟨t, rfl⟩ := rx
  cases rs with
  | cons r1 rs =>
    cases rs
    obtain ⟨u, rfl⟩ := r1
    refine call_meets F.slot_str_rpartition (typeIs_str _ _ _) F.entry_str_rpartition (F.args_str_rpartition_2 _ _) (meets_str_rpartition a b t u hb hz) ?_
    unfold Txt.rpartition at hh
    revert hh
    cases Builtin.Str.lastOccurrence a b 0 a.length with
    | none => intro hh; exact laid_parts J hh
    | some i => intro hh; exact laid_parts J hh
theorem k_rpart {X : Cx} {o e : Expr} {to te : TE} {apos pos : Pos} (ho : PE X o to) (he : PE X e te) (hs : starEach [e] X.env = [(false, eval e X.env)] := by rfl) (hbase : attributeBase o "rpartition" X.env (eval o X.env) = eval o X.env := by rfl) (hline : (apos.endLine == pos.line) = true := by rfl) :
    PE X (.Call (.Attribute o "rpartition" apos) [e] [] pos) (tM1 rRpart to te) := pe_m1 F.slot_str_rpartition F.type_str_rpartition mt_rpart ho he hs hbase hline
/-! x, *rest = a list -/
theorem pgs_star {X : Cx} {e : Expr} {es : List Expr} {t : TG} {u : TGs} {p : Pos} (h1 : PG X e t) (h2 : PGs X es u)
    (hs : (assignEach (.Starred e p :: es) X.env).map (·.2) = assign e X.env :: (assignEach es X.env).map (·.2) := by rfl) : PGs X (.Starred e p :: es) (gCons t u) := by
  refine ⟨fun pins sh σ H vs us Q J r hh => ?_⟩
  obtain ⟨v, vr, e1, hh⟩ := hh
  subst e1
  cases r with
  | cons r rr =>
    rw [hs]
    refine assignInOrder_cons (thn (h1.run pins sh σ H _ _ _ J r hh) fun _ s1 ⟨σ1, H1, J1, q1⟩ => ?_)
    exact h2.run pins s1 σ1 H1 _ _ Q J1 rr q1
def gStar (K : PySem.W.Frag) (t : TGs) : TG := fun v σ H Q => ∃ (a : Addr) (x : V) (r : List V), v = .ref a ∧ (SqL K H a (x :: r) ∨ SqT K H a (x :: r)) ∧ r.length ≤ 16000 ∧ ∀ D, H D = none → t [x, .ref D] σ (upd H D (.lst r)) Q
section
variable {prog : Program} {w : World} {A : Around} {E : Value → Shared → Prop} {s : Shared}
theorem star_list {l : Addr} {items : Array Value} {Q : List Value → Shared → Prop} (hl : s.heap.IsList l items) (hh : A.handled = none) (h1 : 1 ≤ items.size) (hz : items.size ≤ 16384)
    (q : ∀ (h' : Heap) (tk : Nat), (∀ b o, b ≠ s.heap.objs.size → s.heap.get? b = some o → h'.get? b = some o) → Q (items.toList.take 1 ++ [.ref h'.objs.size] ++ []) { s with heap := h'.push { cls := .type "list", data := .seq (items.toList.drop 1).toArray }, toks := tk }) : wpAny (model prog w) A (unpackItems (.ref l) 2 (some 1)) Q E s := by
  have hlt : l ≠ s.heap.objs.size := by obtain ⟨o, ho, _⟩ := hl; exact Nat.ne_of_lt (Heap.lt_size ho)
  unfold unpackItems
  refine wpAny_bind ?_
  unfold notIterableAtAll
  refine wpAny_bind (wpAny_specialOf hl.typeIs slot_list_iter.lookup ?_)
  refine wpAny_pure ?_
  simp only [Bool.false_eq_true, if_false]
  refine wpAny_bind (wpAny_holding (wpAny_pyIter_list hl ?_))
  refine wpAny_bind (wpAny_holding (kun_draw hlt 1 0 _ _ ⟨_, Heap.get?_push_size _ rfl, rfl, rfl⟩ (hl.push _) (by omega) fun ha hita hsa => ?_))
  have hla : ha.IsList l items := (hl.push _).extBut hsa.extBut hlt
  rw [Nat.zero_add] at hita
  have hita' := hita
  obtain ⟨oi, hoi, _⟩ := hita'
  have hla' := hla
  obtain ⟨ol, hol, _⟩ := hla'
  rw [List.drop_zero]
  have hfl : (items.toList.take 1).length = 1 := by rw [List.length_take, Array.length_toList]; omega
  rw [if_neg (show ¬ ((items.toList.take 1).length < 1) by rw [hfl]; omega)]
  refine wpAny_bind (wpAny_holding (kun_collect (s := { s with heap := ha }) (T := "list_iterator") (.inr (.inr (.inl rfl))) (Walks.list (A := A.in1) hh s.heap.objs.size l hlt items) (fun j u st => st.1.typeIs) (k := 1) (by omega) ⟨hita, hla⟩ (Heap.lt_size hoi) (Heap.lt_size hol) (fun hb tk hk => ?_) (by rw [sizeLine_eq]; omega)))
  have hrl : (items.toList.drop 1).length = items.size - 1 := by rw [List.length_drop, Array.length_toList]
  show wpAny _ _ (if (items.toList.drop 1).length < 2 - 1 - 1 then _ else _) _ _ _
  rw [if_neg (by omega)]
  show wpAny _ _ (newList ((items.toList.drop 1).take ((items.toList.drop 1).length - (2 - 1 - 1))) >>= fun d => pure (items.toList.take 1 ++ [d] ++ (items.toList.drop 1).drop ((items.toList.drop 1).length - (2 - 1 - 1)))) _ _ _
  rw [show (items.toList.drop 1).length - (2 - 1 - 1) = (items.toList.drop 1).length by omega, List.take_length, List.drop_length]
  refine wpAny_bind (wpAny_newList (wpAny_pure ?_) (by rw [hrl, sizeLine_eq]; omega))
  exact q hb tk fun b o hne e => hk b o hne (hsa.extBut b o hne (Heap.get?_push_of_some _ e))
theorem star_tup {l : Addr} {items : Array Value} {Q : List Value → Shared → Prop} (hl : IsTup s.heap l items) (hh : A.handled = none) (h1 : 1 ≤ items.size) (hz : items.size ≤ 16384)
    (q : ∀ (h' : Heap) (tk : Nat), (∀ b o, b ≠ s.heap.objs.size → s.heap.get? b = some o → h'.get? b = some o) → Q (items.toList.take 1 ++ [.ref h'.objs.size] ++ []) { s with heap := h'.push { cls := .type "list", data := .seq (items.toList.drop 1).toArray }, toks := tk }) : wpAny (model prog w) A (unpackItems (.ref l) 2 (some 1)) Q E s := by
  have hlt : l ≠ s.heap.objs.size := by obtain ⟨o, ho, _⟩ := hl; exact Nat.ne_of_lt (Heap.lt_size ho)
  unfold unpackItems
  refine wpAny_bind ?_
  unfold notIterableAtAll
  refine wpAny_bind (wpAny_specialOf hl.typeIs slot_tuple_iter.lookup ?_)
  refine wpAny_pure ?_
  simp only [Bool.false_eq_true, if_false]
  refine wpAny_bind (wpAny_holding (iter_tuple hl ?_))
  refine wpAny_bind (wpAny_holding (draw_tuple hlt 1 0 _ _ ⟨_, Heap.get?_push_size _ rfl, rfl, rfl⟩ (hl.push _) (by omega) fun ha hita hsa => ?_))
  have hla : IsTup ha l items := (hl.push _).extBut hsa.extBut hlt
  rw [Nat.zero_add] at hita
  have hita' := hita
  obtain ⟨oi, hoi, _⟩ := hita'
  have hla' := hla
  obtain ⟨ol, hol, _⟩ := hla'
  rw [List.drop_zero]
  have hfl : (items.toList.take 1).length = 1 := by rw [List.length_take, Array.length_toList]; omega
  rw [if_neg (show ¬ ((items.toList.take 1).length < 1) by rw [hfl]; omega)]
  refine wpAny_bind (wpAny_holding (kun_collect (s := { s with heap := ha }) (T := "tuple_iterator") (.inr (.inr (.inr rfl))) (Walks.tuple (A := A.in1) hh s.heap.objs.size l hlt items) (fun j u st => st.1.typeIs) (k := 1) (by omega) ⟨hita, hla⟩ (Heap.lt_size hoi) (Heap.lt_size hol) (fun hb tk hk => ?_) (by rw [sizeLine_eq]; omega)))
  have hrl : (items.toList.drop 1).length = items.size - 1 := by rw [List.length_drop, Array.length_toList]
  show wpAny _ _ (if (items.toList.drop 1).length < 2 - 1 - 1 then _ else _) _ _ _
  rw [if_neg (by omega)]
  show wpAny _ _ (newList ((items.toList.drop 1).take ((items.toList.drop 1).length - (2 - 1 - 1))) >>= fun d => pure (items.toList.take 1 ++ [d] ++ (items.toList.drop 1).drop ((items.toList.drop 1).length - (2 - 1 - 1)))) _ _ _
  rw [show (items.toList.drop 1).length - (2 - 1 - 1) = (items.toList.drop 1).length by omega, List.take_length, List.drop_length]
  refine wpAny_bind (wpAny_newList (wpAny_pure ?_) (by rw [hrl, sizeLine_eq]; omega))
  exact q hb tk fun b o hne e => hk b o hne (hsa.extBut b o hne (Heap.get?_push_of_some _ e))
end
theorem pg_star {X : Cx} {es : List Expr} {k : Nat} {t : TGs} {pos : Pos} (hc : X.calm = true) (h : PGs X es t)
    (hn : (assignEach es X.env).length = 2 := by rfl) (hst : (assignEach es X.env).findIdx? (·.1) = some 1 := by rfl) : PG X (.Tuple es k pos) (gStar X.K t) := by
  refine ⟨fun pins sh σ H v u Q J r hw => ?_⟩
  obtain ⟨a, x, rs, e1, hq, hl, hw⟩ := hw
  subst e1
  cases r
  rw [PyProof.Rows.assign_Tuple]
  refine wpAny_bind (wpAny_standAt ?_)
  unfold unpack
  rw [hn, hst]
  have fin : ∀ (its : List Value), Vals (x :: rs) its → ∀ (h' : Heap) (tk : Nat), (∀ b o, b ≠ sh.heap.objs.size → sh.heap.get? b = some o → h'.get? b = some o) →
      wpAny (model X.prog X.w) X.A (assignInOrder ((assignEach es X.env).map (·.2)) (its.toArray.toList.take 1 ++ [.ref h'.objs.size] ++ [])) (fun _ s' => ∃ σ' H', Inv X pins σ' H' s' ∧ Q σ' H') X.xe { sh with heap := h'.push { cls := .type "list", data := .seq (its.toArray.toList.drop 1).toArray }, toks := tk } := by
    intro its rv h' tk hk
    cases rv with
    | cons rx rr =>
      have J1 : Inv X pins σ H { sh with heap := h', toks := tk } := J.kept (t' := tk) fun b o e => hk b o (Nat.ne_of_lt (Heap.lt_size e)) e
      have hf : H h'.objs.size = none := J1.hok.fresh (Nat.le_refl _)
      have J2 : Inv X pins σ (upd H h'.objs.size (.lst rs)) { sh with heap := h'.push { cls := .type "list", data := .seq _ }, toks := tk } := J1.laid (t' := tk) (fun b u e => Heap.get?_push_of_some _ e) (Nat.le_refl _) ⟨Nat.le_trans hl (by decide), _, 0, rr, Heap.get?_push_size _ rfl⟩
      exact h.run pins _ σ _ [x, .ref h'.objs.size] _ Q J2 (.cons rx (.cons rfl .nil)) (hw _ hf)
  rcases hq with hq | hq
  · obtain ⟨its, rv, pl, hz⟩ := J.list hq
    have hl' : sh.heap.IsList a its.toArray := by
      obtain ⟨o, m, e, c, d, q⟩ := pl
      exact ⟨o, e, c, m, q⟩
    have hsz : its.toArray.size = rs.length + 1 := by rw [List.size_toArray, ← rv.length]; rfl
    exact wpAny_bind (wpAny_holding (star_list hl' (J.ok.hd hc) (by omega) (by omega) fun h' tk hk => fin its rv h' tk hk))
  · obtain ⟨its, rv, pl, hz⟩ := J.tuple hq
    have hsz : its.toArray.size = rs.length + 1 := by rw [List.size_toArray, ← rv.length]; rfl
    exact wpAny_bind (wpAny_holding (star_tup pl (J.ok.hd hc) (by omega) (by omega) fun h' tk hk => fin its rv h' tk hk))
theorem k_star {X : Cx} {K : PySem.W.Frag} {es : List Expr} {k : Nat} {t : TGs} {pos : Pos} (hK : X.K = K) (h : PGs X es t) (hc : X.calm = true := by rfl)
    (hn : (assignEach es X.env).length = 2 := by rfl) (hst : (assignEach es X.env).findIdx? (·.1) = some 1 := by rfl) : PG X (.Tuple es k pos) (gStar K t) := by subst hK; exact pg_star hc h hn hst
/-! a def with defaults -/
structure FunV (K : PySem.W.Frag) (x qual : Str) (st : Stmt) (f : Addr) (fd : FuncData) : Prop where
  ex : ∃ (oc : Value) (od : Option Addr) (dV kV doc pm : Value) (an : Option Addr) (cdv ct : Value) (osl : Array (Option Value)),
    fd = PySem.W.fnOf x qual (defArgs st) (defBody st) (defScope st) dV kV doc pm an cdv ct ∧ K.lookup f = some ⟨oc, od, .func fd, osl⟩ ∧ PySem.W.codeIn K cdv qual = true
  kp : PySem.W.keepIn K (.ref f) = true
section
variable {P : Program} {w : World} {K : PySem.W.Frag} {mg : Str → Option Value} {base : Heap}
theorem FunV.ok {x qual : Str} {st : Stmt} {f : Addr} {fd : FuncData} {N ps : List Str} {k : Nat} {sp : Sp} (F : FunV K x qual st f fd) (S : FnScope N ps (defScope st)) (len : ∀ vs H Q E, sp vs H Q E → vs.length = ps.length)
    (hbody : ∀ (cdv : Value) (A : Around) (outer : List Env) (s : Shared) (H : Hp) (vs : List V) (Q : VK) (E : XK), Room k (A.deeper (envOfC qual (defScope st) s.heap.objs.size f cdv)) → sp vs H Q E →
      ∃ t, PSs (cxOf CX0 P w K mg base N qual (defScope st) f cdv A outer s H E).nox (defBody st) t ∧ t { nx := fun _ H' => Q .non H', rt := Q } (start N vs) H) : FnOk P w K mg base CX0 (k + 1) f fd ps sp := by
  obtain ⟨oc, od, dV, kV, doc, pm, an, cdv, ct, osl, rfl, lk, hcd⟩ := F.ex
  refine fn_of lk hcd S len fun A outer s H vs Q E hr hsp => ?_
  obtain ⟨t, h, q⟩ := hbody cdv A outer s H vs Q E hr hsp
  exact ⟨t, h.nox, q⟩
theorem fun_mkV {x qual : Str} {st : Stmt} {f : Addr} {oc : Value} {od an : Option Addr} {osl : Array (Option Value)} {dV kV doc pm cdv ct : Value} (l : K.lookup f = some ⟨oc, od, .func (PySem.W.fnOf x qual (defArgs st) (defBody st) (defScope st) dV kV doc pm an cdv ct), osl⟩)
    (c : PySem.W.codeIn K cdv qual = true) (k : PySem.W.keepIn K (.ref f) = true) : FunV K x qual st f (PySem.W.fnOf x qual (defArgs st) (defBody st) (defScope st) dV kV doc pm an cdv ct) := ⟨⟨oc, od, dV, kV, doc, pm, an, cdv, ct, osl, rfl, l, c⟩, k⟩
end
end RD

namespace RDT
open PySem PySem.Spec PyProof.Rows L2 PySem.W
/-! len(set(texts)) -/
def fstep (l : List Str) (v : Str) : List Str := if l.any (· == v) then l else l ++ [v]
def fmet (val : Nat → Str) (i : Nat) : List Str := ((List.range i).map val).foldl fstep []
theorem fmet_succ (val : Nat → Str) (i : Nat) : fmet val (i + 1) = fstep (fmet val i) (val i) := by
  unfold fmet; rw [List.range_succ, List.map_append, List.foldl_append]; rfl
theorem fstep_len (l : List Str) (v : Str) : (fstep l v).length = if l.any (· == v) then l.length else l.length + 1 := by
  unfold fstep; split <;> simp
theorem fmet_le (val : Nat → Str) : ∀ i, (fmet val i).length ≤ i
  | 0 => Nat.le_refl _
  | i + 1 => by
    have ih := fmet_le val i
    rw [fmet_succ, fstep_len]
    split <;> omega
theorem fstep_any (l : List Str) (v k : Str) : (fstep l v).any (· == k) = (l.any (· == k) || decide (k = v)) := by
  unfold fstep
  by_cases h : l.any (· == v) = true
  · rw [if_pos h]
    by_cases e : k = v
    · subst e; rw [h]; simp
    · simp [e]
  · rw [if_neg h, List.any_append]
    by_cases e : k = v
    · subst e; simp
    · have hb : (v == k) = false := by simpa [beq_iff_eq] using (fun h' : v = k => e h'.symm)
      simp [hb, e]
section
variable {prog : Program} {w : World} {A : Around} {R : Result → Shared → Prop} {I : Addr} {fp wr : List Addr} {G : Array GenState → Array GenState → Prop} {n : Nat} {P : Nat → Value → Prop} {St : Nat → Shared → Prop}
theorem set_loopK (W : WalksS prog w A.in1 I fp wr G n P St) (S : Addr) (hSf : S ∉ fp)
    (val : Nat → Str) (hval : ∀ i v, P i v → ∃ t, v = .str (val i) t) (hb : n + 1 < scanBound) :
    ∀ (k i : Nat) (s : Shared), n - i = k → i ≤ n → St i s →
      s.heap.SetOf (PySem.strKind prog w) S (fun k' => (fmet val i).any (· == k')) (fmet val i).length →
      (∀ s', Moved (S :: wr) G s s' → s'.heap.SetOf (PySem.strKind prog w) S (fun k' => (fmet val n).any (· == k')) (fmet val n).length → R (.ok (.ret .none)) s') →
      codeAny (model prog w) A (.builtin "set.update.loop" ⟨[.ref S, .ref I], []⟩) R s := by
  have hSw : S ∉ wr := fun h => hSf (W.sub _ h)
  have hsub : ∀ b ∈ wr, b ∈ S :: wr := fun b hb => List.mem_cons_of_mem _ hb
  intro k
  induction k with
  | zero =>
    intro i s hk hi hst hS hR
    have hin : i = n := by omega
    subst hin
    refine codeAny_builtin PyProof.Rows.F.entry_set_update_loop ?_
    rw [Around.under_plainId PyProof.Rows.F.plain_set_update_loop _]
    show wpAny _ A.in1 (pyNext (.ref I) >>= _) _ _ s
    refine wpAny_bind (W.done s _ _ hst fun s' hm => ?_)
    show wpAny _ A.in1 (ret Value.none) _ _ s'
    exact wpAny_pure (hR s' (hm.mono hsub) (by
      obtain ⟨o, es, ep, t, ho, rest⟩ := hS
      exact ⟨o, es, ep, t, hm.heap S _ hSw ho, rest⟩))
  | succ k ih =>
    intro i s hk hi hst hS hR
    have hlt : i < n := by omega
    refine codeAny_builtin PyProof.Rows.F.entry_set_update_loop ?_
    rw [Around.under_plainId PyProof.Rows.F.plain_set_update_loop _]
    show wpAny _ A.in1 (pyNext (.ref I) >>= _) _ _ s
    refine wpAny_bind (W.item i s _ _ hlt hst fun v s' hP hst' hm => ?_)
    obtain ⟨t, rfl⟩ := hval i v hP
    have hS' : s'.heap.SetOf (PySem.strKind prog w) S (fun k' => (fmet val i).any (· == k')) (fmet val i).length := by
      obtain ⟨o, es, ep, tb, ho, rest⟩ := hS
      exact ⟨o, es, ep, tb, hm.heap S _ hSw ho, rest⟩
    show wpAny _ A.in1 (holding [Value.str (val i) t] (setAdd S (.str (val i) t)) >>= _) _ _ s'
    refine wpAny_bind (wpAny_holding ?_)
    unfold setAdd
    refine wpAny_holding ?_
    refine wpAny_bind ((PySem.strKind prog w).pyHash (k := val i) (strKind_is _ _ _ _) ?_)
    have hroom : (fmet val i).length + 1 < scanBound := by have := fmet_le val i; omega
    refine wpAny_setAddHashed_of (knd := PySem.strKind prog w) (s := { s' with toks := s'.toks + 1 }) (strKind_is _ _ _ _) rfl hS' hroom fun h' hsb hS2 => ?_

    have hSi : h'.SetOf (PySem.strKind prog w) S (fun k' => (fmet val (i + 1)).any (· == k')) (fmet val (i + 1)).length :=
      SetOf_congr hS2 (fun k' => by rw [fmet_succ, fstep_any]) (by rw [fmet_succ, fstep_len])
    refine wpAny_pure ⟨plainId_quiet PyProof.Rows.F.plain_set_update_loop _, ih (i + 1) _ (by omega) hlt (W.frame _ s' _ _ hst' (Nat.le_succ _) fun b hb o e => ?_) hSi fun s'' hm'' hS'' => ?_⟩
    · rw [hsb.2 b (fun h : b = S => hSf (by rw [← h]; exact hb))]; exact e
    · refine hR s'' (Moved.trans W.gtrans ((hm.mono hsub).then_heap (Nat.le_succ _) fun b o hb e => ?_) hm'') hS''
      rw [hsb.2 b (fun h : b = S => hb (by rw [h]; exact List.mem_cons_self))]; exact e
end
theorem str_at : ∀ {vs : List Value} {xs : List Str}, PyProof.Rows.StrsAre vs xs → ∀ (i : Nat) (v : Value), vs[i]? = some v → ∃ t, v = .str (xs.getD i Str.empty) t
  | _, _, .nil, i, v, h => by simp at h
  | _, _, .cons n t hr, 0, v, h => by simp at h; exact ⟨t, by rw [← h]; rfl⟩
  | _, _, .cons n t hr, i + 1, v, h => by
    simp only [List.getElem?_cons_succ] at h
    obtain ⟨t', e⟩ := str_at hr i v h
    exact ⟨t', by rw [e]; rfl⟩
section
variable {prog : Program} {w : World} {A : Around} {E : Value → Shared → Prop} {s : Shared}
set_option maxHeartbeats 8000000 in
theorem set_callT {l : Addr} {items : Array Value} {xs : List Str} {Q : Value → Shared → Prop}
    (hh : A.handled = none) (hl : s.heap.IsList l items) (hi : PyProof.Rows.StrsAre items.toList xs) (hb : items.size + 1 < scanBound)
    (h : ∀ (h' : Heap) (tk : Nat), h'.SetOf (PySem.strKind prog w) s.heap.objs.size (fun k' => (fmet (fun i => xs.getD i Str.empty) items.size).any (· == k')) (fmet (fun i => xs.getD i Str.empty) items.size).length →
      (∀ b o, b < s.heap.objs.size → s.heap.get? b = some o → h'.get? b = some o) → Q (.ref s.heap.objs.size) { s with heap := h', toks := tk }) :
    wpAny (model prog w) A (call (.type "set") [.ref l]) Q E s := by
  obtain ⟨c, tl, hmro⟩ := PySem.F.called_set.mro
  have hmade := PySem.F.called_set.made
  have hsub := PySem.F.called_set.sub
  refine wpAny_call (codeAny_of_tree ?_)
  show wpAny _ _ (callAny (.type "set") _) _ _ _
  refine wpAny_pure ⟨Code.quiet_builtin _ (by decide +kernel), codeAny_builtin PySem.F.entry_type_call ?_⟩
  rw [Around.under_plain (weight_type_call_type "set" [.ref l] []) rfl]
  have h1 := PySem.F.called_set.notType
  have h2 := PySem.F.called_set.canCreate
  have hct := PySem.F.typeCall_set_1 (.ref l)
  repeat (any_goals (first | assumption | wp_step))

  refine codeAny_mono (code_set_new_1 (.ref l) (E := E) (Q₁ := fun obj s₁ => ∃ led : Bool, obj = .ref s.heap.objs.size ∧ s₁ = { s with heap := s.heap.push { cls := .type "set", dict := none, data := .set #[] 0 (.fresh 0 0 led) } }) fun led => ⟨led, rfl, rfl⟩) fun r s₁ hr => ?_
  cases r with
  | error e => exact hr
  | ok fl =>
    cases fl with
    | ret obj =>
      obtain ⟨led, rfl, rfl⟩ := hr
      have hS : (s.heap.push { cls := .type "set", dict := none, data := .set #[] 0 (.fresh 0 0 led) }).get? s.heap.objs.size = some { cls := .type "set", dict := none, data := .set #[] 0 (.fresh 0 0 led) } := Heap.get?_push_size _ rfl
      have hT : Shared.TypeIs { s with heap := s.heap.push { cls := .type "set", dict := none, data := .set #[] 0 (.fresh 0 0 led) } } (.ref s.heap.objs.size) "set" := ⟨_, hS, rfl⟩
      have hli := PySem.F.called_set.init.lookup
      have hbi := PySem.F.called_set.init.bind (.ref s.heap.objs.size)
      repeat (any_goals (first | assumption | wp_step))

      refine codeAny_mono (codeAny_call_builtin (R := wants (fun r s₂ => r = .none ∧ ∃ h' tk, s₂ = { s with heap := h', toks := tk } ∧
          h'.SetOf (PySem.strKind prog w) s.heap.objs.size (fun k' => (fmet (fun i => xs.getD i Str.empty) items.size).any (· == k')) (fmet (fun i => xs.getD i Str.empty) items.size).length ∧
          (∀ b o, b < s.heap.objs.size → s.heap.get? b = some o → h'.get? b = some o)) E) PySem.F.called_set.init.plain PySem.F.entry_set_init (check_set_init_1 hT ?_)) fun r₂ s₂ hr₂ => ?_
      · obtain ⟨ol, hol, hcl, nl, hdl⟩ := hl
        obtain ⟨ocls, odict, odata, oslots⟩ := ol
        simp only at hcl hdl
        subst hcl; subst hdl
        have hol' : (s.heap.push { cls := .type "set", dict := none, data := .set #[] 0 (.fresh 0 0 led) }).get? l = some { cls := .type "list", dict := odict, data := .seq items nl, slots := oslots } := Heap.get?_push_of_some _ hol
        have hsls := PySem.F.sub_list_set
        have hslf := PySem.F.sub_list_frozenset
        have hne : (Value.type "list" == Value.type "dict") = false := by decide
        have hl1 : (s.heap.push { cls := .type "set", dict := none, data := .set #[] 0 (.fresh 0 0 led) }).IsList l items := ⟨_, hol', rfl, nl, rfl⟩
        unfold Builtin.«set.__init__» noKeywords Builtin.Frozenset.updateFrom
        generalize hPI : pyIter = PI
        wp_walk
        subst hPI

        refine wpAny_pyIter_list hl1 ?_
        refine wpAny_bind (wpAny_runValue ?_)
        have hlS : l < s.heap.objs.size := Heap.lt_size hol
        have hh3 : A.in1.in1.in1.handled = none := by simp [hh]
        have hneI : l ≠ (s.heap.push { cls := .type "set", dict := none, data := .set #[] 0 (.fresh 0 0 led) }).objs.size := by
          rw [Heap.size_push]; exact Nat.ne_of_lt (Nat.lt_succ_of_lt hlS)
        have hSf : s.heap.objs.size ∉ [(s.heap.push { cls := .type "set", dict := none, data := .set #[] 0 (.fresh 0 0 led) }).objs.size, l] := by
          rw [Heap.size_push]; simp only [List.mem_cons, List.mem_singleton, List.not_mem_nil, or_false, not_or]
          exact ⟨Nat.ne_of_lt (Nat.lt_succ_self _), Nat.ne_of_gt hlS⟩
        have hval : ∀ (i : Nat) (v : Value), items[i]? = some v → ∃ t, v = .str ((fun i => xs.getD i Str.empty) i) t := fun i v hv =>
          str_at hi i v (by rw [Array.getElem?_toList]; exact hv)
        refine set_loopK ((Walks.list hh3 _ l hneI items).toS) s.heap.objs.size
          hSf (fun i => xs.getD i Str.empty) hval hb (items.size - 0) 0 _ (by omega) (Nat.zero_le _)
          ⟨⟨_, Heap.get?_push_size _ rfl, rfl, rfl⟩, (hl1.push _)⟩ ?hS0 ?hR
        case hS0 =>
          have hget : ((s.heap.push { cls := .type "set", dict := none, data := .set #[] 0 (.fresh 0 0 led) }).push { cls := .type "list_iterator", data := .fields #[.ref l, .int 0 0] }).get? s.heap.objs.size
              = some { cls := .type "set", dict := none, data := .set #[] 0 (.fresh 0 0 led) } := Heap.get?_push_of_some _ hS
          exact PyProof.Rows.SetOf_congr ((PyProof.Rows.setObjOf_fresh (knd := PySem.strKind prog w) led).setOf hget (by unfold scanBound; omega)) (fun _ => rfl) rfl
        case hR =>
          intro s' hm hS'
          obtain ⟨h', g', d', tk', os'⟩ := s'
          have eg : g' = s.gens := hm.gens
          have ed : d' = s.drawn := hm.drawn
          have eo : os' = s.os := hm.os
          subst eg; subst ed; subst eo
          show wpAny _ _ _ _ _ _
          refine wpAny_pure ?_
          show wpAny _ _ (ret Value.none) _ _ _
          refine wpAny_pure ⟨rfl, h', tk', rfl, hS', fun b o hb e => ?_⟩
          have hb1 : b ≠ s.heap.objs.size := Nat.ne_of_lt hb
          have hb2 : b ≠ (s.heap.push { cls := .type "set", dict := none, data := .set #[] 0 (.fresh 0 0 led) }).objs.size := by
            rw [Heap.size_push]; exact Nat.ne_of_lt (Nat.lt_succ_of_lt hb)
          exact hm.heap b o (by simp only [List.mem_cons, List.mem_singleton, List.not_mem_nil, or_false, not_or]; exact ⟨hb1, hb2⟩) (Heap.get?_push_of_some _ (Heap.get?_push_of_some _ e))

      · cases r₂ with
        | error e => exact hr₂
        | ok fl₂ =>
          cases fl₂ with
          | ret r =>
            obtain ⟨rfl, h', tk, rfl, hS', hk'⟩ := hr₂
            repeat (any_goals (first | assumption | wp_step))
            exact h _ _ hS' hk'
          | _ => exact hr₂.elim
    | _ => exact hr.elim

end
theorem strs_vals : ∀ {ys : List Str} {us : List Value}, Vals (ys.map V.str) us → PyProof.Rows.StrsAre us ys
  | [], _, .nil => .nil
  | n :: ns, _, .cons r t => by
    obtain ⟨k, rfl⟩ := r
    exact .cons n k (strs_vals t)
def ddT (ys : List Str) : List Str := fmet (fun i => ys.getD i Str.empty) ys.length
def tLenSetT (K : PySem.W.Frag) (ta : TE) : TE := fun σ H Q => ta σ H fun x H1 => ∃ (l : Addr) (ys : List Str), x = .ref l ∧ SqL K H1 l (ys.map V.str) ∧ ys.length ≤ 4000 ∧ Q (.int ((ddT ys).length : Nat)) H1
theorem pe_lenSetT {X : Cx} {a : Expr} {ta : TE} {p p2 q pos : Pos} (hg : Gl X "len") (hm : X.mg "len" = none) (hg2 : Gl X "set") (hm2 : X.mg "set" = none) (ha : PE X a ta) (hc : X.calm = true := by rfl)
    (na : starEach [a] X.env = (false, eval a X.env) :: starEach [] X.env := by rfl) : PE X (.Call (.Name "len" p) [.Call (.Name "set" p2) [a] [] q] [] pos) (tLenSetT X.K ta) := by
  refine ⟨fun pins s σ H Q I h => ?_⟩
  refine Call_ (ld_blt I hg hm boot_len ?_)
  refine PyProof.Rows.callWith_builtin1 (PyProof.Rows.args_cons ?_ rfl) rfl rfl
  refine Call_ (ld_blt I hg2 hm2 boot_set ?_)
  refine PyProof.Rows.callWith_type1 (PyProof.Rows.args_cons (thn (ha.run pins s σ H _ I h) fun v s1 ⟨x, H1, I1, r1, q1⟩ => PyProof.Rows.args_nil ?_) na) na rfl
  obtain ⟨l, ys, rfl, hq, hl, q1⟩ := q1
  cases r1
  obtain ⟨its, r, pl, hz⟩ := I1.list hq
  have hlen : its.toArray.size = ys.length := by rw [List.size_toArray, ← r.length, List.length_map]
  refine set_callT (I1.ok.hd hc) pl.isList (by simpa using strs_vals r) (by rw [hlen]; unfold scanBound; omega) fun h' tk hS hk => ?_
  refine PyProof.Rows.args_nil ?_
  rw [hlen] at hS
  obtain ⟨o, es, ep, t, ho, hex, hd, _, _, _, hf, hn⟩ := hS
  have hle : (fmet (fun i => ys.getD i Str.empty) ys.length).length ≤ ys.length := fmet_le _ _
  have I2 : Inv X pins σ H1 { s1 with heap := h', toks := tk } := I1.kept fun b o e => hk b o (Heap.lt_size e) e
  exact call_len_set ho hex hd hf (by rw [hn] <;> omega) ⟨.int (ddT ys).length, H1, I2.tok _, ⟨_, by rw [hn]; rfl⟩, q1⟩
theorem k_lenSetT {X : Cx} {K : PySem.W.Frag} {a : Expr} {ta : TE} {p p2 q pos : Pos} (hK : X.K = K) (hg : Gl X "len") (hm : X.mg "len" = none) (hg2 : Gl X "set") (hm2 : X.mg "set" = none) (ha : PE X a ta) (hc : X.calm = true := by rfl)
    (na : starEach [a] X.env = (false, eval a X.env) :: starEach [] X.env := by rfl) : PE X (.Call (.Name "len" p) [.Call (.Name "set" p2) [a] [] q] [] pos) (tLenSetT K ta) := by subst hK; exact pe_lenSetT hg hm hg2 hm2 ha hc na
end RDT

namespace PR
/-! the parser of routines, plainly: texts are lists of codes -/
abbrev Tx := List Nat
def tx (s : String) : Tx := s.toList.map Char.toNat
def spc (c : Nat) (l : Tx) : List Tx := TL.spl [c] 0 [] l
/-- text.rpartition of one sign -/
def rpt (c : Nat) : Tx → Tx × Tx × Tx
  | [] => ([], [], [])
  | x :: r => match rpt c r with
    | (_, [], q) => if x = c then ([], [c], q) else ([], [], x :: q)
    | (p, d :: e, q) => (x :: p, d :: e, q)
theorem rpt_none {c : Nat} : ∀ {l : Tx}, c ∉ l → rpt c l = ([], [], l)
  | [], _ => rfl
  | x :: r, h => by
    rw [rpt, rpt_none (fun z => h (List.mem_cons_of_mem _ z))]
    exact if_neg fun e => h (by rw [e]; exact List.mem_cons_self)
theorem rpt_some {c : Nat} {q : Tx} (h : c ∉ q) : ∀ p : Tx, rpt c (p ++ c :: q) = (p, [c], q)
  | [] => by
    show rpt c (c :: q) = _
    rw [rpt, rpt_none h]
    exact if_pos rfl
  | x :: p => by
    show rpt c (x :: (p ++ c :: q)) = _
    rw [rpt, rpt_some h p]
def firstC : Tx := tx "abcdefghijklmnopqrstuvwxyz"
def charC : Tx := tx "abcdefghijklmnopqrstuvwxyz0123456789"
def resv : List Tx := ["routine", "script", "given", "let", "make", "drop", "if", "else", "end", "new", "round", "tell", "call", "next", "prev", "twin", "face", "corner", "some"].map tx
def links : List Tx := ["next", "prev", "twin"].map tx
def kinds : List Tx := ["face", "corner"].map tx
def labL : List Tx := ["new", "bear", "round", "some"].map tx
def half : Tx := tx "half"
def isWord (t : Tx) : Bool := decide (1 ≤ t.length) && (decide (t.length ≤ 8) && t.all fun c => decide (c ∈ charC))
def isName (t : Tx) : Bool := isWord t && ((match t with | c :: _ => decide (c ∈ firstC) | [] => false) && !decide (t ∈ resv))
abbrev Path := Tx × List Tx
def pathOf (t : Tx) : Option Path := match spc 46 t with
  | [] => none
  | n :: ls => if isWord n = true ∧ ls.length ≤ 4 ∧ (∀ l ∈ ls, l ∈ links) then some (n, ls) else none
abbrev Side := Tx × Path
def sideOf (t : Tx) : Option Side :=
  let r := rpt 46 t
  if r.2.1 ≠ [] ∧ r.2.2 ∈ kinds then (pathOf r.1).map fun p => (r.2.2, p) else (pathOf t).map fun p => ([], p)
structure Cond where
  kind : Tx
  left : Path
  right : Path
  eq : Bool
def condOf : List Tx → Option Cond
  | [a, o, b] => if o = tx "==" ∨ o = tx "!=" then
      match sideOf a, sideOf b with
      | some x, some y => if x.1 = y.1 then some ⟨x.1, x.2, y.2, decide (o = tx "==")⟩ else none
      | _, _ => none
    else none
  | _ => none
inductive Stm
  | rout
  | given (c : Cond)
  | iff (c : Cond) (to : Option Nat)
  | els (to : Option Nat)
  | fin
  | let_ (x : Tx) (p : Path)
  | take (x k : Tx) (p : Path)
  | make (x y : Tx)
  | drop (x : Tx) (k : Option Tx)
  | new (k x : Tx)
  | link (x f v : Tx)
  | bear (x f v : Tx)
  | round (x f v : Tx)
  | some_ (x : Tx) (k : Option Tx) (v : Tx)
  | tell (xs : List Tx)
structure Form where
  stm : Stm
  uses : List (Tx × Tx)
  bound : List (Tx × Tx)
def Form.good (f : Form) : Bool := decide ((∀ b ∈ f.bound, isName b.1 = true) ∧ (f.bound.map Prod.fst).Nodup ∧ ∀ u ∈ f.uses, isWord u.1 = true)
def letF : List Tx → Option Form
  | [_, x, e, s] => if e = tx "=" then (sideOf s).map fun d => if d.1 = [] then ⟨.let_ x d.2, [(d.2.1, half)], [(x, half)]⟩ else ⟨.take x d.1 d.2, [(d.2.1, half)], [(x, d.1)]⟩ else none
  | _ => none
def writeF (w v : Tx) : Option Form :=
  let r := rpt 46 w
  if r.2.2 = tx "next" ∨ r.2.2 = tx "prev" then some ⟨.link r.1 r.2.2 v, [(r.1, half), (v, half)], []⟩
  else if r.2.2 ∈ kinds then some ⟨.bear r.1 r.2.2 v, [(r.1, half), (v, r.2.2)], []⟩
  else if r.2.2 = tx "some" then some ⟨.some_ r.1 none v, [(r.1, tx "label"), (v, half)], []⟩
  else none
def roundF : List Tx → Option Form
  | [_, w, e, v] => let r := rpt 46 w
    if e = tx "=" ∧ r.2.2 ∈ kinds then some ⟨.round r.1 r.2.2 v, [(r.1, half), (v, r.2.2)], []⟩ else none
  | _ => none
def condF (h : Tx) (ws : List Tx) : Option Form := (condOf ws).map fun c => ⟨if h = tx "given" then .given c else .iff c none, [(c.left.1, half), (c.right.1, half)], []⟩
def tellF (ws : List Tx) : Option Form := if 1 ≤ ws.length ∧ ws.length ≤ 3 then some ⟨.tell ws, ws.map fun x => (x, half), []⟩ else none
def fw8 (h : Tx) (ws : List Tx) : Option Form := if ws.length = 2 ∧ ws.getD 0 [] = tx "=" then writeF h (ws.getD 1 []) else none
def fw7 (line h : Tx) (ws : List Tx) : Option Form := if line = tx "else" then some ⟨.els none, [], []⟩ else if line = tx "end" then some ⟨.fin, [], []⟩ else fw8 h ws
def fw6 (line h : Tx) (ws : List Tx) : Option Form := if h = tx "new" ∧ ws.length = 2 ∧ ws.getD 0 [] ∈ kinds then some ⟨.new (ws.getD 0 []) (ws.getD 1 []), [], [(ws.getD 1 [], ws.getD 0 [])]⟩ else fw7 line h ws
def fw5 (line h : Tx) (ws : List Tx) : Option Form := if h = tx "drop" ∧ ws.length = 1 then some ⟨.drop (ws.getD 0 []) none, [(ws.getD 0 [], tx "any")], []⟩ else fw6 line h ws
def fw4 (line h : Tx) (ws : List Tx) : Option Form := if h = tx "make" ∧ ws.length = 2 then some ⟨.make (ws.getD 0 []) (ws.getD 1 []), [], [(ws.getD 0 [], half), (ws.getD 1 [], half)]⟩ else fw5 line h ws
def fw3 (line h : Tx) (ws : List Tx) : Option Form := if h = tx "tell" then tellF ws else fw4 line h ws
def fw2 (line h : Tx) (ws : List Tx) : Option Form := if h = tx "round" then roundF (h :: ws) else fw3 line h ws
def fw1 (line h : Tx) (ws : List Tx) : Option Form := if h = tx "let" then letF (h :: ws) else fw2 line h ws
def fw0 (line h : Tx) (ws : List Tx) : Option Form := if h = tx "given" ∨ h = tx "if" then condF h ws else fw1 line h ws
def formW (line : Tx) : List Tx → Option Form
  | [] => none
  | h :: ws => fw0 line h ws
def formOf (line : Tx) : Option Form := formW line (spc 32 line)
def rightK (k need : Tx) : Bool := if need = tx "label" then decide (k ∈ kinds) else decide (need = k ∨ need = tx "any")
def firstL (line word : Tx) : Option (List Tx) := match spc 32 line with
  | [] => none
  | h :: ns => if h = word ∧ 2 ≤ ns.length ∧ ns.length ≤ 4 ∧ (∀ n ∈ ns, isName n = true) ∧ (ns.drop 1).Nodup then some ns else none
/-! scopes: each a list of names and kinds, the last one stored first found -/
abbrev Scope := List (Tx × Tx)
def kindIn (s : Scope) (x : Tx) : Option Tx := (s.find? fun e => decide (e.1 = x)).map (·.2)
def kindOf : List Scope → Tx → Option Tx
  | [], _ => none
  | s :: r, x => match kindIn s x with
    | some k => some k
    | none => kindOf r x
inductive Err
  | bad (n : Nat)
  | unk (n : Nat) (x : Tx)
  | knd (n : Nat) (x : Tx)
def check (sc : List Scope) (n : Nat) : List (Tx × Tx) → Option Err
  | [] => none
  | u :: r => match kindOf sc u.1 with
    | none => some (.unk n u.1)
    | some k => if rightK k u.2 = true then check sc n r else some (.knd n u.1)
def isFree (sc : List Scope) (f : Form) : Bool := f.bound.all fun b => (kindOf sc b.1).isNone
structure Rdr where
  stms : List Stm
  blocks : List (Nat × Bool)
  lab : Bool
  scopes : List Scope
def headS : Stm → String
  | .rout => "routine"
  | .given _ => "given"
  | .iff _ _ => "if"
  | .els _ => "else"
  | .fin => "end"
  | .let_ _ _ => "let"
  | .take _ _ _ => "take"
  | .make _ _ => "make"
  | .drop _ _ => "drop"
  | .new _ _ => "new"
  | .link _ _ _ => "link"
  | .bear _ _ _ => "bear"
  | .round _ _ _ => "round"
  | .some_ _ _ _ => "some"
  | .tell _ => "tell"
def isLab : Stm → Bool
  | .new _ _ | .bear _ _ _ | .round _ _ _ | .some_ _ _ _ => true
  | _ => false
def mayStand (r : Rdr) (n at_ : Nat) : Stm → Bool
  | .given _ => match r.stms.getLast? with
    | some .rout => true
    | some (.given _) => true
    | _ => false
  | .tell _ => decide (at_ + 1 = n) && r.blocks.isEmpty
  | .els _ => match r.blocks.getLast? with
    | some b => !b.2
    | none => false
  | .fin => !r.blocks.isEmpty
  | .iff c _ => decide (r.blocks.length < 3) && ((decide (c.kind = []) && (c.left.2.isEmpty && c.right.2.isEmpty)) || !r.lab)
  | .drop _ _ => true
  | s => isLab s || !r.lab
def resolve (sc : List Scope) : Stm → Stm
  | .drop x _ => .drop x (kindOf sc x)
  | .some_ x _ v => .some_ x (kindOf sc x) v
  | s => s
def retarget (k : Nat) : Stm → Stm
  | .iff c _ => .iff c (some k)
  | .els _ => .els (some k)
  | s => s
def labels : Stm → Bool
  | .drop _ k => decide (k ≠ some half)
  | s => isLab s
def add (r : Rdr) (at_ : Nat) (s : Stm) : Rdr :=
  let lab := r.lab || labels s
  let stms := r.stms ++ [s]
  match s with
  | .iff _ _ => ⟨stms, r.blocks ++ [(at_, false)], lab, r.scopes ++ [[]]⟩
  | .els _ => ⟨stms.modify ((r.blocks.getLast?.getD (0, false)).1) (retarget (at_ + 1)), r.blocks.dropLast ++ [(at_, true)], lab, r.scopes.dropLast ++ [[]]⟩
  | .fin => ⟨stms.modify ((r.blocks.getLast?.getD (0, false)).1) (retarget at_), r.blocks.dropLast, lab, r.scopes.dropLast⟩
  | _ => ⟨stms, r.blocks, lab, r.scopes⟩
def bindS (sc : List Scope) (b : List (Tx × Tx)) : List Scope := sc.dropLast ++ [sc.getLast?.getD [] ++ b]
def isDropH (lab : Bool) : Stm → Bool
  | .drop _ k => decide (k = some half) && lab
  | _ => false
def readLine (r : Rdr) (n off at_ : Nat) (line : Tx) : Except Err Rdr :=
  match formOf line with
  | none => .error (.bad (off + at_ + 1))
  | some f =>
    if (decide (60 < at_) || (!f.good || (!mayStand r n at_ f.stm || !isFree r.scopes f))) = true then .error (.bad (off + at_ + 1))
    else match check r.scopes (off + at_ + 1) f.uses with
      | some e => .error e
      | none =>
        if isDropH r.lab (resolve r.scopes f.stm) = true then .error (.bad (off + at_ + 1))
        else let r2 := add r at_ (resolve r.scopes f.stm); .ok { r2 with scopes := bindS r2.scopes f.bound }
def readLines (n off : Nat) : Nat → Rdr → List Tx → Except Err Rdr
  | _, r, [] => .ok r
  | at_, r, l :: ls => match readLine r n off at_ l with
    | .error e => .error e
    | .ok r2 => readLines n off (at_ + 1) r2 ls
structure Rt where
  names : List Tx
  told : List Tx
  lines : List Tx
  stms : List Stm
def toldOf : List Stm → List Tx := fun l => match l.getLast? with
  | some (.tell xs) => xs
  | _ => []
def read (lines : List Tx) (off : Nat) : Except Err Rt := match lines with
  | [] => .error (.bad (off + 1))
  | l :: ls => match firstL l (tx "routine") with
    | none => .error (.bad (off + 1))
    | some names => match readLines lines.length off 1 ⟨[.rout], [], false, [(names.drop 1).map fun x => (x, half)]⟩ ls with
      | .error e => .error e
      | .ok r => if r.blocks.isEmpty = true then .ok ⟨names, toldOf r.stms, lines, r.stms⟩ else .error (.bad (off + lines.length + 1))
def readRoutine (t : Tx) : Except Err Rt := read (spc 10 t) 0
end PR

namespace RD
open PySem PySem.Spec PyProof.Rows L2 SX PR
/-! texts of the parser -/
theorem lit (s : String) : Str.ofString s = S (tx s) := TL.ext_tl (TL.tl_ofString s)
theorem eqV_str (a b : Str) : eqV (.str a) (.str b) = decide (a = b) := by
  show (a == b) = _
  by_cases h : a = b
  · subst h; simp
  · simp [h]
theorem in_txs (t : Tx) : ∀ ls : List Tx, inV (vst t) (vsts ls) = decide (t ∈ ls)
  | [] => rfl
  | a :: ls => by
    have ih := in_txs t ls
    unfold inV vsts at ih ⊢
    rw [List.map_cons, List.any_cons, ih]
    have e : eqV (vst a) (vst t) = decide (a = t) := by
      show eqV (.str (S a)) (.str (S t)) = _
      rw [eqV_str, dstr]
    rw [e]
    by_cases h : a = t
    · subst h; simp
    · have : ¬ t = a := fun z => h z.symm
      simp [h, this]
theorem flat_txs (ls : List Tx) : (vsts ls).all flatV = true := by
  rw [List.all_eq_true]
  intro x hx
  unfold vsts at hx
  obtain ⟨l, _, rfl⟩ := List.mem_map.mp hx
  rfl
theorem pre1 {c : Nat} {l : Tx} {i : Nat} : TL.pre [c] (l.drop i) = true ↔ l[i]? = some c := by
  unfold TL.pre
  have e : l[i]? = (l.drop i)[0]? := by rw [List.getElem?_drop, Nat.add_zero]
  rw [e]
  cases l.drop i with
  | nil => simp
  | cons a r => simp
theorem rpartition_S (x : Tx) (c : Nat) : Txt.rpartition (S x) (S [c]) = (S (rpt c x).1, S (rpt c x).2.1, S (rpt c x).2.2) := by
  have hy : TL.tl (S [c]) ≠ [] := by
    show [c] ≠ []
    simp
  have ai : ∀ i, StrLaws.At (S x) (S [c]) (S x).length i ↔ x[i]? = some c := fun i => by
    rw [TL.at_iff hy i]
    exact pre1
  unfold Txt.rpartition
  rcases StrLaws.last_spec (S x) (S [c]) with ⟨e, hn⟩ | ⟨i, e, hi, hk⟩
  · rw [e, rpt_none (c := c) (l := x) (fun hm => by
      obtain ⟨i, hi, he⟩ := List.getElem_of_mem hm
      exact hn i ((ai i).mpr (by rw [List.getElem?_eq_getElem hi, he])))]
    rfl
  · rw [e]
    have h1 := (ai i).mp hi
    obtain ⟨hlt, he⟩ := List.getElem?_eq_some_iff.mp h1
    have hx : x = x.take i ++ c :: x.drop (i + 1) := by
      rw [← he, ← List.drop_eq_getElem_cons hlt, List.take_append_drop]
    have hq : c ∉ x.drop (i + 1) := fun hm => by
      obtain ⟨j, hj, hje⟩ := List.getElem_of_mem hm
      rw [List.getElem_drop] at hje
      rw [List.length_drop] at hj
      exact hk (i + 1 + j) (by omega) ((ai _).mpr (by rw [List.getElem?_eq_getElem (by omega), hje]))
    have er : rpt c x = (x.take i, [c], x.drop (i + 1)) := by
      have := rpt_some hq (x.take i)
      rw [← hx] at this
      exact this
    rw [er]
    refine Prod.ext ?_ (Prod.ext rfl ?_)
    · refine TL.ext_tl ?_
      show TL.tl (Builtin.Str.strSub (S x) 0 i) = x.take i
      rw [TL.tl_strSub]
      show List.take (i - 0) (List.drop 0 x) = _
      rw [Nat.sub_zero, List.drop_zero]
    · refine TL.ext_tl ?_
      show TL.tl (Builtin.Str.strSub (S x) (i + (S [c]).length) (S x).length) = x.drop (i + 1)
      rw [TL.tl_strSub, S_len, S_len]
      show List.take (x.length - (i + 1)) (List.drop (i + 1) x) = _
      exact List.take_of_length_le (by rw [List.length_drop]; exact Nat.le_refl _)
section
variable {σ : L2.St} {H : Hp} {Q : VK} {QB : Bool → Hp → Prop} {nx bk ct : L2.St → Hp → Prop} {rt : VK} {te to : TE} {t : TS} {K : PySem.W.Frag}
theorem inT {a : Addr} {x : Tx} {ls : List Tx} (h : SqT K H a (vsts ls)) (q : Q (.bl (decide (x ∈ ls))) H) : rIn K false (vst x) (.ref a) H Q := ⟨a, _, rfl, .inr h, rfl, flat_txs ls, by rw [in_txs]; exact q⟩
theorem ninT {a : Addr} {x : Tx} {ls : List Tx} (h : SqT K H a (vsts ls)) (q : Q (.bl (!decide (x ∈ ls))) H) : rIn K true (vst x) (.ref a) H Q := ⟨a, _, rfl, .inr h, rfl, flat_txs ls, by rw [in_txs]; exact q⟩
theorem inLt {a : Addr} {x : Tx} {ls : List Tx} (h : SqL K H a (vsts ls)) (q : Q (.bl (decide (x ∈ ls))) H) : rIn K false (vst x) (.ref a) H Q := ⟨a, _, rfl, .inl h, rfl, flat_txs ls, by rw [in_txs]; exact q⟩
theorem cstT {s : String} (h : Q (vst (tx s)) H) : tC (.str (Str.ofString s)) σ H Q := by
  show Q (.str (Str.ofString s)) H
  rw [lit]
  exact h
theorem eqTx {a b : Tx} (q : Q (.bl (decide (a = b))) H) : rEq (vst a) (vst b) H Q := eqS (by rw [dstr]; exact q)
theorem neTx {a b : Tx} (q : Q (.bl (!decide (a = b))) H) : rNe (vst a) (vst b) H Q := neS (by rw [dstr]; exact q)
theorem truTs {a : Addr} {xs : List V} {P : Bool → Prop} (h : SqT K H a xs) (q : P (!xs.isEmpty)) : ∃ k, TruV K (.ref a) H k ∧ P k := ⟨_, .inr (.inl ⟨_, h, rfl⟩), q⟩
theorem truSx {x : Tx} {P : Bool → Prop} (hl : x.length ≤ 1000000) (q : P (!x.isEmpty)) : ∃ k, TruV K (vst x) H k ∧ P k := by
  refine ⟨!x.isEmpty, ⟨by rw [S_len]; exact Nat.le_trans hl (by decide), ?_⟩, q⟩
  rw [S_len]
  cases x with
  | nil => rfl
  | cons c r =>
    show true = _
    rw [List.length_cons]
    have : (((r.length + 1 : Nat) : Int) != 0) = true := by
      rw [bne_iff_ne]
      omega
    exact this.symm
theorem truS0 {P : Bool → Prop} (q : P false) : ∃ k, TruV K (vst []) H k ∧ P k := truSx (by simp) q
theorem truS1 {c : Nat} {r : Tx} {P : Bool → Prop} (hl : (c :: r).length ≤ 1000000) (q : P true) : ∃ k, TruV K (vst (c :: r)) H k ∧ P k := truSx hl q
/-- a comprehension over a text -/
theorem lcS {g : TG} {tt : TT} {vs : List Nat} {l : Tx} (hz : l.length ≤ 1000000) (p : Nat → Bool) (f : Nat → V)
    (turn : ∀ (i : Nat) c H1 (Q' : VK) (R' : Hp → Prop), l[i]? = some c → Same H H1 → (p c = true → ∀ H4, Same H1 H4 → Q' (f c) H4) → (p c = false → ∀ H4, Same H1 H4 → R' H4) →
      g (vst [c]) (wipe σ vs) H1 fun σ2 H3 => wipe σ2 vs = wipe σ vs ∧ tt σ2 H3 fun b H5 => if b = true then te σ2 H5 Q' else R' H5)
    (hd : ∀ H' q, H q = none → Same H H' → H' q = some (.lst (pick p f l)) → Q (.ref q) H') :
    ∃ z, vst l = .str z ∧ LR (Its z) g tt te vs σ H Q := by
  have e : (S l).cps.size = l.length := by simp
  refine ⟨S l, rfl, lcAny (walk_str (z := S l)) l e.symm (by rw [e]; exact Nat.le_trans hz (by decide)) p f trivial (fun _ _ => trivial) (fun i H1 x H2 s y => ?_) (fun i b x H1 H2 Q' R' hb s y kT kF => ?_) hd⟩
  · obtain ⟨rfl, _⟩ := y
    exact Same.refl _
  · obtain ⟨e2, c, hc, rfl⟩ := y
    subst e2
    have hc' : l[i]? = some c := by rw [← hc]; simp
    rw [hc'] at hb
    cases hb
    exact turn i b _ Q' R' hc' s kT kF
/-- a comprehension over a list of texts -/
theorem lcTx {g : TG} {tt : TT} {vs : List Nat} {a : Addr} {ls : List Tx} (hq : SqL K H a (vsts ls)) (hz : ls.length ≤ 1000000) (p : Tx → Bool) (f : Tx → V)
    (turn : ∀ (i : Nat) x H1 (Q' : VK) (R' : Hp → Prop), ls[i]? = some x → Same H H1 → (p x = true → ∀ H4, Same H1 H4 → Q' (f x) H4) → (p x = false → ∀ H4, Same H1 H4 → R' H4) →
      g (vst x) (wipe σ vs) H1 fun σ2 H3 => wipe σ2 vs = wipe σ vs ∧ tt σ2 H3 fun b H5 => if b = true then te σ2 H5 Q' else R' H5)
    (hd : ∀ H' q, H q = none → Same H H' → H' q = some (.lst (pick p f ls)) → Q (.ref q) H') :
    ∃ a', V.ref a = .ref a' ∧ (∃ ys, SqL K H a' ys) ∧ LR (Itl K a') g tt te vs σ H Q := by
  refine ⟨a, rfl, ⟨_, hq⟩, lcAny (walk_list (K := K) (a := a) (xs := vsts ls)) ls (vsts_len ls).symm (by rw [vsts_len]; exact Nat.le_trans hz (by decide)) p f hq (fun H' s => s.seq hq) (fun i H1 x H2 s y => ?_) (fun i b x H1 H2 Q' R' hb s y kT kF => ?_) hd⟩
  · obtain ⟨rfl, _⟩ := y
    exact Same.refl _
  · obtain ⟨rfl, y⟩ := y
    obtain ⟨l, e1, rfl⟩ := of_vsts y
    rw [e1] at hb
    cases hb
    exact turn i b _ Q' R' e1 s kT kF
theorem lenTx {x : Tx} (h : x.length ≤ 1000000) (q : Q (.int (x.length : Nat)) H) : rLenS [vst x] H Q := lenS (by rw [S_len]; exact Nat.le_trans h (by decide)) (by rw [S_len]; exact q)
theorem rpl {x : Tx} {c : Nat} (h : x.length ≤ 1000000) (q : ∀ p, H p = none → Q (.ref p) (upd H p (.tup [vst (rpt c x).1, vst (rpt c x).2.1, vst (rpt c x).2.2]))) : rRpart (vst x) [vst [c]] H Q := by
  refine ⟨S x, S [c], rfl, rfl, rfl, by rw [S_len]; exact Nat.le_trans h (by decide), fun p np => ?_⟩
  rw [rpartition_S]
  exact q p np
theorem gst {a : Addr} {i j : Nat} {n : Tx} {ls : List Tx} {QG : L2.St → Hp → Prop} (h : SqL K H a (vsts (n :: ls))) (hl : ls.length ≤ 16000) (q : ∀ D, H D = none → gName i (vst n) σ (upd H D (.lst (vsts ls))) fun σ1 H1 => gName j (.ref D) σ1 H1 QG) :
    gStar K (gCons (gName i) (gCons (gName j) gNil)) (.ref a) σ H QG :=
  ⟨a, vst n, vsts ls, rfl, .inl h, by rw [vsts_len]; exact hl, fun D nD => ⟨vst n, [.ref D], rfl, .ref D, [], rfl, rfl, q D nD⟩⟩
end
theorem tdot : tx "." = [46] := by decide +kernel
theorem tspc : tx " " = [32] := by decide +kernel
theorem tnl : tx "\n" = [10] := by decide +kernel
theorem temp : tx "" = [] := by decide +kernel
theorem spl1 {c : Nat} : ∀ (l acc : Tx), (TL.spl [c] 0 acc l).length ≤ l.length + 1 ∧ TL.spl [c] 0 acc l ≠ [] ∧ ∀ p ∈ TL.spl [c] 0 acc l, p.length ≤ acc.length + l.length
  | [], acc => by
    rw [TL.spl_nil]
    refine ⟨Nat.le_refl _, by simp, fun p hp => ?_⟩
    rw [List.mem_singleton.mp hp]
    exact Nat.le_refl _
  | x :: r, acc => by
    cases h : TL.pre [c] (x :: r) with
    | true =>
      rw [TL.spl_hit h]
      have ih := spl1 (c := c) r []
      refine ⟨Nat.succ_le_succ ih.1, by simp, fun p hp => ?_⟩
      rcases List.mem_cons.mp hp with e | hp
      · rw [e, List.length_cons]; omega
      · have := ih.2.2 p hp
        rw [List.length_nil] at this
        rw [List.length_cons]; omega
    | false =>
      rw [TL.spl_miss h]
      have ih := spl1 (c := c) r (acc ++ [x])
      refine ⟨Nat.le_succ_of_le ih.1, ih.2.1, fun p hp => ?_⟩
      have := ih.2.2 p hp
      rw [List.length_append, List.length_singleton] at this
      rw [List.length_cons]; omega
theorem spc_cnt (c : Nat) (t : Tx) : (spc c t).length ≤ t.length + 1 := (spl1 t []).1
theorem spc_ne (c : Nat) (t : Tx) : spc c t ≠ [] := (spl1 t []).2.1
theorem spc_len (c : Nat) (t p : Tx) (h : p ∈ spc c t) : p.length ≤ t.length := by
  have := (spl1 t []).2.2 p h
  rw [List.length_nil, Nat.zero_add] at this
  exact this
theorem rpt_len (c : Nat) : ∀ t : Tx, (rpt c t).1.length ≤ t.length ∧ (rpt c t).2.1.length ≤ t.length ∧ (rpt c t).2.2.length ≤ t.length
  | [] => ⟨Nat.le_refl _, Nat.le_refl _, Nat.le_refl _⟩
  | x :: r => by
    have ih := rpt_len c r
    rw [rpt]
    revert ih
    rcases rpt c r with ⟨p, d, q⟩
    intro ih
    cases d with
    | nil =>
      by_cases h : x = c
      · simp only [h, if_true, List.length_cons, List.length_nil] at ih ⊢
        omega
      · simp only [h, if_false, List.length_cons, List.length_nil] at ih ⊢
        omega
    | cons d e =>
      simp only [List.length_cons] at ih ⊢
      omega
theorem fold_le : ∀ (ys acc : List Str), (ys.foldl RDT.fstep acc).length ≤ acc.length + ys.length
  | [], acc => Nat.le_refl _
  | y :: ys, acc => by
    have ih := fold_le ys (RDT.fstep acc y)
    rw [RDT.fstep_len] at ih
    rw [List.foldl_cons, List.length_cons]
    split at ih <;> omega
theorem fold_eq : ∀ (ys acc : List Str), (ys.foldl RDT.fstep acc).length = acc.length + ys.length ↔ (ys.Nodup ∧ ∀ y ∈ ys, y ∉ acc)
  | [], acc => by simp
  | y :: ys, acc => by
    rw [List.foldl_cons, List.length_cons]
    by_cases h : acc.any (· == y) = true
    · have e : RDT.fstep acc y = acc := if_pos h
      rw [e]
      have := fold_le ys acc
      have hm : y ∈ acc := by
        obtain ⟨z, hz, he⟩ := List.any_eq_true.mp h
        rw [← eq_of_beq he]
        exact hz
      constructor
      · intro z; omega
      · intro z; exact absurd hm (z.2 y List.mem_cons_self)
    · have e : RDT.fstep acc y = acc ++ [y] := if_neg h
      have hm : y ∉ acc := fun z => h (List.any_eq_true.mpr ⟨y, z, beq_self_eq_true y⟩)
      rw [e]
      have ih := fold_eq ys (acc ++ [y])
      rw [List.length_append, List.length_singleton] at ih
      rw [show acc.length + (ys.length + 1) = acc.length + 1 + ys.length by omega, ih, List.nodup_cons]
      constructor
      · rintro ⟨h1, h2⟩
        refine ⟨⟨fun z => h2 y z (by simp), h1⟩, fun x hx => ?_⟩
        rcases List.mem_cons.mp hx with rfl | hx
        · exact hm
        · exact fun z => h2 x hx (List.mem_append_left _ z)
      · rintro ⟨⟨h1, h2⟩, h3⟩
        refine ⟨h2, fun x hx z => ?_⟩
        rcases List.mem_append.mp z with z | z
        · exact h3 x (List.mem_cons_of_mem _ hx) z
        · rw [List.mem_singleton.mp z] at hx
          exact h1 hx
theorem ddT_fold (ys : List Str) : RDT.ddT ys = ys.foldl RDT.fstep [] := by
  unfold RDT.ddT RDT.fmet
  congr 1
  apply List.ext_getElem?
  intro i
  rw [List.getElem?_map]
  by_cases h : i < ys.length
  · rw [List.getElem?_range h, List.getElem?_eq_getElem h]
    show some (ys.getD i Str.empty) = _
    rw [List.getD_eq_getElem?_getD, List.getElem?_eq_getElem h]
    rfl
  · rw [List.getElem?_eq_none (by rw [List.length_range]; omega), List.getElem?_eq_none (by omega)]
    rfl
theorem nodup_S {ls : List Tx} : (ls.map S).Nodup ↔ ls.Nodup := by
  constructor
  · intro h
    exact List.Pairwise.imp (fun {a b} hab z => hab (congrArg S z)) (List.pairwise_map.mp h)
  · intro h
    exact List.pairwise_map.mpr (List.Pairwise.imp (fun {a b} hab z => hab (S_inj z)) h)
theorem dd_lt (ls : List Tx) : decide (((RDT.ddT (ls.map S)).length : Int) < ((ls.length : Nat) : Int)) = !decide ls.Nodup := by
  rw [ddT_fold]
  have h1 := fold_le (ls.map S) []
  have h2 := fold_eq (ls.map S) []
  rw [List.length_nil, Nat.zero_add, List.length_map] at h1 h2
  by_cases h : ls.Nodup
  · have := h2.mpr ⟨nodup_S.mpr h, fun _ _ => by simp⟩
    rw [decide_eq_true h, decide_eq_false (by omega)]
    rfl
  · have hne : ((ls.map S).foldl RDT.fstep []).length ≠ ls.length := fun z => h (nodup_S.mp (h2.mp z).1)
    rw [decide_eq_false h, decide_eq_true (by omega)]
    rfl
theorem lst_set {K : PySem.W.Frag} {ta : TE} {σ : L2.St} {H : Hp} {Q : VK} (h : ta σ H fun x H1 => ∃ (l : Addr) (ys : List Str), x = .ref l ∧ SqL K H1 l (ys.map V.str) ∧ ys.length ≤ 4000 ∧ Q (.int ((RDT.ddT ys).length : Nat)) H1) : RDT.tLenSetT K ta σ H Q := h
theorem setTx {K : PySem.W.Frag} {H : Hp} {Q : VK} {a : Addr} {ls : List Tx} (h : SqL K H a (vsts ls)) (hz : ls.length ≤ 4000) (q : Q (.int ((RDT.ddT (ls.map S)).length : Nat)) H) :
    ∃ (l : Addr) (ys : List Str), V.ref a = .ref l ∧ SqL K H l (ys.map V.str) ∧ ys.length ≤ 4000 ∧ Q (.int ((RDT.ddT ys).length : Nat)) H := ⟨a, ls.map S, rfl, by rw [List.map_map]; exact h, by rw [List.length_map]; exact hz, q⟩
theorem paired_at {α β : Type} {R : α → β → Prop} : ∀ {l : List α} {m : List β} {i : Nat} {a : α} {b : β}, Paired R l m → l[i]? = some a → m[i]? = some b → R a b
  | _, _, 0, _, _, .cons r _, h1, h2 => by cases h1; cases h2; exact r
  | _, _, i + 1, _, _, .cons _ t, h1, h2 => paired_at t h1 h2
theorem paired_len {α β : Type} {R : α → β → Prop} : ∀ {l : List α} {m : List β}, Paired R l m → l.length = m.length
  | _, _, .nil => rfl
  | _, _, .cons _ t => congrArg Nat.succ (paired_len t)
end RD

namespace RD
open PySem PySem.Spec PyProof.Rows L2 SX PR Pf
/-! dicts from texts to texts -/
def kvT (e : Tx × Tx) : Key × V := (Sum.inr (S e.1), vst e.2)
theorem val_kvT (x : Tx) : ∀ s : List (Tx × Tx), valV (s.map kvT) (Sum.inr (S x) : Key) = (kindIn s x).map vst
  | [] => rfl
  | e :: s => by
    rw [List.map_cons]
    unfold kindIn
    by_cases h : e.1 = x
    · rw [List.find?_cons_of_pos (by simpa using h)]
      rw [valV_pos (p := kvT e) (by show Sum.inr (S e.1) = _; rw [h])]
      rfl
    · rw [List.find?_cons_of_neg (by simpa using h), valV_neg (fun z => h (S_inj (Sum.inr.inj z))), val_kvT x s]
      rfl
def DR (J : It) (g : TG) (tt : TT) (tk tv : TE) (vs : List Nat) (σ : L2.St) (H1 : Hp) (Q : VK) : Prop := ∀ D, H1 D = none → ∃ W : Nat → Nat → Hp → Prop, (∃ m, W 0 m (upd H1 D (.dK []))) ∧ ∀ i m H, W i m H →
  (J.stop i H ∧ Q (.ref D) H) ∨ (J.go i H ∧ ∃ Nx : Hp → Prop, (∀ H', Nx H' → ∃ m', m' < m ∧ W (i + 1) m' H') ∧ ∀ x H', J.yld i H x H' → g x (wipe σ vs) H' fun σ2 H2 => wipe σ2 vs = wipe σ vs ∧ tt σ2 H2 fun b H3 =>
    if b = true then tk σ2 H3 fun y H4 => tv σ2 H4 fun z H5 => ∃ kvs k, y = kV k ∧ H5 D = some (.dK kvs) ∧ kvs.length < sizeLine ∧ Nx (upd H5 D (.dK (putK kvs k z))) else Nx H3)
theorem dc_ {wi : TI} {g : TG} {tt : TT} {tk tv : TE} {vs : List Nat} {σ : L2.St} {H : Hp} {Q : VK} (h : wi σ H fun J H1 => DR J g tt tk tv vs σ H1 Q) : tDc wi g tt tk tv vs σ H Q := h
theorem new_kvT {s : List (Tx × Tx)} {x : Tx} (h : x ∉ s.map Prod.fst) : valV (s.map kvT) (Sum.inr (S x) : Key) = none := by
  rw [val_kvT]
  unfold kindIn
  rw [List.find?_eq_none.mpr]
  · rfl
  · intro e he z
    exact h (List.mem_map.mpr ⟨e, he, of_decide_eq_true z⟩)
/-- {x: c for x in a list of texts}, all unlike -/
theorem dcTx {g : TG} {tt : TT} {tk tv : TE} {vs : List Nat} {σ : L2.St} {H : Hp} {Q : VK} {K : PySem.W.Frag} {a : Addr} {ls : List Tx} (val : Tx) (hq : SqL K H a (vsts ls)) (hz : ls.length ≤ 10000) (hk : ls.Nodup)
    (turn : ∀ (j : Nat) (x : Tx) (H1 : Hp) (X : V → V → Hp → Prop) (R' : Hp → Prop), ls[j]? = some x → X (vst x) (vst val) H1 →
      g (vst x) (wipe σ vs) H1 fun σ2 H2 => wipe σ2 vs = wipe σ vs ∧ tt σ2 H2 fun b H3 => if b = true then tk σ2 H3 fun y H4 => tv σ2 H4 fun z H5 => X y z H5 else R' H3)
    (q : ∀ D, H D = none → Q (.ref D) (upd H D (.dK ((ls.map fun x => (x, val)).map kvT)))) : ∃ a', V.ref a = .ref a' ∧ (∃ ys, SqL K H a' ys) ∧ DR (Itl K a') g tt tk tv vs σ H Q := by
  refine ⟨a, rfl, ⟨_, hq⟩, fun D hD => ?_⟩
  have w := walk_list (K := K) (a := a) (xs := vsts ls)
  rw [vsts_len] at w
  refine ⟨fun j m H' => m = ls.length - j ∧ j ≤ ls.length ∧ H' = upd H D (.dK (((ls.take j).map fun x => (x, val)).map kvT)), ⟨ls.length, by simp, Nat.zero_le _, rfl⟩, ?_⟩
  rintro j m H' ⟨rfl, hj, rfl⟩
  have hs : ∀ o, SqL K (upd H D o) a (vsts ls) := fun o => (same_new hD).seq hq
  rcases Nat.lt_or_ge j ls.length with hl | hl
  · have hp : ls[j]? = some ls[j] := List.getElem?_eq_getElem hl
    refine .inr ⟨w.goes j _ hl (hs _), fun H2 => H2 = upd H D (.dK (((ls.take (j + 1)).map fun x => (x, val)).map kvT)), fun H2 e => ⟨ls.length - (j + 1), by omega, rfl, by omega, e⟩, fun x H2 yy => ?_⟩
    obtain ⟨rfl, y⟩ := w.yields j _ x H2 hl (hs _) yy
    clear yy
    rw [vsts_at hp] at y
    cases y
    refine turn j ls[j] _ _ _ hp ⟨_, Sum.inr (S ls[j]), rfl, upd_same, by rw [List.length_map, List.length_map, List.length_take]; exact szt (by omega), ?_⟩
    have tk1 := RD.take_one hp
    have hnew : ls[j] ∉ ((ls.take j).map fun x => (x, val)).map Prod.fst := by
      rw [List.map_map]
      have e : (ls.take j).map (Prod.fst ∘ fun x => (x, val)) = ls.take j := by
        rw [show (Prod.fst ∘ fun x : Tx => (x, val)) = id from rfl, List.map_id]
      rw [e]
      have hn2 : (ls.take (j + 1)).Nodup := hk.sublist (List.take_sublist _ _)
      rw [tk1, List.nodup_append] at hn2
      exact fun z => hn2.2.2 _ z _ (by simp) rfl
    rw [putK_new _ (new_kvT hnew)]
    funext b
    by_cases hb : b = D
    · subst hb
      rw [upd_same, upd_same, tk1, List.map_append, List.map_append]
      rfl
    · rw [upd_ne hb, upd_ne hb, upd_ne hb]
  · left
    have e : j = ls.length := by omega
    subst e
    refine ⟨w.stops _ (hs _), ?_⟩
    rw [List.take_length]
    exact q D hD
theorem getT {H : Hp} {a : Addr} {s : List (Tx × Tx)} {x : Tx} (h : H a = some (.dK (s.map kvT))) : DGet H a (vst x) ((kindIn s x).map vst) := .inl ⟨_, Sum.inr (S x), .inl h, rfl, (val_kvT x s).symm⟩
end RD

namespace RD
open PySem PySem.Spec PyProof.Rows L2
def rBoolL (K : PySem.W.Frag) : List V → Hp → VK → Prop := fun xs H Q => ∃ (a : Addr) (zs : List V), xs = [.ref a] ∧ SqL K H a zs ∧ Q (.bl (!zs.isEmpty)) H
theorem k_boolL {X : Cx} {K : PySem.W.Frag} (h : X.K = K) : CallR X (.type "bool") (rBoolL K) := by subst h; exact call_boolL
theorem k_notT {X : Cx} {K : PySem.W.Frag} {a : Expr} {ta : TE} {pos : Pos} (h : X.K = K) (ha : PE X a ta) : PE X (.UnaryOp .Not a pos) (tNotT K ta) := by subst h; exact pe_notT ha
theorem k_slA {X : Cx} {K : PySem.W.Frag} (h : X.K = K) : SlR X (rSlA K) := by subst h; exact sl_tupA
section
variable {σ : L2.St} {H : Hp} {Q : VK} {K : PySem.W.Frag}
theorem boolL {a : Addr} {zs : List V} (h : SqL K H a zs) (q : Q (.bl (!zs.isEmpty)) H) : rBoolL K [.ref a] H Q := ⟨a, zs, rfl, h, q⟩
theorem notT {ta : TE} (h : ta σ H fun x H1 => ∃ k, TruV K x H1 k ∧ Q (.bl (!k)) H1) : tNotT K ta σ H Q := h
end
end RD

namespace PR
/-! the reader's state, plainly -/
def isIf : Stm → Bool
  | .iff _ _ => true
  | _ => false
def isEls : Stm → Bool
  | .els _ => true
  | _ => false
def opens (b : Bool) (s : Stm) : Bool := if b then isEls s else isIf s
theorem opens_re (k : Nat) (b : Bool) (s : Stm) : opens b (retarget k s) = opens b s := by
  unfold opens
  cases b <;> cases s <;> rfl
structure Rok (r : Rdr) : Prop where
  bl : ∀ e ∈ r.blocks, ∃ s, r.stms[e.1]? = some s ∧ opens e.2 s = true
  sc : r.scopes.length = r.blocks.length + 1
theorem mod_get {l : List Stm} {i j k : Nat} {s : Stm} {b : Bool} (h : l[j]? = some s) (hs : opens b s = true) : ∃ s', (l.modify i (retarget k))[j]? = some s' ∧ opens b s' = true := by
  rw [List.getElem?_modify, h]
  by_cases e : i = j
  · exact ⟨retarget k s, by simp [e], by rw [opens_re]; exact hs⟩
  · exact ⟨s, by simp [e], hs⟩
theorem app_get {l : List Stm} {j : Nat} {s t : Stm} (h : l[j]? = some s) : (l ++ [t])[j]? = some s := by
  rw [List.getElem?_append_left (List.getElem?_eq_some_iff.mp h).1]
  exact h
theorem Rok.add {r : Rdr} (h : Rok r) (s : Stm) (hb : (isEls s = true ∨ s = .fin) → r.blocks ≠ []) : Rok (add r r.stms.length s) := by
  have old : ∀ e ∈ r.blocks, ∃ t, (r.stms ++ [s])[e.1]? = some t ∧ opens e.2 t = true := fun e he => by
    obtain ⟨t, h1, h2⟩ := h.bl e he
    exact ⟨t, app_get h1, h2⟩
  have new : (r.stms ++ [s])[r.stms.length]? = some s := by simp
  cases s with
  | iff c to =>
    refine ⟨fun e he => ?_, ?_⟩
    · rcases List.mem_append.mp (show e ∈ r.blocks ++ [(r.stms.length, false)] from he) with he | he
      · exact old e he
      · rw [List.mem_singleton.mp he]
        exact ⟨_, new, rfl⟩
    · show (r.scopes ++ [[]]).length = (r.blocks ++ [(r.stms.length, false)]).length + 1
      rw [List.length_append, List.length_append, h.sc]
      rfl
  | els to =>
    have hne := hb (.inl rfl)
    have hl : 0 < r.blocks.length := List.length_pos_iff.mpr hne
    refine ⟨fun e he => ?_, ?_⟩
    · rcases List.mem_append.mp (show e ∈ r.blocks.dropLast ++ [(r.stms.length, true)] from he) with he | he
      · obtain ⟨t, h1, h2⟩ := old e ((List.dropLast_sublist _).subset he)
        exact mod_get h1 h2
      · rw [List.mem_singleton.mp he]
        exact mod_get new rfl
    · show (r.scopes.dropLast ++ [[]]).length = (r.blocks.dropLast ++ [(r.stms.length, true)]).length + 1
      rw [List.length_append, List.length_append, List.length_dropLast, List.length_dropLast, h.sc]
      simp only [List.length_singleton]
      omega
  | fin =>
    have hne := hb (.inr rfl)
    have hl : 0 < r.blocks.length := List.length_pos_iff.mpr hne
    refine ⟨fun e he => ?_, ?_⟩
    · obtain ⟨t, h1, h2⟩ := old e ((List.dropLast_sublist _).subset (show e ∈ r.blocks.dropLast from he))
      exact mod_get h1 h2
    · show r.scopes.dropLast.length = r.blocks.dropLast.length + 1
      rw [List.length_dropLast, List.length_dropLast, h.sc]
      omega
  | _ => exact ⟨old, h.sc⟩
theorem add_len (r : Rdr) (n : Nat) (s : Stm) : (add r n s).stms.length = r.stms.length + 1 := by
  cases s <;> simp [add]
end PR

namespace PR
open RD
/-! forms are small, and their statements have no targets yet -/
def fresh : Stm → Bool
  | .rout => false
  | .iff _ (some _) => false
  | .els (some _) => false
  | .drop _ (some _) => false
  | .some_ _ (some _) _ => false
  | _ => true
/-- the name whose kind is put into the statement -/
def named : Stm → Option Tx
  | .drop x _ => some x
  | .some_ x _ _ => some x
  | _ => none
structure Fok (N : Nat) (f : Form) : Prop where
  us : ∀ u ∈ f.uses, u.1.length ≤ N
  bd : ∀ b ∈ f.bound, b.1.length ≤ N
  lu : f.uses.length ≤ 3
  lb : f.bound.length ≤ 2
  fr : fresh f.stm = true
  nm : ∀ x, named f.stm = some x → x ∈ f.uses.map Prod.fst
theorem pathOf_len {t : Tx} {p : Path} (h : pathOf t = some p) : p.1.length ≤ t.length := by
  unfold pathOf at h
  cases e : spc 46 t with
  | nil => rw [e] at h; cases h
  | cons n ls =>
    rw [e] at h
    simp only at h
    split at h
    · cases h
      exact spc_len 46 t n (by rw [e]; simp)
    · cases h
theorem sideOf_len {t : Tx} {s : Side} (h : sideOf t = some s) : s.2.1.length ≤ t.length := by
  unfold sideOf at h
  simp only at h
  split at h
  · cases e : pathOf (rpt 46 t).1 with
    | none => rw [e] at h; cases h
    | some p =>
      rw [e] at h
      cases h
      exact Nat.le_trans (pathOf_len e) (rpt_len 46 t).1
  · cases e : pathOf t with
    | none => rw [e] at h; cases h
    | some p =>
      rw [e] at h
      cases h
      exact pathOf_len e
theorem condOf_len {ws : List Tx} {c : Cond} {N : Nat} (hw : ∀ x ∈ ws, x.length ≤ N) (h : condOf ws = some c) : c.left.1.length ≤ N ∧ c.right.1.length ≤ N := by
  match ws, h with
  | [a, o, b], h =>
    simp only [condOf] at h
    split at h
    · cases ea : sideOf a with
      | none => rw [ea] at h; cases h
      | some x =>
        cases eb : sideOf b with
        | none => rw [ea, eb] at h; cases h
        | some y =>
          rw [ea, eb] at h
          simp only at h
          split at h
          · cases h
            exact ⟨Nat.le_trans (sideOf_len ea) (hw a (by simp)), Nat.le_trans (sideOf_len eb) (hw b (by simp))⟩
          · cases h
    · cases h
theorem letF_ok {ws : List Tx} {f : Form} {N : Nat} (hw : ∀ x ∈ ws, x.length ≤ N) (h : letF ws = some f) : Fok N f := by
  match ws, h with
  | [_, x, e, s], h =>
    simp only [letF] at h
    split at h
    · cases es : sideOf s with
      | none => rw [es] at h; cases h
      | some d =>
        rw [es] at h
        have hd := Nat.le_trans (sideOf_len es) (hw s (by simp))
        have hx := hw x (by simp)
        simp only [Option.map_some] at h
        split at h
        · cases h
          exact ⟨by simpa using hd, by simpa using hx, by simp, by simp, rfl, by simp [named]⟩
        · cases h
          exact ⟨by simpa using hd, by simpa using hx, by simp, by simp, rfl, by simp [named]⟩
    · cases h
theorem writeF_ok {a v : Tx} {f : Form} {N : Nat} (ha : a.length ≤ N) (hv : v.length ≤ N) (h : writeF a v = some f) : Fok N f := by
  have hr := Nat.le_trans (rpt_len 46 a).1 ha
  unfold writeF at h
  simp only at h
  split at h
  · cases h; exact ⟨by simpa using ⟨hr, hv⟩, by simp, by simp, by simp, rfl, by simp [named]⟩
  · split at h
    · cases h; exact ⟨by simpa using ⟨hr, hv⟩, by simp, by simp, by simp, rfl, by simp [named]⟩
    · split at h
      · cases h; exact ⟨by simpa using ⟨hr, hv⟩, by simp, by simp, by simp, rfl, by simp [named]⟩
      · cases h
theorem roundF_ok {ws : List Tx} {f : Form} {N : Nat} (hw : ∀ x ∈ ws, x.length ≤ N) (h : roundF ws = some f) : Fok N f := by
  match ws, h with
  | [_, a, e, v], h =>
    simp only [roundF] at h
    split at h
    · cases h
      exact ⟨by simpa using ⟨Nat.le_trans (rpt_len 46 a).1 (hw a (by simp)), hw v (by simp)⟩, by simp, by simp, by simp, rfl, by simp [named]⟩
    · cases h
theorem condF_ok {a : Tx} {ws : List Tx} {f : Form} {N : Nat} (hw : ∀ x ∈ ws, x.length ≤ N) (h : condF a ws = some f) : Fok N f := by
  unfold condF at h
  cases e : condOf ws with
  | none => rw [e] at h; cases h
  | some c =>
    rw [e] at h
    cases h
    obtain ⟨h1, h2⟩ := condOf_len hw e
    refine ⟨by simpa using ⟨h1, h2⟩, by simp, by simp, by simp, ?_, ?_⟩
    · show fresh (if a = tx "given" then _ else _) = true
      split <;> rfl
    · show ∀ x, named (if a = tx "given" then _ else _) = some x → _
      split <;> simp [named]
theorem tellF_ok {ws : List Tx} {f : Form} {N : Nat} (hw : ∀ x ∈ ws, x.length ≤ N) (h : tellF ws = some f) : Fok N f := by
  unfold tellF at h
  split at h
  · rename_i hl
    cases h
    exact ⟨by simpa using hw, by simp, by simpa using hl.2, by simp, rfl, by simp [named]⟩
  · cases h
theorem getD_len {ws : List Tx} {N : Nat} (hw : ∀ x ∈ ws, x.length ≤ N) (i : Nat) : (ws.getD i []).length ≤ N := by
  rw [List.getD_eq_getElem?_getD]
  cases e : ws[i]? with
  | none => simp
  | some x => exact hw x (List.mem_of_getElem? e)
theorem formOf_ok {t : Tx} {f : Form} (h : formOf t = some f) : Fok t.length f := by
  unfold formOf formW at h
  have hw : ∀ x ∈ spc 32 t, x.length ≤ t.length := fun x hx => spc_len 32 t x hx
  revert hw h
  cases spc 32 t with
  | nil => intro h; cases h
  | cons a ws =>
    intro h hw
    have ha := hw a (by simp)
    have hs : ∀ x ∈ ws, x.length ≤ t.length := fun x hx => hw x (by simp [hx])
    have h0 := getD_len hs 0
    have h1 := getD_len hs 1
    simp only [fw0, fw1, fw2, fw3, fw4, fw5, fw6, fw7, fw8] at h
    split at h
    · exact condF_ok hs h
    split at h
    · exact letF_ok hw h
    split at h
    · exact roundF_ok hw h
    split at h
    · exact tellF_ok hs h
    split at h
    · cases h; exact ⟨by simp, by simpa using ⟨h0, h1⟩, by simp, by simp, rfl, by simp [named]⟩
    split at h
    · cases h; exact ⟨by simpa using h0, by simp, by simp, by simp, rfl, by simp [named]⟩
    split at h
    · cases h; exact ⟨by simp, by simpa using h1, by simp, by simp, rfl, by simp [named]⟩
    split at h
    · cases h; exact ⟨by simp, by simp, by simp, by simp, rfl, by simp [named]⟩
    split at h
    · cases h; exact ⟨by simp, by simp, by simp, by simp, rfl, by simp [named]⟩
    split at h
    · exact writeF_ok ha h1 h
    · cases h
theorem check_some {sc : List Scope} {n : Nat} : ∀ {l : List (Tx × Tx)}, check sc n l = none → ∀ x ∈ l.map Prod.fst, (kindOf sc x).isSome = true
  | [], _, x, hx => absurd hx (by simp)
  | u :: r, h, x, hx => by
    unfold check at h
    cases e : kindOf sc u.1 with
    | none => rw [e] at h; cases h
    | some k =>
      rw [e] at h
      simp only at h
      split at h
      · rcases List.mem_cons.mp (show x ∈ u.1 :: r.map Prod.fst from hx) with z | z
        · rw [z, e]; rfl
        · exact check_some h x z
      · cases h
/-- the reader's invariant -/
structure Rin (r : Rdr) : Prop where
  ok : Rok r
  b3 : r.blocks.length ≤ 3
  s3 : ∀ s ∈ r.scopes, s.length ≤ 3 + 2 * r.stms.length
  ne : r.stms ≠ []
theorem resolve_els (sc : List Scope) (s : Stm) : isEls (resolve sc s) = isEls s := by cases s <;> rfl
theorem resolve_fin {sc : List Scope} {s : Stm} (h : resolve sc s = .fin) : s = .fin := by
  cases s <;> first | rfl | exact absurd h (by simp [resolve])
theorem may_els {r : Rdr} {n k : Nat} {s : Stm} (h : mayStand r n k s = true) (e : isEls s = true) : (r.blocks.getLast?.getD (0, true)).2 = false := by
  cases s with
  | els to =>
    have h : (match r.blocks.getLast? with | some b => !b.2 | none => false) = true := h
    cases hb : r.blocks.getLast? with
    | none => rw [hb] at h; cases h
    | some b => rw [hb] at h; simpa using h
  | _ => exact absurd e (by simp [isEls])
theorem may_ne {r : Rdr} {n k : Nat} {s : Stm} (h : mayStand r n k s = true) (e : isEls s = true ∨ s = .fin) : r.blocks ≠ [] := by
  intro z
  rcases e with e | e
  · have := may_els h e
    rw [z] at this
    cases this
  · rw [e] at h
    have h : (!r.blocks.isEmpty) = true := h
    rw [z] at h
    cases h
theorem may_if {r : Rdr} {n k : Nat} {s : Stm} (h : mayStand r n k s = true) (e : isIf s = true) : r.blocks.length < 3 := by
  cases s with
  | iff c to =>
    have h : (decide (r.blocks.length < 3) && _) = true := h
    rw [Bool.and_eq_true] at h
    exact of_decide_eq_true h.1
  | _ => exact absurd e (by simp [isIf])
theorem resolve_if (sc : List Scope) (s : Stm) : isIf (resolve sc s) = isIf s := by cases s <;> rfl
theorem add_scopes (r : Rdr) (k : Nat) (s : Stm) : ∀ x ∈ (add r k s).scopes, x = [] ∨ x ∈ r.scopes := by
  intro x hx
  cases s with
  | iff c to =>
    rcases List.mem_append.mp (show x ∈ r.scopes ++ [[]] from hx) with h | h
    · exact .inr h
    · exact .inl (List.mem_singleton.mp h)
  | els to =>
    rcases List.mem_append.mp (show x ∈ r.scopes.dropLast ++ [[]] from hx) with h | h
    · exact .inr ((List.dropLast_sublist _).subset h)
    · exact .inl (List.mem_singleton.mp h)
  | fin => exact .inr ((List.dropLast_sublist _).subset (show x ∈ r.scopes.dropLast from hx))
  | _ => exact .inr hx
theorem kind_none {x : Tx} : ∀ {sc : List Scope}, kindOf sc x = none → ∀ s ∈ sc, x ∉ s.map Prod.fst
  | [], _, s, hs => absurd hs (by simp)
  | t :: r, h, s, hs => by
    unfold kindOf at h
    cases e : kindIn t x with
    | some k => rw [e] at h; cases h
    | none =>
      rw [e] at h
      rcases List.mem_cons.mp hs with z | z
      · rw [z]
        intro m
        obtain ⟨y, hy, ey⟩ := List.mem_map.mp m
        unfold kindIn at e
        rw [Option.map_eq_none_iff, List.find?_eq_none] at e
        exact e y hy (by simp [ey])
      · exact kind_none h s z
theorem add_blocks {r : Rdr} {n k : Nat} {s : Stm} {sc : List Scope} (h3 : r.blocks.length ≤ 3) (h : mayStand r n k s = true) : (add r k (resolve sc s)).blocks.length ≤ 3 := by
  cases s with
  | iff c to =>
    have := may_if h rfl
    show (r.blocks ++ [(k, false)]).length ≤ 3
    rw [List.length_append]
    exact this
  | els to =>
    have hb := may_ne h (.inl rfl)
    have := List.length_pos_iff.mpr hb
    show (r.blocks.dropLast ++ [(k, true)]).length ≤ 3
    rw [List.length_append, List.length_dropLast, List.length_singleton]
    omega
  | fin =>
    show r.blocks.dropLast.length ≤ 3
    rw [List.length_dropLast]
    omega
  | _ => exact h3
/-- what a line that is read leaves -/
theorem Rin.next {r : Rdr} {n : Nat} {t : Tx} {f : Form} (h : Rin r) (hf : formOf t = some f) (hm : mayStand r n r.stms.length f.stm = true) :
    Rin { add r r.stms.length (resolve r.scopes f.stm) with scopes := bindS (add r r.stms.length (resolve r.scopes f.stm)).scopes f.bound } := by
  have fo := formOf_ok hf
  have ro := h.ok.add (resolve r.scopes f.stm) (fun e => may_ne hm (e.imp (fun e => by rwa [resolve_els] at e) resolve_fin))
  have hl := add_len r r.stms.length (resolve r.scopes f.stm)
  have hb := add_blocks (sc := r.scopes) h.b3 hm
  have hs := add_scopes r r.stms.length (resolve r.scopes f.stm)
  revert ro hl hb hs
  generalize add r r.stms.length (resolve r.scopes f.stm) = r2
  intro ro hl hb hs
  have b : ∀ s ∈ r2.scopes, s.length ≤ 3 + 2 * r.stms.length := fun s hx => by
    rcases hs s hx with z | z
    · rw [z]; simp
    · exact h.s3 s z
  have hlb := fo.lb
  refine ⟨⟨ro.bl, ?_⟩, hb, fun s hx => ?_, fun z => ?_⟩
  · show (r2.scopes.dropLast ++ [_]).length = _
    have := ro.sc
    rw [List.length_append, List.length_dropLast, List.length_singleton]
    show _ = r2.blocks.length + 1
    omega
  · show s.length ≤ 3 + 2 * r2.stms.length
    rw [hl]
    rcases List.mem_append.mp (show s ∈ r2.scopes.dropLast ++ [r2.scopes.getLast?.getD [] ++ f.bound] from hx) with z | z
    · have := b s ((List.dropLast_sublist _).subset z)
      omega
    · rw [List.mem_singleton.mp z, List.length_append]
      have : (r2.scopes.getLast?.getD []).length ≤ 3 + 2 * r.stms.length := by
        cases e : r2.scopes.getLast? with
        | none => simp
        | some x => exact b x (List.mem_of_getLast? e)
      omega
  · have z : r2.stms = [] := z
    rw [z] at hl
    cases hl
end PR

namespace Pf
open PySem PySem.Spec PyProof.Rows L2 SX RD PR
/-! how paths, conditions, statements and forms lie in the heap -/
section
variable (K : PySem.W.Frag) (H : Hp)
def PathAt (v : V) (p : Path) : Prop := ∃ a b, v = .ref a ∧ SqT K H a [vst p.1, .ref b] ∧ SqT K H b (vsts p.2)
def CondAt (v : V) (c : Cond) : Prop := ∃ a l r, v = .ref a ∧ SqT K H a [vst c.kind, l, r, .bl c.eq] ∧ PathAt K H l c.left ∧ PathAt K H r c.right
def SideAt (v : V) (s : Side) : Prop := ∃ a p, v = .ref a ∧ SqT K H a [vst s.1, p] ∧ PathAt K H p s.2
def PairAt (q : Addr) (p : Tx × Tx) : Prop := SqT K H q [vst p.1, vst p.2]
def PairsL (a : Addr) (l : List (Tx × Tx)) : Prop := ∃ qs : List Addr, SqL K H a (qs.map V.ref) ∧ Paired (PairAt K H) qs l
def PairsT (a : Addr) (l : List (Tx × Tx)) : Prop := ∃ qs : List Addr, (SqL K H a (qs.map V.ref) ∨ SqT K H a (qs.map V.ref)) ∧ Paired (PairAt K H) qs l
def kndV : Option Tx → V
  | none => .non
  | some k => vst k
def StmAt (v : V) (s : Stm) : Prop := ∃ a, v = .ref a ∧ match s with
  | .rout => SqT K H a [vst (tx "routine")]
  | .given c => ∃ cv, SqT K H a [vst (tx "given"), cv] ∧ CondAt K H cv c
  | .iff c none => ∃ cv, SqT K H a [vst (tx "if"), cv] ∧ CondAt K H cv c
  | .iff c (some n) => ∃ cv, SqT K H a [vst (tx "if"), cv, vn n] ∧ CondAt K H cv c
  | .els none => SqT K H a [vst (tx "else")]
  | .els (some n) => SqT K H a [vst (tx "else"), vn n]
  | .fin => SqT K H a [vst (tx "end")]
  | .let_ x p => ∃ pv, SqT K H a [vst (tx "let"), vst x, pv] ∧ PathAt K H pv p
  | .take x k p => ∃ pv, SqT K H a [vst (tx "take"), vst x, vst k, pv] ∧ PathAt K H pv p
  | .make x y => SqT K H a [vst (tx "make"), vst x, vst y]
  | .drop x none => SqT K H a [vst (tx "drop"), vst x]
  | .drop x (some k) => SqT K H a [vst (tx "drop"), vst x, vst k]
  | .new k x => SqT K H a [vst (tx "new"), vst k, vst x]
  | .link x f v => SqT K H a [vst (tx "link"), vst x, vst f, vst v]
  | .bear x f v => SqT K H a [vst (tx "bear"), vst x, vst f, vst v]
  | .round x f v => SqT K H a [vst (tx "round"), vst x, vst f, vst v]
  | .some_ x none v => SqT K H a [vst (tx "some"), vst x, vst v]
  | .some_ x (some k) v => SqT K H a [vst (tx "some"), vst x, vst k, vst v]
  | .tell xs => ∃ b, SqT K H a [vst (tx "tell"), .ref b] ∧ SqT K H b (vsts xs)
end
theorem few {xs : List V} (h : xs.length ≤ 100 := by simp) : xs.length ≤ sizeLine := szl (by omega)
/-- the tuples are kept -/
def Kp (H H' : Hp) : Prop := ∀ a xs, Rd H a (.tup xs) → Rd H' a (.tup xs)
theorem Kp.refl {H : Hp} : Kp H H := fun _ _ h => h
theorem Kp.trans {H1 H2 H3 : Hp} (a : Kp H1 H2) (b : Kp H2 H3) : Kp H1 H3 := fun x xs h => b x xs (a x xs h)
theorem Kp.same {H H' : Hp} (s : Same H H') : Kp H H' := fun a xs h => by
  rcases h with h | ⟨o, h⟩
  · exact .inl (s a _ h)
  · exact .inr ⟨o, s a _ h⟩
theorem Kp.new {H : Hp} {p : Addr} {o : HO} (h : H p = none) : Kp H (upd H p o) := .same (same_new h)
/-- an object that is no tuple changes -/
theorem Kp.mut {H : Hp} {p : Addr} {u o : HO} (h : H p = some u) (h1 : ∀ xs, u ≠ .tup xs) (h2 : ∀ x xs, u ≠ .frz x (.tup xs)) : Kp H (upd H p o) := fun a xs e => by
  have ne : a ≠ p := fun z => by
    subst z
    rcases e with e | ⟨x, e⟩
    · rw [h] at e; exact h1 xs (Option.some.inj e)
    · rw [h] at e; exact h2 x xs (Option.some.inj e)
  rcases e with e | ⟨x, e⟩
  · exact .inl (by rw [upd_ne ne]; exact e)
  · exact .inr ⟨x, by rw [upd_ne ne]; exact e⟩
theorem Kp.lst {H : Hp} {p : Addr} {xs : List V} {o : HO} (h : H p = some (.lst xs)) : Kp H (upd H p o) := .mut h (fun _ => nofun) (fun _ _ => nofun)
theorem Kp.ins {H : Hp} {p : Addr} {C : Addr} {dx : Addr} {fs : List (Str × V)} {o : HO} (h : H p = some (.ins C dx fs)) : Kp H (upd H p o) := .mut h (fun _ => nofun) (fun _ _ => nofun)
theorem Kp.dk {H : Hp} {p : Addr} {kvs : List (Key × V)} {o : HO} (h : H p = some (.dK kvs)) : Kp H (upd H p o) := .mut h (fun _ => nofun) (fun _ _ => nofun)
section
variable {K : PySem.W.Frag} {H H' : Hp}
theorem Kp.sq (k : Kp H H') {a : Addr} {xs : List V} (h : SqT K H a xs) : SqT K H' a xs := by
  rcases h with h | h
  · exact .inl (k a xs h)
  · exact .inr h
theorem Kp.path (k : Kp H H') {v : V} {p : Path} : PathAt K H v p → PathAt K H' v p := fun ⟨a, b, e, h1, h2⟩ => ⟨a, b, e, k.sq h1, k.sq h2⟩
theorem Kp.cond (k : Kp H H') {v : V} {c : Cond} : CondAt K H v c → CondAt K H' v c := fun ⟨a, l, r, e, h, h1, h2⟩ => ⟨a, l, r, e, k.sq h, k.path h1, k.path h2⟩
theorem Kp.side (k : Kp H H') {v : V} {s : Side} : SideAt K H v s → SideAt K H' v s := fun ⟨a, p, e, h, h1⟩ => ⟨a, p, e, k.sq h, k.path h1⟩
theorem Kp.pairs (k : Kp H H') : ∀ {qs : List Addr} {l : List (Tx × Tx)}, Paired (PairAt K H) qs l → Paired (PairAt K H') qs l
  | _, _, .nil => .nil
  | _, _, .cons h t => .cons (k.sq h) (k.pairs t)
theorem Kp.stm (k : Kp H H') {v : V} {s : Stm} (h : StmAt K H v s) : StmAt K H' v s := by
  obtain ⟨a, e, h⟩ := h
  refine ⟨a, e, ?_⟩
  match s, h with
  | .rout, h => exact k.sq h
  | .given c, ⟨cv, h, h2⟩ => exact ⟨cv, k.sq h, k.cond h2⟩
  | .iff c none, ⟨cv, h, h2⟩ => exact ⟨cv, k.sq h, k.cond h2⟩
  | .iff c (some n), ⟨cv, h, h2⟩ => exact ⟨cv, k.sq h, k.cond h2⟩
  | .els none, h => exact k.sq h
  | .els (some n), h => exact k.sq h
  | .fin, h => exact k.sq h
  | .let_ x p, ⟨pv, h, h2⟩ => exact ⟨pv, k.sq h, k.path h2⟩
  | .take x kk p, ⟨pv, h, h2⟩ => exact ⟨pv, k.sq h, k.path h2⟩
  | .make x y, h => exact k.sq h
  | .drop x none, h => exact k.sq h
  | .drop x (some kk), h => exact k.sq h
  | .new kk x, h => exact k.sq h
  | .link x f v, h => exact k.sq h
  | .bear x f v, h => exact k.sq h
  | .round x f v, h => exact k.sq h
  | .some_ x none v, h => exact k.sq h
  | .some_ x (some kk) v, h => exact k.sq h
  | .tell xs, ⟨b, h, h2⟩ => exact ⟨b, k.sq h, k.sq h2⟩
end
/-- all but p is kept -/
def Sx (p : Addr) (H H' : Hp) : Prop := ∀ c o, H c = some o → c ≠ p → H' c = some o
theorem Sx.refl {p : Addr} {H : Hp} : Sx p H H := fun _ _ e _ => e
theorem Sx.trans {p : Addr} {H1 H2 H3 : Hp} (a : Sx p H1 H2) (b : Sx p H2 H3) : Sx p H1 H3 := fun c o e n => b c o (a c o e n) n
theorem Sx.put {p : Addr} {H : Hp} {o : HO} : Sx p H (upd H p o) := fun c u e n => by rw [upd_ne n]; exact e
theorem Sx.new {p r : Addr} {H : Hp} {o : HO} (h : H r = none) : Sx p H (upd H r o) := fun c u e _ => same_new h c u e
theorem Sx.same {p : Addr} {H H' : Hp} (s : Same H H') : Sx p H H' := fun c u e _ => s c u e
section
variable {K : PySem.W.Frag} {p : Addr} {H H' : Hp} {C dx : Addr} {fs : List (Str × V)} (hp : H p = some (.ins C dx fs)) (s : Sx p H H')
include hp s
theorem Sx.rd {a : Addr} {u : HO} (h1 : ∀ C dx fs, u ≠ .ins C dx fs) (h : L2.Rd H a u) : L2.Rd H' a u := by
  rcases h with h | ⟨x, h⟩
  · refine .inl (s a _ h fun e => ?_)
    rw [e, hp] at h
    exact h1 _ _ _ (Option.some.inj h).symm
  · refine .inr ⟨x, s a _ h fun e => ?_⟩
    rw [e, hp] at h
    cases h
theorem Sx.sl {a : Addr} {xs : List V} (h : SqL K H a xs) : SqL K H' a xs := by
  rcases h with h | h
  · exact .inl (s.rd hp (fun _ _ _ => nofun) h)
  · exact .inr h
theorem Sx.stp {a : Addr} {xs : List V} (h : SqT K H a xs) : SqT K H' a xs := by
  rcases h with h | h
  · exact .inl (s.rd hp (fun _ _ _ => nofun) h)
  · exact .inr h
theorem Sx.kp : Kp H H' := fun _ _ h => s.rd hp (fun _ _ _ => nofun) h
theorem Sx.ls {a : Addr} {xs : List V} (h : SqL K H a xs ∨ SqT K H a xs) : SqL K H' a xs ∨ SqT K H' a xs := h.imp (s.sl hp) (s.stp hp)
end
end Pf

namespace Pf
open PySem PySem.Spec PyProof.Rows L2
def topS (i : Nat) : Stmt := PySem.Challenge.pw_halfmeshes_k33_names.main.body.getD i (.Pass ⟨0, 0, 0, 0⟩)
abbrev s_BadLine_d_initd_ : Stmt := inClass (topS 2) 0
theorem sc_BadLine_d_initd_ : FnScope ["self", "line"] ["self", "line"] (defScope s_BadLine_d_initd_) := ⟨rfl, rfl, rfl, by decide +kernel, rfl, by decide +kernel, by decide +kernel⟩
abbrev s_UnknownName_d_initd_ : Stmt := inClass (topS 3) 0
theorem sc_UnknownName_d_initd_ : FnScope ["self", "line", "name"] ["self", "line", "name"] (defScope s_UnknownName_d_initd_) := ⟨rfl, rfl, rfl, by decide +kernel, rfl, by decide +kernel, by decide +kernel⟩
abbrev s_WrongKind_d_initd_ : Stmt := inClass (topS 4) 0
theorem sc_WrongKind_d_initd_ : FnScope ["self", "line", "name"] ["self", "line", "name"] (defScope s_WrongKind_d_initd_) := ⟨rfl, rfl, rfl, by decide +kernel, rfl, by decide +kernel, by decide +kernel⟩
abbrev s_is_word : Stmt := topS 16
theorem sc_is_word : FnScope ["text", "char"] ["text"] (defScope s_is_word) := ⟨rfl, rfl, rfl, by decide +kernel, rfl, by decide +kernel, by decide +kernel⟩
abbrev s_is_name : Stmt := topS 17
theorem sc_is_name : FnScope ["text"] ["text"] (defScope s_is_name) := ⟨rfl, rfl, rfl, by decide +kernel, rfl, by decide +kernel, by decide +kernel⟩
abbrev s_path_of : Stmt := topS 18
theorem sc_path_of : FnScope ["text", "name", "links", "link"] ["text"] (defScope s_path_of) := ⟨rfl, rfl, rfl, by decide +kernel, rfl, by decide +kernel, by decide +kernel⟩
abbrev s_side_of : Stmt := topS 19
theorem sc_side_of : FnScope ["text", "start", "dot", "last", "path"] ["text"] (defScope s_side_of) := ⟨rfl, rfl, rfl, by decide +kernel, rfl, by decide +kernel, by decide +kernel⟩
abbrev s_condition_of : Stmt := topS 20
theorem sc_condition_of : FnScope ["words", "left", "right"] ["words"] (defScope s_condition_of) := ⟨rfl, rfl, rfl, by decide +kernel, rfl, by decide +kernel, by decide +kernel⟩
abbrev s_condition_names : Stmt := topS 21
theorem sc_condition_names : FnScope ["condition"] ["condition"] (defScope s_condition_names) := ⟨rfl, rfl, rfl, by decide +kernel, rfl, by decide +kernel, by decide +kernel⟩
abbrev s_Form_d_initd_ : Stmt := inClass (topS 22) 0
theorem sc_Form_d_initd_ : FnScope ["self", "statement", "used", "bound"] ["self", "statement", "used", "bound"] (defScope s_Form_d_initd_) := ⟨rfl, rfl, rfl, by decide +kernel, rfl, by decide +kernel, by decide +kernel⟩
abbrev s_Form_is_good : Stmt := inClass (topS 22) 1
theorem sc_Form_is_good : FnScope ["self", "names", "kind", "name"] ["self"] (defScope s_Form_is_good) := ⟨rfl, rfl, rfl, by decide +kernel, rfl, by decide +kernel, by decide +kernel⟩
abbrev s_let_form : Stmt := topS 23
theorem sc_let_form : FnScope ["words", "side", "kind", "path"] ["words"] (defScope s_let_form) := ⟨rfl, rfl, rfl, by decide +kernel, rfl, by decide +kernel, by decide +kernel⟩
abbrev s_write_form : Stmt := topS 24
theorem sc_write_form : FnScope ["words", "name", "dot", "field", "value"] ["words"] (defScope s_write_form) := ⟨rfl, rfl, rfl, by decide +kernel, rfl, by decide +kernel, by decide +kernel⟩
abbrev s_round_form : Stmt := topS 25
theorem sc_round_form : FnScope ["words", "name", "dot", "field"] ["words"] (defScope s_round_form) := ⟨rfl, rfl, rfl, by decide +kernel, rfl, by decide +kernel, by decide +kernel⟩
abbrev s_condition_form : Stmt := topS 26
theorem sc_condition_form : FnScope ["words", "condition"] ["words"] (defScope s_condition_form) := ⟨rfl, rfl, rfl, by decide +kernel, rfl, by decide +kernel, by decide +kernel⟩
abbrev s_tell_form : Stmt := topS 27
theorem sc_tell_form : FnScope ["words", "name"] ["words"] (defScope s_tell_form) := ⟨rfl, rfl, rfl, by decide +kernel, rfl, by decide +kernel, by decide +kernel⟩
abbrev s_form_of : Stmt := topS 28
theorem sc_form_of : FnScope ["line", "words", "head"] ["line"] (defScope s_form_of) := ⟨rfl, rfl, rfl, by decide +kernel, rfl, by decide +kernel, by decide +kernel⟩
abbrev s_is_right_kind : Stmt := topS 29
theorem sc_is_right_kind : FnScope ["kind", "needed"] ["kind", "needed"] (defScope s_is_right_kind) := ⟨rfl, rfl, rfl, by decide +kernel, rfl, by decide +kernel, by decide +kernel⟩
abbrev s_first_line : Stmt := topS 30
theorem sc_first_line : FnScope ["line", "word", "head", "names", "name"] ["line", "word"] (defScope s_first_line) := ⟨rfl, rfl, rfl, by decide +kernel, rfl, by decide +kernel, by decide +kernel⟩
abbrev s_Names_d_initd_ : Stmt := inClass (topS 31) 0
theorem sc_Names_d_initd_ : FnScope ["self", "halves", "name"] ["self", "halves"] (defScope s_Names_d_initd_) := ⟨rfl, rfl, rfl, by decide +kernel, rfl, by decide +kernel, by decide +kernel⟩
abbrev s_Names_kind_of : Stmt := inClass (topS 31) 1
theorem sc_Names_kind_of : FnScope ["self", "name", "scope"] ["self", "name"] (defScope s_Names_kind_of) := ⟨rfl, rfl, rfl, by decide +kernel, rfl, by decide +kernel, by decide +kernel⟩
abbrev s_Names_open_block : Stmt := inClass (topS 31) 2
theorem sc_Names_open_block : FnScope ["self"] ["self"] (defScope s_Names_open_block) := ⟨rfl, rfl, rfl, by decide +kernel, rfl, by decide +kernel, by decide +kernel⟩
abbrev s_Names_close_block : Stmt := inClass (topS 31) 3
theorem sc_Names_close_block : FnScope ["self"] ["self"] (defScope s_Names_close_block) := ⟨rfl, rfl, rfl, by decide +kernel, rfl, by decide +kernel, by decide +kernel⟩
abbrev s_Names_check : Stmt := inClass (topS 31) 4
theorem sc_Names_check : FnScope ["self", "form", "number", "name", "needed", "kind"] ["self", "form", "number"] (defScope s_Names_check) := ⟨rfl, rfl, rfl, by decide +kernel, rfl, by decide +kernel, by decide +kernel⟩
abbrev s_Names_is_free : Stmt := inClass (topS 31) 5
theorem sc_Names_is_free : FnScope ["self", "form", "kind", "name"] ["self", "form"] (defScope s_Names_is_free) := ⟨rfl, rfl, rfl, by decide +kernel, rfl, by decide +kernel, by decide +kernel⟩
abbrev s_Names_bind : Stmt := inClass (topS 31) 6
theorem sc_Names_bind : FnScope ["self", "form", "name", "kind"] ["self", "form"] (defScope s_Names_bind) := ⟨rfl, rfl, rfl, by decide +kernel, rfl, by decide +kernel, by decide +kernel⟩
abbrev s_RoutineReader_d_initd_ : Stmt := inClass (topS 32) 0
theorem sc_RoutineReader_d_initd_ : FnScope ["self", "lines", "offset"] ["self", "lines", "offset"] (defScope s_RoutineReader_d_initd_) := ⟨rfl, rfl, rfl, by decide +kernel, rfl, by decide +kernel, by decide +kernel⟩
abbrev s_RoutineReader_read : Stmt := inClass (topS 32) 1
theorem sc_RoutineReader_read : FnScope ["self", "names", "known", "at", "last", "told"] ["self"] (defScope s_RoutineReader_read) := ⟨rfl, rfl, rfl, by decide +kernel, rfl, by decide +kernel, by decide +kernel⟩
abbrev s_RoutineReader_read_line : Stmt := inClass (topS 32) 2
theorem sc_RoutineReader_read_line : FnScope ["self", "at", "known", "number", "form", "statement"] ["self", "at", "known"] (defScope s_RoutineReader_read_line) := ⟨rfl, rfl, rfl, by decide +kernel, rfl, by decide +kernel, by decide +kernel⟩
abbrev s_RoutineReader_may_stand : Stmt := inClass (topS 32) 3
theorem sc_RoutineReader_may_stand : FnScope ["self", "statement", "at", "head", "kind", "left", "right", "is_equal", "is_plain"] ["self", "statement", "at"] (defScope s_RoutineReader_may_stand) := ⟨rfl, rfl, rfl, by decide +kernel, rfl, by decide +kernel, by decide +kernel⟩
abbrev s_RoutineReader_resolved : Stmt := inClass (topS 32) 4
theorem sc_RoutineReader_resolved : FnScope ["self", "statement", "known"] ["self", "statement", "known"] (defScope s_RoutineReader_resolved) := ⟨rfl, rfl, rfl, by decide +kernel, rfl, by decide +kernel, by decide +kernel⟩
abbrev s_RoutineReader_add : Stmt := inClass (topS 32) 5
theorem sc_RoutineReader_add : FnScope ["self", "statement", "at", "known", "head", "start", "has_else"] ["self", "statement", "at", "known"] (defScope s_RoutineReader_add) := ⟨rfl, rfl, rfl, by decide +kernel, rfl, by decide +kernel, by decide +kernel⟩
abbrev s_Routine_d_initd_ : Stmt := inClass (topS 33) 1
theorem sc_Routine_d_initd_ : FnScope ["self", "names", "told", "lines", "statements"] ["self", "names", "told", "lines", "statements"] (defScope s_Routine_d_initd_) := ⟨rfl, rfl, rfl, by decide +kernel, rfl, by decide +kernel, by decide +kernel⟩
abbrev s_Routine_d_lend_ : Stmt := inClass (topS 33) 2
theorem sc_Routine_d_lend_ : FnScope ["self"] ["self"] (defScope s_Routine_d_lend_) := ⟨rfl, rfl, rfl, by decide +kernel, rfl, by decide +kernel, by decide +kernel⟩
abbrev s_read_routine : Stmt := topS 34
theorem sc_read_routine : FnScope ["text"] ["text"] (defScope s_read_routine) := ⟨rfl, rfl, rfl, by decide +kernel, rfl, by decide +kernel, by decide +kernel⟩
abbrev s_l_tape : Stmt := topS 36
theorem sc_l_tape : FnScope ["_law_script", "_law_k", "_law_cell"] ["_law_script", "_law_k"] (defScope s_l_tape) := ⟨rfl, rfl, rfl, by decide +kernel, rfl, by decide +kernel, by decide +kernel⟩
abbrev s_l_pick : Stmt := topS 37
theorem sc_l_pick : FnScope ["_law_tape_here", "_law_many", "_law_digit", "_law_mixed"] ["_law_tape_here", "_law_many"] (defScope s_l_pick) := ⟨rfl, rfl, rfl, by decide +kernel, rfl, by decide +kernel, by decide +kernel⟩
abbrev s_l_reserved : Stmt := topS 38
theorem sc_l_reserved : FnScope ["_law_words"] [] (defScope s_l_reserved) := ⟨rfl, rfl, rfl, by decide +kernel, rfl, by decide +kernel, by decide +kernel⟩
abbrev s_l_string : Stmt := topS 39
theorem sc_l_string : FnScope ["_law_tape_here", "_law_chars", "_law_word", "_law_text", "_law_turn", "_law_at"] ["_law_tape_here"] (defScope s_l_string) := ⟨rfl, rfl, rfl, by decide +kernel, rfl, by decide +kernel, by decide +kernel⟩
abbrev s_l_good : Stmt := topS 40
theorem sc_l_good : FnScope ["_law_text", "_law_char"] ["_law_text"] (defScope s_l_good) := ⟨rfl, rfl, rfl, by decide +kernel, rfl, by decide +kernel, by decide +kernel⟩
abbrev s_l_told : Stmt := topS 41
theorem sc_l_told : FnScope ["_law_text", "e"] ["_law_text"] (defScope s_l_told) := ⟨rfl, rfl, rfl, by decide +kernel, rfl, by decide +kernel, by decide +kernel⟩
abbrev s_law : Stmt := topS 42
theorem sc_law : FnScope ["_law_script", "_law_tape_here", "_law_text", "_law_good_here", "_law_other", "_law_second", "_law_lines", "_law_line"] ["_law_script"] (defScope s_law) := ⟨rfl, rfl, rfl, by decide +kernel, rfl, by decide +kernel, by decide +kernel⟩
structure Ad where
  f_BadLine_d_initd_ : Addr
  d_BadLine_d_initd_ : FuncData
  f_UnknownName_d_initd_ : Addr
  d_UnknownName_d_initd_ : FuncData
  f_WrongKind_d_initd_ : Addr
  d_WrongKind_d_initd_ : FuncData
  f_is_word : Addr
  d_is_word : FuncData
  f_is_name : Addr
  d_is_name : FuncData
  f_path_of : Addr
  d_path_of : FuncData
  f_side_of : Addr
  d_side_of : FuncData
  f_condition_of : Addr
  d_condition_of : FuncData
  f_condition_names : Addr
  d_condition_names : FuncData
  f_Form_d_initd_ : Addr
  d_Form_d_initd_ : FuncData
  f_Form_is_good : Addr
  d_Form_is_good : FuncData
  f_let_form : Addr
  d_let_form : FuncData
  f_write_form : Addr
  d_write_form : FuncData
  f_round_form : Addr
  d_round_form : FuncData
  f_condition_form : Addr
  d_condition_form : FuncData
  f_tell_form : Addr
  d_tell_form : FuncData
  f_form_of : Addr
  d_form_of : FuncData
  f_is_right_kind : Addr
  d_is_right_kind : FuncData
  f_first_line : Addr
  d_first_line : FuncData
  f_Names_d_initd_ : Addr
  d_Names_d_initd_ : FuncData
  f_Names_kind_of : Addr
  d_Names_kind_of : FuncData
  f_Names_open_block : Addr
  d_Names_open_block : FuncData
  f_Names_close_block : Addr
  d_Names_close_block : FuncData
  f_Names_check : Addr
  d_Names_check : FuncData
  f_Names_is_free : Addr
  d_Names_is_free : FuncData
  f_Names_bind : Addr
  d_Names_bind : FuncData
  f_RoutineReader_d_initd_ : Addr
  d_RoutineReader_d_initd_ : FuncData
  f_RoutineReader_read : Addr
  d_RoutineReader_read : FuncData
  f_RoutineReader_read_line : Addr
  d_RoutineReader_read_line : FuncData
  f_RoutineReader_may_stand : Addr
  d_RoutineReader_may_stand : FuncData
  f_RoutineReader_resolved : Addr
  d_RoutineReader_resolved : FuncData
  f_RoutineReader_add : Addr
  d_RoutineReader_add : FuncData
  f_Routine_d_initd_ : Addr
  d_Routine_d_initd_ : FuncData
  f_Routine_d_lend_ : Addr
  d_Routine_d_lend_ : FuncData
  f_read_routine : Addr
  d_read_routine : FuncData
  f_l_tape : Addr
  d_l_tape : FuncData
  f_l_pick : Addr
  d_l_pick : FuncData
  f_l_reserved : Addr
  d_l_reserved : FuncData
  f_l_string : Addr
  d_l_string : FuncData
  f_l_good : Addr
  d_l_good : FuncData
  f_l_told : Addr
  d_l_told : FuncData
  f_law : Addr
  d_law : FuncData
  e_Form_d_initd__0 : Addr
  e_Form_d_initd__1 : Addr
  k_RESERVED : Addr
  k_LINKS : Addr
  k_KINDS : Addr
  k_LABEL_LINES : Addr
  c_MeshError : Addr
  c_BadLine : Addr
  c_UnknownName : Addr
  c_WrongKind : Addr
  c_Form : Addr
  c_Names : Addr
  c_RoutineReader : Addr
  c_Routine : Addr
structure Txt (K : PySem.W.Frag) (mg : Str → Option Value) (A : Ad) : Prop where
  F_BadLine_d_initd_ : Fun K "__init__" "BadLine.__init__" s_BadLine_d_initd_ A.f_BadLine_d_initd_ A.d_BadLine_d_initd_
  b_BadLine_d_initd_ : Binds K A.d_BadLine_d_initd_ ["self", "line"] []
  F_UnknownName_d_initd_ : Fun K "__init__" "UnknownName.__init__" s_UnknownName_d_initd_ A.f_UnknownName_d_initd_ A.d_UnknownName_d_initd_
  b_UnknownName_d_initd_ : Binds K A.d_UnknownName_d_initd_ ["self", "line", "name"] []
  F_WrongKind_d_initd_ : Fun K "__init__" "WrongKind.__init__" s_WrongKind_d_initd_ A.f_WrongKind_d_initd_ A.d_WrongKind_d_initd_
  b_WrongKind_d_initd_ : Binds K A.d_WrongKind_d_initd_ ["self", "line", "name"] []
  F_is_word : Fun K "is_word" "is_word" s_is_word A.f_is_word A.d_is_word
  b_is_word : Binds K A.d_is_word ["text"] []
  g_is_word : mg "is_word" = some (.ref A.f_is_word)
  F_is_name : Fun K "is_name" "is_name" s_is_name A.f_is_name A.d_is_name
  b_is_name : Binds K A.d_is_name ["text"] []
  g_is_name : mg "is_name" = some (.ref A.f_is_name)
  F_path_of : Fun K "path_of" "path_of" s_path_of A.f_path_of A.d_path_of
  b_path_of : Binds K A.d_path_of ["text"] []
  g_path_of : mg "path_of" = some (.ref A.f_path_of)
  F_side_of : Fun K "side_of" "side_of" s_side_of A.f_side_of A.d_side_of
  b_side_of : Binds K A.d_side_of ["text"] []
  g_side_of : mg "side_of" = some (.ref A.f_side_of)
  F_condition_of : Fun K "condition_of" "condition_of" s_condition_of A.f_condition_of A.d_condition_of
  b_condition_of : Binds K A.d_condition_of ["words"] []
  g_condition_of : mg "condition_of" = some (.ref A.f_condition_of)
  F_condition_names : Fun K "condition_names" "condition_names" s_condition_names A.f_condition_names A.d_condition_names
  b_condition_names : Binds K A.d_condition_names ["condition"] []
  g_condition_names : mg "condition_names" = some (.ref A.f_condition_names)
  F_Form_d_initd_ : RD.FunV K "__init__" "Form.__init__" s_Form_d_initd_ A.f_Form_d_initd_ A.d_Form_d_initd_
  b2_Form_d_initd_ : Binds K A.d_Form_d_initd_ ["self", "statement", "used", "bound"] [.ref A.e_Form_d_initd__0, .ref A.e_Form_d_initd__1]
  b1_Form_d_initd_ : Binds K A.d_Form_d_initd_ ["self", "statement", "used", "bound"] [.ref A.e_Form_d_initd__1]
  b_Form_d_initd_ : Binds K A.d_Form_d_initd_ ["self", "statement", "used", "bound"] []
  et_Form_d_initd__0 : ∀ H : Hp, SqT K H A.e_Form_d_initd__0 []
  et_Form_d_initd__1 : ∀ H : Hp, SqT K H A.e_Form_d_initd__1 []
  m_Form_d_initd_ : Meth K A.c_Form "__init__" A.f_Form_d_initd_
  F_Form_is_good : Fun K "is_good" "Form.is_good" s_Form_is_good A.f_Form_is_good A.d_Form_is_good
  b_Form_is_good : Binds K A.d_Form_is_good ["self"] []
  m_Form_is_good : Meth K A.c_Form "is_good" A.f_Form_is_good
  F_let_form : Fun K "let_form" "let_form" s_let_form A.f_let_form A.d_let_form
  b_let_form : Binds K A.d_let_form ["words"] []
  g_let_form : mg "let_form" = some (.ref A.f_let_form)
  F_write_form : Fun K "write_form" "write_form" s_write_form A.f_write_form A.d_write_form
  b_write_form : Binds K A.d_write_form ["words"] []
  g_write_form : mg "write_form" = some (.ref A.f_write_form)
  F_round_form : Fun K "round_form" "round_form" s_round_form A.f_round_form A.d_round_form
  b_round_form : Binds K A.d_round_form ["words"] []
  g_round_form : mg "round_form" = some (.ref A.f_round_form)
  F_condition_form : Fun K "condition_form" "condition_form" s_condition_form A.f_condition_form A.d_condition_form
  b_condition_form : Binds K A.d_condition_form ["words"] []
  g_condition_form : mg "condition_form" = some (.ref A.f_condition_form)
  F_tell_form : Fun K "tell_form" "tell_form" s_tell_form A.f_tell_form A.d_tell_form
  b_tell_form : Binds K A.d_tell_form ["words"] []
  g_tell_form : mg "tell_form" = some (.ref A.f_tell_form)
  F_form_of : Fun K "form_of" "form_of" s_form_of A.f_form_of A.d_form_of
  b_form_of : Binds K A.d_form_of ["line"] []
  g_form_of : mg "form_of" = some (.ref A.f_form_of)
  F_is_right_kind : Fun K "is_right_kind" "is_right_kind" s_is_right_kind A.f_is_right_kind A.d_is_right_kind
  b_is_right_kind : Binds K A.d_is_right_kind ["kind", "needed"] []
  g_is_right_kind : mg "is_right_kind" = some (.ref A.f_is_right_kind)
  F_first_line : Fun K "first_line" "first_line" s_first_line A.f_first_line A.d_first_line
  b_first_line : Binds K A.d_first_line ["line", "word"] []
  g_first_line : mg "first_line" = some (.ref A.f_first_line)
  F_Names_d_initd_ : Fun K "__init__" "Names.__init__" s_Names_d_initd_ A.f_Names_d_initd_ A.d_Names_d_initd_
  b_Names_d_initd_ : Binds K A.d_Names_d_initd_ ["self", "halves"] []
  m_Names_d_initd_ : Meth K A.c_Names "__init__" A.f_Names_d_initd_
  F_Names_kind_of : Fun K "kind_of" "Names.kind_of" s_Names_kind_of A.f_Names_kind_of A.d_Names_kind_of
  b_Names_kind_of : Binds K A.d_Names_kind_of ["self", "name"] []
  m_Names_kind_of : Meth K A.c_Names "kind_of" A.f_Names_kind_of
  F_Names_open_block : Fun K "open_block" "Names.open_block" s_Names_open_block A.f_Names_open_block A.d_Names_open_block
  b_Names_open_block : Binds K A.d_Names_open_block ["self"] []
  m_Names_open_block : Meth K A.c_Names "open_block" A.f_Names_open_block
  F_Names_close_block : Fun K "close_block" "Names.close_block" s_Names_close_block A.f_Names_close_block A.d_Names_close_block
  b_Names_close_block : Binds K A.d_Names_close_block ["self"] []
  m_Names_close_block : Meth K A.c_Names "close_block" A.f_Names_close_block
  F_Names_check : Fun K "check" "Names.check" s_Names_check A.f_Names_check A.d_Names_check
  b_Names_check : Binds K A.d_Names_check ["self", "form", "number"] []
  m_Names_check : Meth K A.c_Names "check" A.f_Names_check
  F_Names_is_free : Fun K "is_free" "Names.is_free" s_Names_is_free A.f_Names_is_free A.d_Names_is_free
  b_Names_is_free : Binds K A.d_Names_is_free ["self", "form"] []
  m_Names_is_free : Meth K A.c_Names "is_free" A.f_Names_is_free
  F_Names_bind : Fun K "bind" "Names.bind" s_Names_bind A.f_Names_bind A.d_Names_bind
  b_Names_bind : Binds K A.d_Names_bind ["self", "form"] []
  m_Names_bind : Meth K A.c_Names "bind" A.f_Names_bind
  F_RoutineReader_d_initd_ : Fun K "__init__" "RoutineReader.__init__" s_RoutineReader_d_initd_ A.f_RoutineReader_d_initd_ A.d_RoutineReader_d_initd_
  b_RoutineReader_d_initd_ : Binds K A.d_RoutineReader_d_initd_ ["self", "lines", "offset"] []
  m_RoutineReader_d_initd_ : Meth K A.c_RoutineReader "__init__" A.f_RoutineReader_d_initd_
  F_RoutineReader_read : Fun K "read" "RoutineReader.read" s_RoutineReader_read A.f_RoutineReader_read A.d_RoutineReader_read
  b_RoutineReader_read : Binds K A.d_RoutineReader_read ["self"] []
  m_RoutineReader_read : Meth K A.c_RoutineReader "read" A.f_RoutineReader_read
  F_RoutineReader_read_line : Fun K "read_line" "RoutineReader.read_line" s_RoutineReader_read_line A.f_RoutineReader_read_line A.d_RoutineReader_read_line
  b_RoutineReader_read_line : Binds K A.d_RoutineReader_read_line ["self", "at", "known"] []
  m_RoutineReader_read_line : Meth K A.c_RoutineReader "read_line" A.f_RoutineReader_read_line
  F_RoutineReader_may_stand : Fun K "may_stand" "RoutineReader.may_stand" s_RoutineReader_may_stand A.f_RoutineReader_may_stand A.d_RoutineReader_may_stand
  b_RoutineReader_may_stand : Binds K A.d_RoutineReader_may_stand ["self", "statement", "at"] []
  m_RoutineReader_may_stand : Meth K A.c_RoutineReader "may_stand" A.f_RoutineReader_may_stand
  F_RoutineReader_resolved : Fun K "resolved" "RoutineReader.resolved" s_RoutineReader_resolved A.f_RoutineReader_resolved A.d_RoutineReader_resolved
  b_RoutineReader_resolved : Binds K A.d_RoutineReader_resolved ["self", "statement", "known"] []
  m_RoutineReader_resolved : Meth K A.c_RoutineReader "resolved" A.f_RoutineReader_resolved
  F_RoutineReader_add : Fun K "add" "RoutineReader.add" s_RoutineReader_add A.f_RoutineReader_add A.d_RoutineReader_add
  b_RoutineReader_add : Binds K A.d_RoutineReader_add ["self", "statement", "at", "known"] []
  m_RoutineReader_add : Meth K A.c_RoutineReader "add" A.f_RoutineReader_add
  F_Routine_d_initd_ : Fun K "__init__" "Routine.__init__" s_Routine_d_initd_ A.f_Routine_d_initd_ A.d_Routine_d_initd_
  b_Routine_d_initd_ : Binds K A.d_Routine_d_initd_ ["self", "names", "told", "lines", "statements"] []
  m_Routine_d_initd_ : Meth K A.c_Routine "__init__" A.f_Routine_d_initd_
  F_Routine_d_lend_ : Fun K "__len__" "Routine.__len__" s_Routine_d_lend_ A.f_Routine_d_lend_ A.d_Routine_d_lend_
  b_Routine_d_lend_ : Binds K A.d_Routine_d_lend_ ["self"] []
  m_Routine_d_lend_ : Meth K A.c_Routine "__len__" A.f_Routine_d_lend_
  F_read_routine : Fun K "read_routine" "read_routine" s_read_routine A.f_read_routine A.d_read_routine
  b_read_routine : Binds K A.d_read_routine ["text"] []
  g_read_routine : mg "read_routine" = some (.ref A.f_read_routine)
  F_l_tape : Fun K "_law_tape" "_law_tape" s_l_tape A.f_l_tape A.d_l_tape
  b_l_tape : Binds K A.d_l_tape ["_law_script", "_law_k"] []
  g_l_tape : mg "_law_tape" = some (.ref A.f_l_tape)
  F_l_pick : Fun K "_law_pick" "_law_pick" s_l_pick A.f_l_pick A.d_l_pick
  b_l_pick : Binds K A.d_l_pick ["_law_tape_here", "_law_many"] []
  g_l_pick : mg "_law_pick" = some (.ref A.f_l_pick)
  F_l_reserved : Fun K "_law_reserved" "_law_reserved" s_l_reserved A.f_l_reserved A.d_l_reserved
  b_l_reserved : Binds K A.d_l_reserved [] []
  g_l_reserved : mg "_law_reserved" = some (.ref A.f_l_reserved)
  F_l_string : Fun K "_law_string" "_law_string" s_l_string A.f_l_string A.d_l_string
  b_l_string : Binds K A.d_l_string ["_law_tape_here"] []
  g_l_string : mg "_law_string" = some (.ref A.f_l_string)
  F_l_good : Fun K "_law_good" "_law_good" s_l_good A.f_l_good A.d_l_good
  b_l_good : Binds K A.d_l_good ["_law_text"] []
  g_l_good : mg "_law_good" = some (.ref A.f_l_good)
  F_l_told : Fun K "_law_told" "_law_told" s_l_told A.f_l_told A.d_l_told
  b_l_told : Binds K A.d_l_told ["_law_text"] []
  g_l_told : mg "_law_told" = some (.ref A.f_l_told)
  F_law : Fun K "law" "law" s_law A.f_law A.d_law
  b_law : Binds K A.d_law ["_law_script"] []
  g_law : mg "law" = some (.ref A.f_law)
  g_MeshError : mg "MeshError" = some (.ref A.c_MeshError)
  g_BadLine : mg "BadLine" = some (.ref A.c_BadLine)
  k_BadLine : PySem.W.keepIn K (.ref A.c_BadLine) = true
  s_BadLine : PySem.W.subIn K (.ref A.c_BadLine) (.type "BaseException") = some true
  t_BadLine : PySem.W.typeIn K (.ref A.c_BadLine) = some (.type "type")
  i_BadLine : PySem.W.isClsIn K A.c_BadLine = true
  ss_BadLine : PySem.W.subIn K (.ref A.c_BadLine) (.ref A.c_BadLine) = some true
  xg_BadLine : PySem.W.findIn K (.ref A.c_BadLine) "__getattribute__" = some (some (.builtin "BaseException.__getattribute__"))
  xk_BadLine : PySem.W.findIn K (.ref A.c_BadLine) "__getattr__" = some none
  xd_BadLine : PySem.W.hasDictIn K A.c_BadLine = true
  xa_BadLine : PySem.W.findIn K (.ref A.c_BadLine) "__class__" = some (some (.builtin "object.__class__"))
  xm_BadLine : PySem.W.mroIn K A.c_BadLine (.type "object") = some true
  ox_BadLine : RD.oexB K A.c_BadLine = true
  sa_BadLine : PySem.W.findIn K (.ref A.c_BadLine) "__setattr__" = some (some (.builtin "object.__setattr__"))
  ini_BadLine : PySem.W.findIn K (.ref A.c_BadLine) "__init__" = some (some (.ref A.f_BadLine_d_initd_))
  tin_BadLine : PySem.W.typeIn K (.ref A.f_BadLine_d_initd_) = some (.type "function")
  na_BadLine_line : PySem.W.findIn K (.ref A.c_BadLine) "line" = some none
  ki_BadLine_MeshError : PySem.W.kitOne K (.ref A.c_BadLine) (.ref A.c_MeshError) = some true
  ki_BadLine_ValueError : PySem.W.kitOne K (.ref A.c_BadLine) (.type "ValueError") = some true
  g_UnknownName : mg "UnknownName" = some (.ref A.c_UnknownName)
  k_UnknownName : PySem.W.keepIn K (.ref A.c_UnknownName) = true
  s_UnknownName : PySem.W.subIn K (.ref A.c_UnknownName) (.type "BaseException") = some true
  t_UnknownName : PySem.W.typeIn K (.ref A.c_UnknownName) = some (.type "type")
  i_UnknownName : PySem.W.isClsIn K A.c_UnknownName = true
  ss_UnknownName : PySem.W.subIn K (.ref A.c_UnknownName) (.ref A.c_UnknownName) = some true
  xg_UnknownName : PySem.W.findIn K (.ref A.c_UnknownName) "__getattribute__" = some (some (.builtin "BaseException.__getattribute__"))
  xk_UnknownName : PySem.W.findIn K (.ref A.c_UnknownName) "__getattr__" = some none
  xd_UnknownName : PySem.W.hasDictIn K A.c_UnknownName = true
  xa_UnknownName : PySem.W.findIn K (.ref A.c_UnknownName) "__class__" = some (some (.builtin "object.__class__"))
  xm_UnknownName : PySem.W.mroIn K A.c_UnknownName (.type "object") = some true
  ox_UnknownName : RD.oexB K A.c_UnknownName = true
  sa_UnknownName : PySem.W.findIn K (.ref A.c_UnknownName) "__setattr__" = some (some (.builtin "object.__setattr__"))
  ini_UnknownName : PySem.W.findIn K (.ref A.c_UnknownName) "__init__" = some (some (.ref A.f_UnknownName_d_initd_))
  tin_UnknownName : PySem.W.typeIn K (.ref A.f_UnknownName_d_initd_) = some (.type "function")
  na_UnknownName_line : PySem.W.findIn K (.ref A.c_UnknownName) "line" = some none
  na_UnknownName_name : PySem.W.findIn K (.ref A.c_UnknownName) "name" = some none
  ki_UnknownName_MeshError : PySem.W.kitOne K (.ref A.c_UnknownName) (.ref A.c_MeshError) = some true
  em_UnknownName_BadLine : PySem.W.exmOne K (.ref A.c_UnknownName) (.ref A.c_BadLine) = some false
  g_WrongKind : mg "WrongKind" = some (.ref A.c_WrongKind)
  k_WrongKind : PySem.W.keepIn K (.ref A.c_WrongKind) = true
  s_WrongKind : PySem.W.subIn K (.ref A.c_WrongKind) (.type "BaseException") = some true
  t_WrongKind : PySem.W.typeIn K (.ref A.c_WrongKind) = some (.type "type")
  i_WrongKind : PySem.W.isClsIn K A.c_WrongKind = true
  ss_WrongKind : PySem.W.subIn K (.ref A.c_WrongKind) (.ref A.c_WrongKind) = some true
  xg_WrongKind : PySem.W.findIn K (.ref A.c_WrongKind) "__getattribute__" = some (some (.builtin "BaseException.__getattribute__"))
  xk_WrongKind : PySem.W.findIn K (.ref A.c_WrongKind) "__getattr__" = some none
  xd_WrongKind : PySem.W.hasDictIn K A.c_WrongKind = true
  xa_WrongKind : PySem.W.findIn K (.ref A.c_WrongKind) "__class__" = some (some (.builtin "object.__class__"))
  xm_WrongKind : PySem.W.mroIn K A.c_WrongKind (.type "object") = some true
  ox_WrongKind : RD.oexB K A.c_WrongKind = true
  sa_WrongKind : PySem.W.findIn K (.ref A.c_WrongKind) "__setattr__" = some (some (.builtin "object.__setattr__"))
  ini_WrongKind : PySem.W.findIn K (.ref A.c_WrongKind) "__init__" = some (some (.ref A.f_WrongKind_d_initd_))
  tin_WrongKind : PySem.W.typeIn K (.ref A.f_WrongKind_d_initd_) = some (.type "function")
  na_WrongKind_line : PySem.W.findIn K (.ref A.c_WrongKind) "line" = some none
  na_WrongKind_name : PySem.W.findIn K (.ref A.c_WrongKind) "name" = some none
  ki_WrongKind_MeshError : PySem.W.kitOne K (.ref A.c_WrongKind) (.ref A.c_MeshError) = some true
  em_WrongKind_BadLine : PySem.W.exmOne K (.ref A.c_WrongKind) (.ref A.c_BadLine) = some false
  g_Form : mg "Form" = some (.ref A.c_Form)
  cl_Form : Cls K A.c_Form
  mk_Form : Mk K A.c_Form A.f_Form_d_initd_
  n_Form_bound : NoAttr K A.c_Form "bound"
  n_Form_statement : NoAttr K A.c_Form "statement"
  n_Form_uses : NoAttr K A.c_Form "uses"
  g_Names : mg "Names" = some (.ref A.c_Names)
  cl_Names : Cls K A.c_Names
  mk_Names : Mk K A.c_Names A.f_Names_d_initd_
  n_Names_scopes : NoAttr K A.c_Names "scopes"
  g_RoutineReader : mg "RoutineReader" = some (.ref A.c_RoutineReader)
  cl_RoutineReader : Cls K A.c_RoutineReader
  mk_RoutineReader : Mk K A.c_RoutineReader A.f_RoutineReader_d_initd_
  n_RoutineReader_blocks : NoAttr K A.c_RoutineReader "blocks"
  n_RoutineReader_has_labels : NoAttr K A.c_RoutineReader "has_labels"
  n_RoutineReader_lines : NoAttr K A.c_RoutineReader "lines"
  n_RoutineReader_offset : NoAttr K A.c_RoutineReader "offset"
  n_RoutineReader_statements : NoAttr K A.c_RoutineReader "statements"
  g_Routine : mg "Routine" = some (.ref A.c_Routine)
  cl_Routine : Cls K A.c_Routine
  mk_Routine : Mk K A.c_Routine A.f_Routine_d_initd_
  n_Routine_halves : NoAttr K A.c_Routine "halves"
  n_Routine_lines : NoAttr K A.c_Routine "lines"
  n_Routine_name : NoAttr K A.c_Routine "name"
  n_Routine_statements : NoAttr K A.c_Routine "statements"
  n_Routine_told : NoAttr K A.c_Routine "told"
  z_ValueError : mg "ValueError" = none
  z_abs : mg "abs" = none
  z_all : mg "all" = none
  z_bool : mg "bool" = none
  z_int : mg "int" = none
  z_isinstance : mg "isinstance" = none
  z_len : mg "len" = none
  z_list : mg "list" = none
  z_range : mg "range" = none
  z_set : mg "set" = none
  z_tuple : mg "tuple" = none
  k_FIRST_CHARS : ∃ t, mg "FIRST_CHARS" = some (.str "abcdefghijklmnopqrstuvwxyz" t)
  k_CHARS : ∃ t, mg "CHARS" = some (.str "abcdefghijklmnopqrstuvwxyz0123456789" t)
  k_MOST_LINES : ∃ t, mg "MOST_LINES" = some (.int 60 t)
  k_MOST_BLOCKS : ∃ t, mg "MOST_BLOCKS" = some (.int 3 t)
  k_MOST_LINKS : ∃ t, mg "MOST_LINKS" = some (.int 4 t)
  k_HALF : ∃ t, mg "HALF" = some (.str "half" t)
  oc_get : PySem.W.specialIn K (.builtin "object.__class__") "__get__" = some (some (.builtin "getset_descriptor.__get__"))
  oc_tak : PySem.W.takesIn K (.builtin "object.__class__") = some true
  k_RESERVED : mg "RESERVED" = some (.ref A.k_RESERVED)
  kt_RESERVED : ∀ H : Hp, SqT K H A.k_RESERVED [.str "routine", .str "script", .str "given", .str "let", .str "make", .str "drop", .str "if", .str "else", .str "end", .str "new", .str "round", .str "tell", .str "call", .str "next", .str "prev", .str "twin", .str "face", .str "corner", .str "some"]
  k_LINKS : mg "LINKS" = some (.ref A.k_LINKS)
  kt_LINKS : ∀ H : Hp, SqT K H A.k_LINKS [.str "next", .str "prev", .str "twin"]
  k_KINDS : mg "KINDS" = some (.ref A.k_KINDS)
  kt_KINDS : ∀ H : Hp, SqT K H A.k_KINDS [.str "face", .str "corner"]
  k_LABEL_LINES : mg "LABEL_LINES" = some (.ref A.k_LABEL_LINES)
  kt_LABEL_LINES : ∀ H : Hp, SqT K H A.k_LABEL_LINES [.str "new", .str "bear", .str "round", .str "some"]
theorem Txt.exc_BadLine {K : PySem.W.Frag} {mg : Str → Option Value} {A : Ad} (T : Txt K mg A) : ExcC K A.c_BadLine := ⟨T.xg_BadLine, T.xk_BadLine, T.s_BadLine, T.xd_BadLine, T.xa_BadLine, T.oc_get, T.oc_tak, T.xm_BadLine⟩
theorem Txt.te_BadLine {K : PySem.W.Frag} {mg : Str → Option Value} {A : Ad} (T : Txt K mg A) : PySem.W.exmOne K (.ref A.c_BadLine) (.ref A.c_BadLine) = some true := RD.exm_self T.s_BadLine T.i_BadLine T.t_BadLine T.ss_BadLine
theorem Txt.exc_UnknownName {K : PySem.W.Frag} {mg : Str → Option Value} {A : Ad} (T : Txt K mg A) : ExcC K A.c_UnknownName := ⟨T.xg_UnknownName, T.xk_UnknownName, T.s_UnknownName, T.xd_UnknownName, T.xa_UnknownName, T.oc_get, T.oc_tak, T.xm_UnknownName⟩
theorem Txt.te_UnknownName {K : PySem.W.Frag} {mg : Str → Option Value} {A : Ad} (T : Txt K mg A) : PySem.W.exmOne K (.ref A.c_UnknownName) (.ref A.c_UnknownName) = some true := RD.exm_self T.s_UnknownName T.i_UnknownName T.t_UnknownName T.ss_UnknownName
theorem Txt.exc_WrongKind {K : PySem.W.Frag} {mg : Str → Option Value} {A : Ad} (T : Txt K mg A) : ExcC K A.c_WrongKind := ⟨T.xg_WrongKind, T.xk_WrongKind, T.s_WrongKind, T.xd_WrongKind, T.xa_WrongKind, T.oc_get, T.oc_tak, T.xm_WrongKind⟩
theorem Txt.te_WrongKind {K : PySem.W.Frag} {mg : Str → Option Value} {A : Ad} (T : Txt K mg A) : PySem.W.exmOne K (.ref A.c_WrongKind) (.ref A.c_WrongKind) = some true := RD.exm_self T.s_WrongKind T.i_WrongKind T.t_WrongKind T.ss_WrongKind
theorem Txt.xf_BadLine {K : PySem.W.Frag} {mg : Str → Option Value} {A : Ad} (T : Txt K mg A) : XfC K A.c_BadLine := ⟨T.xg_BadLine, T.xk_BadLine, T.s_BadLine, T.xd_BadLine⟩
theorem Txt.oex_BadLine {K : PySem.W.Frag} {mg : Str → Option Value} {A : Ad} (T : Txt K mg A) : OexC K A.c_BadLine := RD.oexC T.ox_BadLine T.sa_BadLine T.s_BadLine T.t_BadLine T.k_BadLine
theorem Txt.xf_UnknownName {K : PySem.W.Frag} {mg : Str → Option Value} {A : Ad} (T : Txt K mg A) : XfC K A.c_UnknownName := ⟨T.xg_UnknownName, T.xk_UnknownName, T.s_UnknownName, T.xd_UnknownName⟩
theorem Txt.oex_UnknownName {K : PySem.W.Frag} {mg : Str → Option Value} {A : Ad} (T : Txt K mg A) : OexC K A.c_UnknownName := RD.oexC T.ox_UnknownName T.sa_UnknownName T.s_UnknownName T.t_UnknownName T.k_UnknownName
theorem Txt.xf_WrongKind {K : PySem.W.Frag} {mg : Str → Option Value} {A : Ad} (T : Txt K mg A) : XfC K A.c_WrongKind := ⟨T.xg_WrongKind, T.xk_WrongKind, T.s_WrongKind, T.xd_WrongKind⟩
theorem Txt.oex_WrongKind {K : PySem.W.Frag} {mg : Str → Option Value} {A : Ad} (T : Txt K mg A) : OexC K A.c_WrongKind := RD.oexC T.ox_WrongKind T.sa_WrongKind T.s_WrongKind T.t_WrongKind T.k_WrongKind
end Pf
local macro_rules | `(tactic| walk_at "rd1") => `(tactic| (with_reducible first
  | refine RD.var0 ?_ | refine RD.varS ?_ | refine RD.cstT ?_ | refine RD.lst_set ?_ | refine RD.notT ?_ | refine RD.eqTx ?_ | refine RD.neTx ?_ | refine RD.cst ?_ | refine RD.op ?_ | refine RD.i0 ?_ | refine RD.eqI ?_ | refine RD.neI ?_ | refine RD.exb ?_ | refine RD.tst ?_ | refine RD.tb' ?_
  | refine RD.seq ?_ | refine RD.asg ?_ | refine RD.gn0 ?_ | refine RD.gnS ?_ | refine RD.ifs ?_ | refine RD.ret ?_ | refine RD.nxt ?_ | refine RD.drp ?_ | refine RD.cons ?_ | refine RD.nil ?_
  | refine RD.cb ?_ | refine RD.call ?_ | refine RD.bT ?_ | refine RD.bF ?_ | refine RD.and ?_ | refine RD.or ?_ | refine RD.not ?_ | refine RD.andV ?_ | refine RD.orV ?_ | refine RD.notV ?_ | refine RD.tif ?_
  | refine RD.for_ ?_ | refine RD.iL ?_ | refine RD.iR1 ?_ | refine RD.iR2 ?_ | refine RD.iE ?_ | refine RD.iT ?_ | refine RD.iZ ?_ | refine RD.iS ?_ | refine RD.lc_ ?_ | refine RD.dc_ ?_ | refine RD.bm ?_ | refine RD.bm0 ?_ | refine RD.fld ?_ | refine RD.meth ?_ | refine RD.make ?_
  | refine RD.lst ?_ | refine RD.tup ?_ | refine RD.sl ?_ | refine RD.nop ?_ | refine RD.prt ?_ | refine RD.exi ?_ | refine RD.un ?_ | refine RD.u0 ?_ | refine RD.aug ?_ | refine RD.gsub ?_ | refine RD.chain ?_ | refine RD.yes ?_
  | refine RD.eqB ?_ | refine RD.neB ?_ | refine RD.eqS ?_ | refine RD.neS ?_ | refine RD.dput ?_ | refine RD.dget ?_ | refine RD.din ?_ | refine RD.dnin ?_ | refine RD.dnew ?_ | refine RD.sfld ?_ | refine RD.lrg ?_ | refine RD.rg1 ?_ | refine RD.int1 ?_ | refine RD.abs1 ?_ | refine RD.max2 ?_ | refine RD.min2 ?_ | refine RD.tru ?_ | refine RD.retN ?_ | refine RD.brk ?_ | refine RD.cnt ?_ | refine RD.prop ?_ | refine RD.ipi ?_ | refine RD.m1 ?_ | refine RD.ost ?_ | refine RD.star ?_ | refine RD.xf ?_ | refine RD.iSq ?_ | refine RD.callN ?_))
local macro_rules | `(tactic| walk_at "rd") => `(tactic| (repeat (walk_at "rd1")))
local macro_rules | `(tactic| walk_at "hp") => `(tactic| first | assumption | exact upd_same | (rw [upd_ne (by first | assumption | (apply Ne.symm; assumption) | (exact ne_of_none (by assumption) (by assumption)) | (exact Ne.symm (ne_of_none (by assumption) (by assumption))))]; walk_at "hp"))
local macro_rules | `(tactic| walk_at "wp") => `(tactic| simp only [L2.wipe, List.map_cons, List.map_nil, List.set_cons_succ, List.set_cons_zero])
local macro_rules | `(tactic| walk_at "gn") => `(tactic| (repeat (with_reducible first | refine RD.gn0 ?_ | refine RD.gnS ?_)))
local macro_rules | `(tactic| walk_at "rn") => `(tactic| (repeat (first | walk_at "rd1" | (with_reducible first | refine RD.nbF ?_ | refine RD.nbT ?_))))
namespace Pf
open PySem PySem.Spec PyProof.Rows L2 SX RD PR
def sp_is_word : Sp := fun vs H Q _ => ∃ t : Tx, vs = [vst t] ∧ t.length ≤ 100000 ∧ ∀ H', Same H H' → Q (.bl (isWord t)) H'
def sp_is_name : Sp := fun vs H Q _ => ∃ t : Tx, vs = [vst t] ∧ t.length ≤ 100000 ∧ ∀ H', Same H H' → Q (.bl (isName t)) H'
theorem lCh : Str.ofString "abcdefghijklmnopqrstuvwxyz0123456789" = S charC := lit _
theorem lFc : Str.ofString "abcdefghijklmnopqrstuvwxyz" = S firstC := lit _
theorem vsts_resv : ([.str "routine", .str "script", .str "given", .str "let", .str "make", .str "drop", .str "if", .str "else", .str "end", .str "new", .str "round", .str "tell", .str "call", .str "next", .str "prev", .str "twin", .str "face", .str "corner", .str "some"] : List V) = vsts resv := by
  unfold vsts resv
  simp only [List.map_cons, List.map_nil, lit]
theorem vsts_links : ([.str "next", .str "prev", .str "twin"] : List V) = vsts links := by
  unfold vsts links
  simp only [List.map_cons, List.map_nil, lit]
theorem vsts_kinds : ([.str "face", .str "corner"] : List V) = vsts kinds := by
  unfold vsts kinds
  simp only [List.map_cons, List.map_nil, lit]
theorem vsts_labL : ([.str "new", .str "bear", .str "round", .str "some"] : List V) = vsts labL := by
  unfold vsts labL
  simp only [List.map_cons, List.map_nil, lit]
section
variable {P : Program} {w : World} {K : PySem.W.Frag} {mg : Str → Option Value} {base : Heap} {A : Ad}
theorem ok_is_word (T : Txt K mg A) : FnOk P w K mg base CX0 1 A.f_is_word A.d_is_word ["text"] (sp_is_word) := by
  refine T.F_is_word.ok sc_is_word (fun vs H Q E h => ?_) (fun cdv Ar outer s H vs Q E hr h => ?_)
  · obtain ⟨t, rfl, _⟩ := h
    rfl
  · obtain ⟨t, rfl, hl, q⟩ := h
    refine ⟨_, (pss_one (ps_ret (pe_and (pe_chain op_le op_le pe_int (pe_callB RD.k_lenS (by rfl) T.z_len (by decide +kernel) (pa_cons (pv 0) pa_nil)) pe_int) (pe_one (pe_callB (RD.k_all (K := K) rfl rfl) (by rfl) T.z_all (by decide +kernel) (pa_cons (pe_lc (own := [("char", 1)]) (g := gName 1) (by rfl) sc_is_word.nd (pi_str (pv 0)) (blkOk_by (own := [("char", 1)]) (N := ["text", "char"]) (sc := defScope s_is_word) (by decide +kernel)) (fun _ _ _ _ _ => (pg_name (i := 1) sc_is_word.nd rfl (Or.inl rfl))) (fun _ _ _ _ _ => pts_nil) (fun _ _ _ _ _ => (pe_cmpR RD.k_sgn (pv 1) (RD.pe_gl (by rfl) T.k_CHARS) (by rfl)))) pa_nil)))))), ?_⟩
    show tRet _ _ [some (vst t), none] H
    walk_at "rd"
    refine RD.lenTx (by omega) ?_
    walk_at "rd"
    refine RD.dec (fun h1 => ?_) (fun h1 => ?_)
    · walk_at "rd"
      refine RD.dec (fun h2 => ?_) (fun h2 => ?_)
      · walk_at "rd"
        refine RD.lcS (by omega) (fun _ => true) (fun c => .bl (decide (c ∈ charC))) (fun i c H1 Q' R' hc s kT kF => ?_) (fun H' p np s hp => ?_)
        · walk_at "wp"
          walk_at "rd"
          refine ⟨rfl, ?_⟩
          walk_at "rd"
          exact RD.isg (kT rfl _ (Same.refl _))
        · rw [RD.pick_all (fun _ => rfl)] at hp
          walk_at "rd"
          refine RD.all1 (bs := t.map fun c => decide (c ∈ charC)) (sq (by rw [hp, List.map_map]; rfl)) ?_
          have e : isWord t = (t.map fun c => decide (c ∈ charC)).all id := by
            unfold isWord
            rw [decide_eq_true (show 1 ≤ t.length by omega), decide_eq_true (show t.length ≤ 8 by omega), Bool.true_and, Bool.true_and, List.all_map]
            rfl
          rw [← e]
          exact q _ s
      · walk_at "rd"
        have e : isWord t = false := by
          unfold isWord
          rw [decide_eq_false (show ¬ t.length ≤ 8 by omega), Bool.false_and, Bool.and_false]
        rw [← e]
        exact q _ (Same.refl _)
    · walk_at "rd"
      have e : isWord t = false := by
        unfold isWord
        rw [decide_eq_false (show ¬ 1 ≤ t.length by omega), Bool.false_and]
      rw [← e]
      exact q _ (Same.refl _)
theorem ok_is_name (T : Txt K mg A) : FnOk P w K mg base CX0 2 A.f_is_name A.d_is_name ["text"] (sp_is_name) := by
  have G_is_word := ok_is_word (P := P) (w := w) (base := base) T
  refine T.F_is_name.ok sc_is_name (fun vs H Q E h => ?_) (fun cdv Ar outer s H vs Q E hr h => ?_)
  · obtain ⟨t, rfl, _⟩ := h
    rfl
  · obtain ⟨t, rfl, hl, q⟩ := h
    refine ⟨_, (pss_one (ps_ret (pe_and (pe_call G_is_word (hr.mono (by decide)) (by rfl) T.g_is_word T.F_is_word.kp T.b_is_word .nil pass0 (pa_cons (pv 0) pa_nil)) (pe_and (pe_cmpR RD.k_sgn (pe_ix ix_str (pv 0) pe_int (fun _ _ => rfl)) (RD.pe_gl (by rfl) T.k_FIRST_CHARS) (by rfl)) (pe_one (pe_cmpR (RD.k_notin (K := K) rfl) (pv 0) (pe_glob (v := .ref A.k_RESERVED) rfl T.k_RESERVED rfl) (by rfl))))))), ?_⟩
    show tRet _ _ [some (vst t)] H
    walk_at "rd"
    refine ⟨t, rfl, hl, fun H' s => ?_⟩
    cases hw : isWord t with
    | false =>
      walk_at "rd"
      have e : isName t = false := by
        unfold isName
        rw [hw, Bool.false_and]
      rw [← e]
      exact q _ s
    | true =>
      walk_at "rd"
      obtain ⟨c, r, rfl⟩ : ∃ c r, t = c :: r := by
        cases t with
        | nil => exact absurd hw (by decide)
        | cons c r => exact ⟨c, r, rfl⟩
      refine RD.ixS (by omega) (c := c) (show atI (c :: r) ((0 : Nat) : Int) = some c from atI_nat rfl) ?_
      walk_at "rd"
      refine RD.isg ?_
      walk_at "rd"
      refine RD.dec (fun h1 => ?_) (fun h1 => ?_)
      · walk_at "rd"
        refine RD.ninT (ls := resv) (by rw [← vsts_resv]; exact T.kt_RESERVED _) ?_
        have e : isName (c :: r) = !decide ((c :: r) ∈ resv) := by
          unfold isName
          rw [hw, Bool.true_and]
          show (decide (c ∈ firstC) && _) = _
          rw [decide_eq_true (show c ∈ firstC from h1), Bool.true_and]
        rw [← e]
        exact q _ s
      · walk_at "rd"
        have e : isName (c :: r) = false := by
          unfold isName
          rw [hw, Bool.true_and]
          show (decide (c ∈ firstC) && _) = _
          rw [decide_eq_false (show ¬ c ∈ firstC from h1), Bool.false_and]
        rw [← e]
        exact q _ s
end
end Pf

namespace Pf
open PySem PySem.Spec PyProof.Rows L2 SX RD PR
def OptAt {α : Type} (R : V → α → Prop) (v : V) : Option α → Prop
  | none => v = .non
  | some x => R v x
def sp_path_of (K : PySem.W.Frag) : Sp := fun vs H Q _ => ∃ t : Tx, vs = [vst t] ∧ t.length ≤ 10000 ∧ ∀ H' v, Same H H' → OptAt (PathAt K H') v (pathOf t) → Q v H'
def sp_side_of (K : PySem.W.Frag) : Sp := fun vs H Q _ => ∃ t : Tx, vs = [vst t] ∧ t.length ≤ 10000 ∧ ∀ H' v, Same H H' → OptAt (SideAt K H') v (sideOf t) → Q v H'
theorem isEmpty_txs (ls : List Tx) : (vsts ls).isEmpty = ls.isEmpty := by cases ls <;> rfl
theorem filter_none {ls : List Tx} {p : Tx → Bool} : (ls.filter p).isEmpty = true ↔ ∀ l ∈ ls, p l = false := by
  rw [List.isEmpty_iff, List.filter_eq_nil_iff]
  constructor
  · intro h l hl
    have := h l hl
    cases e : p l
    · rfl
    · exact absurd e this
  · intro h l hl
    rw [h l hl]
    exact Bool.false_ne_true
section
variable {P : Program} {w : World} {K : PySem.W.Frag} {mg : Str → Option Value} {base : Heap} {A : Ad}
theorem ok_path_of (T : Txt K mg A) : FnOk P w K mg base CX0 2 A.f_path_of A.d_path_of ["text"] (sp_path_of K) := by
  have G_is_word := ok_is_word (P := P) (w := w) (base := base) T
  refine T.F_path_of.ok sc_path_of (fun vs H Q E h => ?_) (fun cdv Ar outer s H vs Q E hr h => ?_)
  · obtain ⟨t, rfl, _⟩ := h
    rfl
  · obtain ⟨t, rfl, hl, q⟩ := h
    refine ⟨_, (pss_cons (ps_asg (RD.k_split (pv 0) pe_str) (RD.k_star (K := K) rfl (pgs_cons (pg_name (i := 1) sc_path_of.nd rfl (Or.inl rfl)) (RD.pgs_star (pg_name (i := 2) sc_path_of.nd rfl (Or.inl rfl)) pgs_nil))))
      (pss_cons (ps_if (PW.pt (pw_or (pt_not (pt_val (pe_call G_is_word (hr.mono (by decide)) (by rfl) T.g_is_word T.F_is_word.kp T.b_is_word .nil pass0 (pa_cons (pv 1) pa_nil)))) (pw_or (pt_cmpR op_gt (pe_callB (RD.k_len (K := K) rfl) (by rfl) T.z_len (by decide +kernel) (pa_cons (pv 2) pa_nil)) (RD.pe_glI (by rfl) T.k_MOST_LINKS) (nomark _)) (pw_or1 (RD.k_tru (K := K) rfl (pe_lc (own := [("link", 3)]) (g := gName 3) (by rfl) sc_path_of.nd (RD.k_pil (K := K) rfl (pv 2)) (blkOk_by (own := [("link", 3)]) (N := ["text", "name", "links", "link"]) (sc := defScope s_path_of) (by decide +kernel)) (fun _ _ _ _ _ => (pg_name (i := 3) sc_path_of.nd rfl (Or.inl rfl))) (fun _ _ _ _ _ => (pts_one (pt_cmpR (RD.k_notin (K := K) rfl) (pv 3) (pe_glob (v := .ref A.k_LINKS) rfl T.k_LINKS rfl) (by rfl)))) (fun _ _ _ _ _ => (pv 3))) (by intro _; rfl))))))
      (pss_one (ps_ret pe_non))
      pss_nil)
      (pss_one (ps_ret (pe_tup (pa_cons (pv 1) (pa_cons (pe_callTy (RD.k_tupOf (K := K) rfl) (by rfl) T.z_tuple (by decide +kernel) (pa_cons (pv 2) pa_nil)) pa_nil))))))), ?_⟩
    show tSeq _ _ _ [some (vst t), none, none, none] H
    walk_at "rd"
    refine ⟨⟨_, rfl⟩, ?_⟩
    walk_at "rd"
    rw [tdot]
    refine RD.splt (by decide) (by omega) fun p np => ?_
    have hc := spc_cnt 46 t
    have hn := spc_ne 46 t
    have hb := spc_len 46 t
    have e0 : TL.spl [46] 0 [] t = spc 46 t := rfl
    rw [e0]
    cases es : spc 46 t with
    | nil => exact absurd es hn
    | cons n ls =>
      rw [es] at hc hb
      rw [List.length_cons] at hc
      have ln : n.length ≤ 10000 := Nat.le_trans (hb n List.mem_cons_self) hl
      refine RD.gst (sq upd_same) (by omega) fun D nD => ?_
      walk_at "rd"
      refine ⟨n, rfl, by omega, fun H1 s1 => ?_⟩
      have sm : Same H H1 := ((same_new np).trans (same_new nD)).trans s1
      have hD : H1 D = some (.lst (vsts ls)) := s1 _ _ upd_same
      have no : pathOf t = none → ∀ H', Same H H' → Q .non H' := fun e H' s => q H' _ s (by rw [e]; rfl)
      cases hw : isWord n with
      | false =>
        walk_at "rn"
        refine no ?_ _ sm
        unfold pathOf
        rw [es]
        exact if_neg fun z => by rw [hw] at z; exact absurd z.1 Bool.false_ne_true
      | true =>
        walk_at "rn"
        refine RD.len (sq hD) ?_
        rw [vsts_len]
        walk_at "rd"
        refine RD.dec (fun h4 => ?_) (fun h4 => ?_)
        · walk_at "rd"
          refine no ?_ _ sm
          unfold pathOf
          rw [es]
          exact if_neg fun z => by have := z.2.1; omega
        · walk_at "rd"
          refine RD.lcTx (sq hD) (by omega) (fun l => !decide (l ∈ links)) vst (fun i x H2 Q' R' hx s2 kT kF => ?_) (fun H2 r nr s2 hr2 => ?_)
          · walk_at "wp"
            walk_at "rd"
            refine ⟨rfl, ?_⟩
            walk_at "rd"
            refine RD.ninT (ls := links) (by rw [← vsts_links]; exact T.kt_LINKS _) ?_
            walk_at "rd"
            by_cases hm : x ∈ links
            · rw [decide_eq_true hm] at kF ⊢
              exact RD.bF (kF rfl _ (Same.refl _))
            · rw [decide_eq_false hm] at kT ⊢
              refine RD.bT ?_
              walk_at "rd"
              exact kT rfl _ (Same.refl _)
          · rw [pick_filter] at hr2
            refine RD.truL (sq hr2) ?_
            have ee : ((ls.filter fun l => !decide (l ∈ links)).map vst).isEmpty = (ls.filter fun l => !decide (l ∈ links)).isEmpty := isEmpty_txs _
            rw [ee]
            cases hf : (ls.filter fun l => !decide (l ∈ links)).isEmpty with
            | false =>
              walk_at "rn"
              refine no ?_ _ (sm.trans s2)
              unfold pathOf
              rw [es]
              refine if_neg fun z => ?_
              have := filter_none.mpr (fun l hl2 => by
                show (!decide (l ∈ links)) = false
                rw [decide_eq_true (z.2.2 l hl2)]
                rfl : ∀ l ∈ ls, (!decide (l ∈ links)) = false)
              rw [hf] at this
              exact Bool.false_ne_true this
            | true =>
              walk_at "rn"
              refine RD.tupL (sq (s2 _ _ hD)) fun b nb => ?_
              walk_at "rd"
              refine ⟨few, fun a na => ?_⟩
              refine q _ _ ((sm.trans s2).trans ((same_new nb).trans (same_new na))) ?_
              have ep : pathOf t = some (n, ls) := by
                unfold pathOf
                rw [es]
                refine if_pos ⟨hw, by omega, fun l hl2 => ?_⟩
                have := filter_none.mp hf l hl2
                exact of_decide_eq_true (by simpa using this)
              rw [ep]
              exact ⟨a, b, rfl, st upd_same, st (by rw [upd_ne (ne_of_none upd_same na)]; exact upd_same)⟩
theorem ok_side_of (T : Txt K mg A) : FnOk P w K mg base CX0 3 A.f_side_of A.d_side_of ["text"] (sp_side_of K) := by
  have G_path_of := ok_path_of (P := P) (w := w) (base := base) T
  refine T.F_side_of.ok sc_side_of (fun vs H Q E h => ?_) (fun cdv Ar outer s H vs Q E hr h => ?_)
  · obtain ⟨t, rfl, _⟩ := h
    rfl
  · obtain ⟨t, rfl, hl, q⟩ := h
    refine ⟨_, (pss_cons (ps_asg (RD.k_rpart (pv 0) pe_str) (RD.k_gtup (K := K) (n := 3) rfl rfl (pgs_cons (pg_name (i := 1) sc_side_of.nd rfl (Or.inl rfl)) (pgs_cons (pg_name (i := 2) sc_side_of.nd rfl (Or.inl rfl)) (pgs_cons (pg_name (i := 3) sc_side_of.nd rfl (Or.inl rfl)) pgs_nil)))))
      (RD.pss_cut (ps_if (PW.pt (pw_and (RD.k_tru (K := K) rfl (pv 2) (by intro _; rfl)) (pw_and1 (pt_cmpR (RD.k_in (K := K) rfl) (pv 3) (pe_glob (v := .ref A.k_KINDS) rfl T.k_KINDS rfl) (by rfl)))))
      (pss_cons (ps_set (i := 4) sc_side_of.nd rfl (Or.inl rfl) (pe_call G_path_of (hr.mono (by decide)) (by rfl) T.g_path_of T.F_path_of.kp T.b_path_of .nil pass0 (pa_cons (pv 1) pa_nil)))
      (pss_one (ps_ret (pe_ifExp (pt_cmpR op_isN (pv 4) pe_non (nomark _)) pe_non (pe_tup (pa_cons (pv 3) (pa_cons (pv 4) pa_nil)))))))
      pss_nil)
      (pss_cons (ps_set (i := 4) sc_side_of.nd rfl (Or.inl rfl) (pe_call G_path_of (hr.mono (by decide)) (by rfl) T.g_path_of T.F_path_of.kp T.b_path_of .nil pass0 (pa_cons (pv 0) pa_nil)))
      (pss_one (ps_ret (pe_ifExp (pt_cmpR op_isN (pv 4) pe_non (nomark _)) pe_non (pe_tup (pa_cons pe_str (pa_cons (pv 4) pa_nil))))))))), ?_⟩
    show tSeq _ _ _ [some (vst t), none, none, none, none] H
    walk_at "rd"
    refine ⟨⟨_, rfl⟩, ?_⟩
    walk_at "rd"
    rw [tdot]
    refine RD.rpl (by omega) fun p np => ?_
    refine RD.gtup3 (st upd_same) ?_
    have hb := rpt_len 46 t
    have es : sideOf t = if (rpt 46 t).2.1 ≠ [] ∧ (rpt 46 t).2.2 ∈ kinds then (pathOf (rpt 46 t).1).map fun p => ((rpt 46 t).2.2, p) else (pathOf t).map fun p => ([], p) := rfl
    revert hb es
    generalize (rpt 46 t).1 = r1
    generalize (rpt 46 t).2.1 = r2
    generalize (rpt 46 t).2.2 = r3
    intro hb es
    walk_at "rd"
    refine RD.cut (fun σ H' => σ = [some (vst t), some (vst r1), some (vst r2), some (vst r3), none] ∧ Same H H' ∧ ¬ (r2 ≠ [] ∧ r3 ∈ kinds)) ?_ ?_
    · walk_at "rd"
      cases r2 with
      | nil =>
        refine RD.truS0 ?_
        walk_at "rn"
        exact ⟨rfl, same_new np, fun z => z.1 rfl⟩
      | cons d e =>
        refine RD.truS1 (by omega) ?_
        walk_at "rn"
        refine RD.inT (ls := kinds) (by rw [← vsts_kinds]; exact T.kt_KINDS _) ?_
        walk_at "rd"
        refine RD.dec (fun hk => ?_) (fun hk => ?_)
        · rw [if_pos ⟨by simp, hk⟩] at es
          walk_at "rd"
          refine ⟨r1, rfl, by omega, fun H1 v s1 hv => ?_⟩
          walk_at "rd"
          refine ⟨rfl, ?_⟩
          walk_at "rd"
          cases hp : pathOf r1 with
          | none =>
            rw [hp] at hv es
            have hv : v = .non := hv
            subst hv
            refine RD.decT rfl ?_
            walk_at "rd"
            exact q _ _ ((same_new np).trans s1) (by rw [es]; rfl)
          | some pa =>
            rw [hp] at hv es
            obtain ⟨a, b, rfl, h1, h2⟩ : PathAt K H1 v pa := hv
            refine RD.decF nofun ?_
            walk_at "rd"
            refine ⟨few, fun c nc => ?_⟩
            refine q _ _ (((same_new np).trans s1).trans (same_new nc)) ?_
            rw [es]
            exact ⟨c, _, rfl, st upd_same, (Kp.new nc).path ⟨a, b, rfl, h1, h2⟩⟩
        · walk_at "rd"
          exact ⟨rfl, same_new np, fun z => hk z.2⟩
    · rintro σ H' ⟨rfl, sm, hn⟩
      rw [if_neg hn] at es
      walk_at "rd"
      refine ⟨t, rfl, by omega, fun H1 v s1 hv => ?_⟩
      walk_at "rd"
      refine ⟨rfl, ?_⟩
      walk_at "rd"
      cases hp : pathOf t with
      | none =>
        rw [hp] at hv es
        have hv : v = .non := hv
        subst hv
        refine RD.decT rfl ?_
        walk_at "rd"
        exact q _ _ (sm.trans s1) (by rw [es]; rfl)
      | some pa =>
        rw [hp] at hv es
        obtain ⟨a, b, rfl, h1, h2⟩ : PathAt K H1 v pa := hv
        refine RD.decF nofun ?_
        walk_at "rd"
        refine ⟨few, fun c nc => ?_⟩
        refine q _ _ ((sm.trans s1).trans (same_new nc)) ?_
        rw [es]
        exact ⟨c, _, rfl, st (by rw [temp]; exact upd_same), (Kp.new nc).path ⟨a, b, rfl, h1, h2⟩⟩
end
end Pf

namespace Pf
open PySem PySem.Spec PyProof.Rows L2 SX RD PR
def sp_condition_of (K : PySem.W.Frag) : Sp := fun vs H Q _ => ∃ (a : Addr) (ws : List Tx), vs = [.ref a] ∧ SqL K H a (vsts ws) ∧ (∀ x ∈ ws, x.length ≤ 10000) ∧ ∀ H' v, Same H H' → OptAt (CondAt K H') v (condOf ws) → Q v H'
theorem three {ws : List Tx} (h : ws.length = 3) : ∃ a b c, ws = [a, b, c] := by
  match ws, h with
  | [a, b, c], _ => exact ⟨a, b, c, rfl⟩
theorem condOf_no {ws : List Tx} (h : ws.length ≠ 3) : condOf ws = none := by
  unfold condOf
  split
  · exact absurd rfl h
  · rfl
section
variable {P : Program} {w : World} {K : PySem.W.Frag} {mg : Str → Option Value} {base : Heap} {A : Ad}
theorem ok_condition_of (T : Txt K mg A) : FnOk P w K mg base CX0 4 A.f_condition_of A.d_condition_of ["words"] (sp_condition_of K) := by
  have G_side_of := ok_side_of (P := P) (w := w) (base := base) T
  refine T.F_condition_of.ok sc_condition_of (fun vs H Q E h => ?_) (fun cdv Ar outer s H vs Q E hr h => ?_)
  · obtain ⟨a, ws, rfl, _⟩ := h
    rfl
  · obtain ⟨a, ws, rfl, hq, hb, q⟩ := h
    refine ⟨_, (RD.pss_cut (ps_if (PW.pt (pw_or (pt_cmpR op_ne (pe_callB (RD.k_len (K := K) rfl) (by rfl) T.z_len (by decide +kernel) (pa_cons (pv 0) pa_nil)) pe_int (nomark _)) (pw_or1 (pt_cmpR (RD.k_notin (K := K) rfl) (pe_ix (RD.k_ixL (K := K) rfl) (pv 0) pe_int (fun _ _ => rfl)) (pe_tup (pa_cons pe_str (pa_cons pe_str pa_nil))) (by rfl)))))
      (pss_one (ps_ret pe_non))
      pss_nil)
      (pss_cons (ps_set (i := 1) sc_condition_of.nd rfl (Or.inl rfl) (pe_call G_side_of (hr.mono (by decide)) (by rfl) T.g_side_of T.F_side_of.kp T.b_side_of .nil pass0 (pa_cons (pe_ix (RD.k_ixL (K := K) rfl) (pv 0) pe_int (fun _ _ => rfl)) pa_nil)))
      (pss_cons (ps_set (i := 2) sc_condition_of.nd rfl (Or.inl rfl) (pe_call G_side_of (hr.mono (by decide)) (by rfl) T.g_side_of T.F_side_of.kp T.b_side_of .nil pass0 (pa_cons (pe_ix (RD.k_ixL (K := K) rfl) (pv 0) pe_int (fun _ _ => rfl)) pa_nil)))
      (pss_cons (ps_if (PW.pt (pw_or (pt_cmpR op_isN (pv 1) pe_non (nomark _)) (pw_or (pt_cmpR op_isN (pv 2) pe_non (nomark _)) (pw_or1 (pt_cmpR op_ne (pe_ix (RD.k_ixT (K := K) rfl) (pv 1) pe_int (fun _ _ => rfl)) (pe_ix (RD.k_ixT (K := K) rfl) (pv 2) pe_int (fun _ _ => rfl)) (nomark _))))))
      (pss_one (ps_ret pe_non))
      pss_nil)
      (pss_one (ps_ret (pe_tup (pa_cons (pe_ix (RD.k_ixT (K := K) rfl) (pv 1) pe_int (fun _ _ => rfl)) (pa_cons (pe_ix (RD.k_ixT (K := K) rfl) (pv 1) pe_int (fun _ _ => rfl)) (pa_cons (pe_ix (RD.k_ixT (K := K) rfl) (pv 2) pe_int (fun _ _ => rfl)) (pa_cons (pe_cmpR op_eq (pe_ix (RD.k_ixL (K := K) rfl) (pv 0) pe_int (fun _ _ => rfl)) pe_str (nomark _)) pa_nil))))))))))), ?_⟩
    show RD.tCut _ _ _ [some (.ref a), none, none] H
    have no : condOf ws = none → ∀ H', Same H H' → Q .non H' := fun e H' s => q H' _ s (by rw [e]; rfl)
    refine RD.cut (fun σ H' => σ = [some (.ref a), none, none] ∧ Same H H' ∧ ∃ x o y, ws = [x, o, y] ∧ (o = tx "==" ∨ o = tx "!=")) ?_ ?_
    · walk_at "rd"
      refine RD.len hq ?_
      rw [vsts_len]
      walk_at "rd"
      refine RD.ndec (fun h3 => ?_) (fun h3 => ?_)
      · walk_at "rd"
        exact no (condOf_no (by omega)) _ (Same.refl _)
      · obtain ⟨x, o, y, rfl⟩ := three (show ws.length = 3 by omega)
        walk_at "rd"
        refine RD.ixL hq (show atI (vsts [x, o, y]) ((1 : Nat) : Int) = some (vst o) from at_n rfl) ?_
        walk_at "rd"
        refine ⟨few, fun p np => ?_⟩
        refine RD.ninT (ls := [tx "==", tx "!="]) (st upd_same) ?_
        walk_at "rd"
        refine RD.ndec (fun ho => ?_) (fun ho => ?_)
        · walk_at "rd"
          refine no ?_ _ (same_new np)
          exact if_neg fun z => ho (by simpa using z)
        · walk_at "rd"
          exact ⟨rfl, same_new np, x, o, y, rfl, by simpa using ho⟩
    · rintro σ H1 ⟨rfl, s1, x, o, y, rfl, ho⟩
      have e0 : condOf [x, o, y] = match sideOf x, sideOf y with
        | some x, some y => if x.1 = y.1 then some ⟨x.1, x.2, y.2, decide (o = tx "==")⟩ else none
        | _, _ => none := if_pos ho
      walk_at "rd"
      refine RD.ixL (s1.seq hq) (show atI (vsts [x, o, y]) ((0 : Nat) : Int) = some (vst x) from at_n rfl) ?_
      walk_at "rd"
      refine ⟨x, rfl, hb x (by simp), fun H2 v1 s2 h1 => ?_⟩
      walk_at "rd"
      refine RD.ixL ((s1.trans s2).seq hq) (show atI (vsts [x, o, y]) ((2 : Nat) : Int) = some (vst y) from at_n rfl) ?_
      walk_at "rd"
      refine ⟨y, rfl, hb y (by simp), fun H3 v2 s3 h2 => ?_⟩
      have s13 := (s1.trans s2).trans s3
      walk_at "rd"
      refine ⟨rfl, ?_⟩
      walk_at "rd"
      cases hx : sideOf x with
      | none =>
        rw [hx] at h1 e0
        have h1 : v1 = .non := h1
        subst h1
        refine RD.decT rfl ?_
        walk_at "rd"
        exact no e0 _ s13
      | some sx =>
        rw [hx] at h1 e0
        obtain ⟨ax, px, rfl, hx1, hx2⟩ : SideAt K H2 v1 sx := h1
        refine RD.decF nofun ?_
        walk_at "rd"
        refine ⟨rfl, ?_⟩
        walk_at "rd"
        cases hy : sideOf y with
        | none =>
          rw [hy] at h2 e0
          have h2 : v2 = .non := h2
          subst h2
          refine RD.decT rfl ?_
          walk_at "rd"
          exact no e0 _ s13
        | some sy =>
          rw [hy] at h2 e0
          obtain ⟨ay, py, rfl, hy1, hy2⟩ : SideAt K H3 v2 sy := h2
          have hx1' := (Kp.same s3).sq hx1
          refine RD.decF nofun ?_
          walk_at "rd"
          refine RD.ixT hx1' (show atI _ ((0 : Nat) : Int) = some (vst sx.1) from at_n rfl) ?_
          walk_at "rd"
          refine RD.ixT hy1 (show atI _ ((0 : Nat) : Int) = some (vst sy.1) from at_n rfl) ?_
          walk_at "rd"
          refine RD.ndec (fun he => ?_) (fun he => ?_)
          · walk_at "rd"
            exact no (e0.trans (if_neg he)) _ s13
          · walk_at "rd"
            refine RD.ixT hx1' (show atI _ ((0 : Nat) : Int) = some (vst sx.1) from at_n rfl) ?_
            walk_at "rd"
            refine RD.ixT hx1' (show atI _ ((1 : Nat) : Int) = some px from at_n rfl) ?_
            walk_at "rd"
            refine RD.ixT hy1 (show atI _ ((1 : Nat) : Int) = some py from at_n rfl) ?_
            walk_at "rd"
            refine RD.ixL (s13.seq hq) (show atI (vsts [x, o, y]) ((1 : Nat) : Int) = some (vst o) from at_n rfl) ?_
            walk_at "rd"
            refine ⟨few, fun c nc => ?_⟩
            refine q _ _ (s13.trans (same_new nc)) ?_
            rw [e0.trans (if_pos he)]
            exact ⟨c, px, py, rfl, st upd_same, (Kp.new nc).path ((Kp.same s3).path hx2), (Kp.new nc).path hy2⟩
end
end Pf

namespace Pf
open PySem PySem.Spec PyProof.Rows L2 SX RD PR
/-- a list of pairs -/
def PairsA (K : PySem.W.Frag) (H : Hp) (a : Addr) (l : List (Tx × Tx)) : Prop := ∃ qs : List Addr, H a = some (.lst (qs.map V.ref)) ∧ Paired (PairAt K H) qs l
def FormAt (A : Ad) (K : PySem.W.Frag) (H0 H : Hp) (v : V) (f : Form) : Prop := ∃ (p dx : Addr) (sv : V) (u b : Addr), v = .ref p ∧ H0 p = none ∧ H0 u = none ∧ H0 b = none ∧
  H p = some (.ins A.c_Form dx [("statement", sv), ("uses", .ref u), ("bound", .ref b)]) ∧ StmAt K H sv f.stm ∧ PairsA K H u f.uses ∧ PairsA K H b f.bound
section
variable {A : Ad} {K : PySem.W.Frag}
theorem PairsA.same {H H' : Hp} {a : Addr} {l : List (Tx × Tx)} (s : Same H H') : PairsA K H a l → PairsA K H' a l := fun ⟨qs, h1, h2⟩ => ⟨qs, s _ _ h1, (Kp.same s).pairs h2⟩
theorem FormAt.same {H0 H H' : Hp} {v : V} {f : Form} (s : Same H H') : FormAt A K H0 H v f → FormAt A K H0 H' v f := fun ⟨p, dx, sv, u, b, e, n1, n2, n3, h, h1, h2, h3⟩ =>
  ⟨p, dx, sv, u, b, e, n1, n2, n3, s _ _ h, (Kp.same s).stm h1, h2.same s, h3.same s⟩
theorem FormAt.past {H1 H0 H : Hp} {v : V} {f : Form} (s : Same H1 H0) : FormAt A K H0 H v f → FormAt A K H1 H v f := fun ⟨p, dx, sv, u, b, e, n1, n2, n3, r⟩ => ⟨p, dx, sv, u, b, e, s.free n1, s.free n2, s.free n3, r⟩
end
def sp_condition_names (K : PySem.W.Frag) : Sp := fun vs H Q _ => ∃ (v : V) (c : Cond), vs = [v] ∧ CondAt K H v c ∧ ∀ H' a, Same H H' → PairsA K H' a [(c.left.1, half), (c.right.1, half)] → Q (.ref a) H'
def sp_form (A : Ad) (K : PySem.W.Frag) : Sp := fun vs H Q _ => ∃ (p dx : Addr) (sv : V) (u b : Addr) (us bs : List Addr), vs = [.ref p, sv, .ref u, .ref b] ∧ H p = some (.ins A.c_Form dx []) ∧ (SqL K H u (us.map V.ref) ∨ SqT K H u (us.map V.ref)) ∧ (SqL K H b (bs.map V.ref) ∨ SqT K H b (bs.map V.ref)) ∧
  ∀ (H' : Hp) (u' b' : Addr), H u' = none → H b' = none → H' p = some (.ins A.c_Form dx [("statement", sv), ("uses", .ref u'), ("bound", .ref b')]) → H' u' = some (.lst (us.map V.ref)) → H' b' = some (.lst (bs.map V.ref)) → Sx p H H' → Q .non H'
section
variable {P : Program} {w : World} {K : PySem.W.Frag} {mg : Str → Option Value} {base : Heap} {A : Ad}
theorem ok_condition_names (T : Txt K mg A) : FnOk P w K mg base CX0 1 A.f_condition_names A.d_condition_names ["condition"] (sp_condition_names K) := by
  refine T.F_condition_names.ok sc_condition_names (fun vs H Q E h => ?_) (fun cdv Ar outer s H vs Q E hr h => ?_)
  · obtain ⟨v, c, rfl, _⟩ := h
    rfl
  · obtain ⟨v, c, rfl, hc, q⟩ := h
    refine ⟨_, (pss_one (ps_ret (pe_lst (pa_cons (pe_tup (pa_cons (pe_ix (RD.k_ixT (K := K) rfl) (pe_ix (RD.k_ixT (K := K) rfl) (pv 0) pe_int (fun _ _ => rfl)) pe_int (fun _ _ => rfl)) (pa_cons (RD.pe_gl (by rfl) T.k_HALF) pa_nil))) (pa_cons (pe_tup (pa_cons (pe_ix (RD.k_ixT (K := K) rfl) (pe_ix (RD.k_ixT (K := K) rfl) (pv 0) pe_int (fun _ _ => rfl)) pe_int (fun _ _ => rfl)) (pa_cons (RD.pe_gl (by rfl) T.k_HALF) pa_nil))) pa_nil))))), ?_⟩
    show tRet _ _ [some (v)] H
    obtain ⟨a, l, r, rfl, h1, ⟨al, bl, rfl, hl1, hl2⟩, ⟨ar, br, rfl, hr1, hr2⟩⟩ := hc
    walk_at "rd"
    refine RD.ixT h1 (show atI _ ((1 : Nat) : Int) = some (.ref al) from at_n rfl) ?_
    walk_at "rd"
    refine RD.ixT hl1 (show atI _ ((0 : Nat) : Int) = some (vst c.left.1) from at_n rfl) ?_
    walk_at "rd"
    refine ⟨few, fun p np => ?_⟩
    have k1 : Kp H _ := Kp.new (o := .tup [vst c.left.1, vst (tx "half")]) np
    walk_at "rd"
    refine RD.ixT (k1.sq h1) (show atI _ ((2 : Nat) : Int) = some (.ref ar) from at_n rfl) ?_
    walk_at "rd"
    refine RD.ixT (k1.sq hr1) (show atI _ ((0 : Nat) : Int) = some (vst c.right.1) from at_n rfl) ?_
    walk_at "rd"
    refine ⟨few, fun p2 np2 => ?_⟩
    walk_at "rd"
    refine ⟨few, fun p3 np3 => ?_⟩
    refine q _ _ (((same_new np).trans (same_new np2)).trans (same_new np3)) ⟨[p, p2], upd_same, ?_⟩
    refine .cons (st ?_) (.cons (st ?_) .nil)
    · exact (same_new np3) _ _ ((same_new np2) _ _ upd_same)
    · exact (same_new np3) _ _ upd_same
theorem ok_Form_d_initd_ (T : Txt K mg A) : FnOk P w K mg base CX0 1 A.f_Form_d_initd_ A.d_Form_d_initd_ ["self", "statement", "used", "bound"] (sp_form A K) := by
  refine T.F_Form_d_initd_.ok sc_Form_d_initd_ (fun vs H Q E h => ?_) (fun cdv Ar outer s H vs Q E hr h => ?_)
  · obtain ⟨p, dx, sv, u, b, us, bs, rfl, _⟩ := h
    rfl
  · obtain ⟨p, dx, sv, u, b, us, bs, rfl, hp, hu, hb, q⟩ := h
    refine ⟨_, (pss_cons (RD.k_sfld (K := K) rfl (pv 0) (pv 1) rfl)
      (pss_cons (RD.k_sfld (K := K) rfl (pv 0) (pe_callTy (RD.k_list (K := K) rfl) (by rfl) T.z_list (by decide +kernel) (pa_cons (pv 2) pa_nil)) rfl)
      (pss_one (RD.k_sfld (K := K) rfl (pv 0) (pe_callTy (RD.k_list (K := K) rfl) (by rfl) T.z_list (by decide +kernel) (pa_cons (pv 3) pa_nil)) rfl)))), ?_⟩
    show tSeq _ _ _ [some (.ref p), some (sv), some (.ref u), some (.ref b)] H
    walk_at "rd"
    refine ⟨p, A.c_Form, dx, [], rfl, hp, T.cl_Form, T.n_Form_statement, by decide, ?_⟩
    have x1 : Sx p H (upd H p (.ins A.c_Form dx (putF "statement" sv []))) := Sx.put
    walk_at "rd"
    refine ⟨u, _, rfl, x1.ls hp hu, fun u' nu => ?_⟩
    have nu0 : H u' = none := by
      cases e : H u' with
      | none => rfl
      | some o =>
        by_cases z : u' = p
        · rw [z, upd_same] at nu; cases nu
        · rw [x1 u' o e z] at nu; cases nu
    have x2 := x1.trans (Sx.new (p := p) (o := .lst (us.map V.ref)) nu)
    have hp2 : upd (upd H p (.ins A.c_Form dx (putF "statement" sv []))) u' (.lst (us.map V.ref)) p = some (.ins A.c_Form dx (putF "statement" sv [])) := same_new nu _ _ upd_same
    walk_at "rd"
    refine ⟨p, A.c_Form, dx, _, rfl, hp2, T.cl_Form, T.n_Form_uses, (show (1 : Nat) < 1000 by decide), ?_⟩
    have x3 := x2.trans (Sx.put (p := p) (o := .ins A.c_Form dx (putF "uses" (.ref u') (putF "statement" sv []))))
    walk_at "rd"
    refine ⟨b, _, rfl, x3.ls hp hb, fun b' nb => ?_⟩
    have nb0 : H b' = none := by
      cases e : H b' with
      | none => rfl
      | some o =>
        by_cases z : b' = p
        · rw [z, upd_same] at nb; cases nb
        · rw [x3 b' o e z] at nb; cases nb
    have x4 := x3.trans (Sx.new (p := p) (o := .lst (bs.map V.ref)) nb)
    walk_at "rd"
    refine ⟨p, A.c_Form, dx, _, rfl, same_new nb _ _ upd_same, T.cl_Form, T.n_Form_bound, (show (2 : Nat) < 1000 by decide), ?_⟩
    have x5 := x4.trans (Sx.put (p := p) (o := .ins A.c_Form dx (putF "bound" (.ref b') (putF "uses" (.ref u') (putF "statement" sv [])))))
    have up : u' ≠ p := fun z => by rw [z, hp] at nu0; cases nu0
    have bp : b' ≠ p := fun z => by rw [z, hp] at nb0; cases nb0
    refine q _ u' b' nu0 nb0 (by rw [upd_same]; rfl) ?_ ?_ x5
    · rw [upd_ne up]
      refine same_new nb _ _ ?_
      rw [upd_ne up]
      exact upd_same
    · rw [upd_ne bp]
      exact upd_same
/-- Form(statement, used, bound) -/
theorem mk_form {H : Hp} {vs dvs : List V} {sv : V} {u b : Addr} {f : Form} {Q : VK} {E : XK} (e : vs ++ dvs = [sv, .ref u, .ref b]) (hs : StmAt K H sv f.stm) (hu : PairsT K H u f.uses) (hb : PairsT K H b f.bound)
    (q : ∀ (H' : Hp) (v : V), Same H H' → FormAt A K H H' v f → Q v H') : RD.MKE A.c_Form (sp_form A K) dvs E vs H Q := by
  intro x dx nx ndx ne
  rw [e]
  obtain ⟨us, hu1, hu2⟩ := hu
  obtain ⟨bs, hb1, hb2⟩ := hb
  have s0 : Same H (upd (upd H dx (.own x)) x (.ins A.c_Form dx [])) := RD.same_mut (RD.same_new ndx) nx
  have k0 : Kp H _ := Kp.same s0
  refine ⟨x, dx, sv, u, b, us, bs, rfl, upd_same, hu1.imp s0.seq k0.sq, hb1.imp s0.seq k0.sq, fun H' u' b' nu nb h1 h2 h3 sx => ⟨rfl, ?_⟩⟩
  have s1 : Same H H' := fun c o e => sx c o (s0 c o e) (ne_of_none e nx)
  have k1 := Kp.same s1
  exact q H' _ s1 ⟨x, dx, sv, u', b', rfl, nx, s0.free nu, s0.free nb, h1, k1.stm hs, ⟨us, h2, k1.pairs hu2⟩, ⟨bs, h3, k1.pairs hb2⟩⟩
end
end Pf

namespace Pf
open PySem PySem.Spec PyProof.Rows L2 SX RD PR
def Sml (f : Form) : Prop := (∀ u ∈ f.uses, u.1.length ≤ 10000) ∧ (∀ b ∈ f.bound, b.1.length ≤ 10000) ∧ f.uses.length ≤ 1000 ∧ f.bound.length ≤ 1000
def sp_is_good (A : Ad) (K : PySem.W.Frag) : Sp := fun vs H Q _ => ∃ (H0 : Hp) (v : V) (f : Form), vs = [v] ∧ FormAt A K H0 H v f ∧ Sml f ∧ ∀ H', Same H H' → Q (.bl f.good) H'
section
variable {P : Program} {w : World} {K : PySem.W.Frag} {mg : Str → Option Value} {base : Heap} {A : Ad}
theorem ok_Form_is_good (T : Txt K mg A) : FnOk P w K mg base CX0 3 A.f_Form_is_good A.d_Form_is_good ["self"] (sp_is_good A K) := by
  have G_is_name := ok_is_name (P := P) (w := w) (base := base) T
  have G_is_word := ok_is_word (P := P) (w := w) (base := base) T
  refine T.F_Form_is_good.ok sc_Form_is_good (fun vs H Q E h => ?_) (fun cdv Ar outer s H vs Q E hr h => ?_)
  · obtain ⟨H0, v, f, rfl, _⟩ := h
    rfl
  · obtain ⟨H0, v, f, rfl, ⟨p, dx, sv, u, b, rfl, _, _, _, hp, hs, ⟨us, hu, hu2⟩, ⟨bs, hb, hb2⟩⟩, hz, q⟩ := h
    refine ⟨_, (pss_cons (ps_setLc (i := 1) (own := [("name", 3), ("kind", 2)]) (g := gTup K 2 (gCons (gName 3) (gCons (gName 2) gNil))) (by rfl) sc_Form_is_good.nd rfl rfl (sw_true rfl rfl rfl (by decide +kernel)) (RD.k_pil (K := K) rfl (RD.k_fld (K := K) rfl (pv 0) rfl)) (blkOk_by (own := [("name", 3), ("kind", 2)]) (N := ["self", "names", "kind", "name"]) (sc := defScope s_Form_is_good) (by decide +kernel)) (fun _ _ _ _ _ => (RD.k_gtup (K := K) (n := 2) rfl rfl (pgs_cons (pg_name (i := 3) sc_Form_is_good.nd rfl (Or.inl rfl)) (pgs_cons (pg_name (i := 2) sc_Form_is_good.nd rfl (Or.inl rfl)) pgs_nil)))) (fun _ _ _ _ _ => pts_nil) (fun _ _ _ _ _ => (pv 3)))
      (pss_cons (ps_if (PW.pt (pw_or (RD.k_tru (K := K) rfl (pe_lc (own := [("name", 3)]) (g := gName 3) (by rfl) sc_Form_is_good.nd (RD.k_pil (K := K) rfl (pv 1)) (blkOk_by (own := [("name", 3)]) (N := ["self", "names", "kind", "name"]) (sc := defScope s_Form_is_good) (by decide +kernel)) (fun _ _ _ _ _ => (pg_name (i := 3) sc_Form_is_good.nd rfl (Or.inl rfl))) (fun _ _ _ _ _ => (pts_one (pt_not (pt_val (pe_call G_is_name (hr.mono (by decide)) (by rfl) T.g_is_name T.F_is_name.kp T.b_is_name .nil pass0 (pa_cons (pv 3) pa_nil)))))) (fun _ _ _ _ _ => (pv 3))) (by intro _; rfl)) (pw_or1 (pt_cmpR op_lt (RDT.k_lenSetT (K := K) rfl (by rfl) T.z_len (by rfl) T.z_set (pv 1)) (pe_callB (RD.k_len (K := K) rfl) (by rfl) T.z_len (by decide +kernel) (pa_cons (pv 1) pa_nil)) (nomark _)))))
      (pss_one (ps_ret pe_bl))
      pss_nil)
      (pss_one (ps_ret (pe_callB (RD.k_all (K := K) rfl rfl) (by rfl) T.z_all (by decide +kernel) (pa_cons (pe_lc (own := [("name", 3), ("kind", 2)]) (g := gTup K 2 (gCons (gName 3) (gCons (gName 2) gNil))) (by rfl) sc_Form_is_good.nd (RD.k_pil (K := K) rfl (RD.k_fld (K := K) rfl (pv 0) rfl)) (blkOk_by (own := [("name", 3), ("kind", 2)]) (N := ["self", "names", "kind", "name"]) (sc := defScope s_Form_is_good) (by decide +kernel)) (fun _ _ _ _ _ => (RD.k_gtup (K := K) (n := 2) rfl rfl (pgs_cons (pg_name (i := 3) sc_Form_is_good.nd rfl (Or.inl rfl)) (pgs_cons (pg_name (i := 2) sc_Form_is_good.nd rfl (Or.inl rfl)) pgs_nil)))) (fun _ _ _ _ _ => pts_nil) (fun _ _ _ _ _ => (pe_call G_is_word (hr.mono (by decide)) (by rfl) T.g_is_word T.F_is_word.kp T.b_is_word .nil pass0 (pa_cons (pv 3) pa_nil)))) pa_nil)))))), ?_⟩
    show tSeq _ _ _ [some (.ref p), none, none, none] H
    walk_at "rd"
    refine ⟨p, A.c_Form, dx, _, _, rfl, hp, T.cl_Form, T.n_Form_bound, rfl, ?_⟩
    have lb := paired_len hb2
    have lu := paired_len hu2
    refine RD.lcP f.bound (sq hb) lb (szl (by have := hz.2.2.2; omega)) (fun _ => true) (fun d => vst d.1) (fun i c d H1 Q' R' hc hd s1 kT kF => ?_) (fun H1 nl nnl s1 hnl => ?_)
    · refine RD.gtup2 ((Kp.same s1).sq (paired_at hb2 hc hd)) ?_
      walk_at "wp"
      walk_at "rd"
      refine ⟨rfl, ?_⟩
      walk_at "rd"
      exact kT rfl _ (Same.refl _)
    · rw [RD.pick_all (fun _ => rfl)] at hnl
      have enl : f.bound.map (fun d => vst d.1) = vsts (f.bound.map Prod.fst) := by
        unfold vsts
        rw [List.map_map]
        rfl
      rw [enl] at hnl
      walk_at "rd"
      have bl : ∀ x ∈ f.bound.map Prod.fst, x.length ≤ 10000 := fun x hx => by
        obtain ⟨d, hd, rfl⟩ := List.mem_map.mp hx
        exact hz.2.1 d hd
      have nb : (f.bound.map Prod.fst).length ≤ 1000 := by rw [List.length_map]; exact hz.2.2.2
      have eg : f.good = (decide (∀ b ∈ f.bound.map Prod.fst, isName b = true) && (decide (f.bound.map Prod.fst).Nodup && decide (∀ u ∈ f.uses, isWord u.1 = true))) := by
        unfold Form.good
        rw [← Bool.decide_and, ← Bool.decide_and, decide_eq_decide]
        refine and_congr_left fun _ => ⟨fun h b hb => ?_, fun h b hb => h b.1 (List.mem_map_of_mem hb)⟩
        obtain ⟨d, hd, rfl⟩ := List.mem_map.mp hb
        exact h d hd
      revert eg hnl bl nb
      generalize f.bound.map Prod.fst = ns
      intro hnl bl nb eg
      refine RD.lcTx (sq hnl) (by omega) (fun x => !isName x) vst (fun i x H2 Q' R' hx s2 kT kF => ?_) (fun H2 r nr s2 hr2 => ?_)
      · walk_at "wp"
        walk_at "rd"
        refine ⟨rfl, ?_⟩
        walk_at "rd"
        refine ⟨x, rfl, Nat.le_trans (bl x (List.mem_of_getElem? hx)) (by decide), fun H3 s3 => ?_⟩
        walk_at "rd"
        cases hn : isName x with
        | true =>
          rw [hn] at kF
          exact RD.bF (kF rfl _ s3)
        | false =>
          rw [hn] at kT
          refine RD.bT ?_
          walk_at "rd"
          exact kT rfl _ s3
      · rw [pick_filter] at hr2
        refine RD.truL (sq hr2) ?_
        have ee : ((ns.filter fun x => !isName x).map vst).isEmpty = (ns.filter fun x => !isName x).isEmpty := isEmpty_txs _
        rw [ee]
        cases hf : (ns.filter fun x => !isName x).isEmpty with
        | false =>
          walk_at "rn"
          have : f.good = false := by
            rw [eg, decide_eq_false, Bool.false_and]
            intro z
            have := filter_none.mpr (fun l hl => by
              show (!isName l) = false
              rw [z l hl]
              rfl : ∀ l ∈ ns, (!isName l) = false)
            rw [hf] at this
            exact Bool.false_ne_true this
          rw [← this]
          exact q _ (s1.trans s2)
        | true =>
          have e1 : decide (∀ b ∈ ns, isName b = true) = true := decide_eq_true fun b hb => by
            have := filter_none.mp hf b hb
            cases e : isName b
            · rw [e] at this; exact absurd this (by decide)
            · rfl
          rw [e1, Bool.true_and] at eg
          walk_at "rn"
          refine ⟨nl, ns.map S, rfl, by rw [List.map_map]; exact sq (s2 _ _ hnl), by rw [List.length_map]; omega, ?_⟩
          walk_at "rd"
          refine RD.len (sq (s2 _ _ hnl)) ?_
          rw [vsts_len]
          walk_at "rd"
          rw [dd_lt]
          cases hn : decide ns.Nodup with
          | false =>
            rw [hn, Bool.false_and] at eg
            walk_at "rn"
            rw [← eg]
            exact q _ (s1.trans s2)
          | true =>
            rw [hn, Bool.true_and] at eg
            walk_at "rn"
            have s12 := s1.trans s2
            refine ⟨p, A.c_Form, dx, _, _, rfl, s12 _ _ hp, T.cl_Form, T.n_Form_uses, rfl, ?_⟩
            refine RD.lcP f.uses (sq (s12 _ _ hu)) lu (szl (by have := hz.2.2.1; omega)) (fun _ => true) (fun d => .bl (isWord d.1)) (fun i c d H3 Q' R' hc hd s3 kT kF => ?_) (fun H3 nl2 nnl2 s3 hnl2 => ?_)
            · refine RD.gtup2 ((Kp.same (s12.trans s3)).sq (paired_at hu2 hc hd)) ?_
              walk_at "wp"
              walk_at "rd"
              refine ⟨rfl, ?_⟩
              walk_at "rd"
              refine ⟨d.1, rfl, Nat.le_trans (hz.1 d (List.mem_of_getElem? hd)) (by decide), fun H4 s4 => ?_⟩
              exact kT rfl _ s4
            · rw [RD.pick_all (fun _ => rfl)] at hnl2
              walk_at "rd"
              refine RD.all1 (bs := f.uses.map fun d => isWord d.1) (sq (by rw [hnl2, List.map_map]; rfl)) ?_
              have e3 : f.good = (f.uses.map fun d => isWord d.1).all id := by
                rw [eg, List.all_map]
                cases hw : f.uses.all (id ∘ fun d => isWord d.1) with
                | true => exact decide_eq_true fun u hu => List.all_eq_true.mp hw u hu
                | false =>
                  refine decide_eq_false fun z => ?_
                  have hw2 : f.uses.all (id ∘ fun d => isWord d.1) = true := List.all_eq_true.mpr (fun u hu => z u hu)
                  rw [hw2] at hw
                  cases hw
              rw [← e3]
              exact q _ (s12.trans s3)
end
end Pf

namespace Pf
open PySem PySem.Spec PyProof.Rows L2 SX RD PR
def sp_wf (A : Ad) (K : PySem.W.Frag) (pre : List Tx → Prop) (F : List Tx → Option Form) : Sp := fun vs H Q _ => ∃ (a : Addr) (ws : List Tx), vs = [.ref a] ∧ SqL K H a (vsts ws) ∧ (∀ x ∈ ws, x.length ≤ 10000) ∧ ws.length ≤ 11000 ∧ pre ws ∧
  ∀ H' v, Same H H' → OptAt (FormAt A K H H') v (F ws) → Q v H'
def preT : List Tx → Prop := fun _ => True
theorem four {ws : List Tx} (h : ws.length = 4) : ∃ a b c d, ws = [a, b, c, d] := by
  match ws, h with
  | [a, b, c, d], _ => exact ⟨a, b, c, d, rfl⟩
theorem letF_no {ws : List Tx} (h : ws.length ≠ 4) : letF ws = none := by
  unfold letF
  split
  · exact absurd rfl h
  · rfl
theorem roundF_no {ws : List Tx} (h : ws.length ≠ 4) : roundF ws = none := by
  unfold roundF
  split
  · exact absurd rfl h
  · rfl
theorem side_len {d : Tx} {s : Side} (h : sideOf d = some s) : s.1.length ≤ d.length := by
  have hb := (rpt_len 46 d).2.2
  unfold sideOf at h
  dsimp only at h
  split at h
  · obtain ⟨p, _, e⟩ := Option.map_eq_some_iff.mp h
    rw [← e]
    exact hb
  · obtain ⟨p, _, e⟩ := Option.map_eq_some_iff.mp h
    rw [← e]
    exact Nat.zero_le _
section
variable {P : Program} {w : World} {K : PySem.W.Frag} {mg : Str → Option Value} {base : Heap} {A : Ad}
/-- one pair in a new list -/
theorem pairs1 {H H' : Hp} {q l : Addr} {x y : Tx} (h1 : H' q = some (.tup [vst x, vst y])) (h2 : H' l = some (.lst [.ref q])) : PairsT K H' l [(x, y)] := ⟨[q], .inl (sq h2), .cons (st h1) .nil⟩
theorem pairs2 {H H' : Hp} {q r l : Addr} {x y z u : Tx} (h1 : H' q = some (.tup [vst x, vst y])) (h3 : H' r = some (.tup [vst z, vst u])) (h2 : H' l = some (.lst [.ref q, .ref r])) : PairsT K H' l [(x, y), (z, u)] := ⟨[q, r], .inl (sq h2), .cons (st h1) (.cons (st h3) .nil)⟩
theorem pairs0 {H : Hp} {l : Addr} (h : SqT K H l []) : PairsT K H l [] := ⟨[], .inr h, .nil⟩
theorem ok_let_form (T : Txt K mg A) : FnOk P w K mg base CX0 4 A.f_let_form A.d_let_form ["words"] (sp_wf A K preT letF) := by
  have G_side_of := ok_side_of (P := P) (w := w) (base := base) T
  have G_Form_d_initd_ := ok_Form_d_initd_ (P := P) (w := w) (base := base) T
  refine T.F_let_form.ok sc_let_form (fun vs H Q E h => ?_) (fun cdv Ar outer s H vs Q E hr h => ?_)
  · obtain ⟨a, ws, rfl, _⟩ := h
    rfl
  · obtain ⟨a, ws, rfl, hq, hb, hz, _, q⟩ := h
    refine ⟨_, (RD.pss_cut (ps_if (PW.pt (pw_or (pt_cmpR op_ne (pe_callB (RD.k_len (K := K) rfl) (by rfl) T.z_len (by decide +kernel) (pa_cons (pv 0) pa_nil)) pe_int (nomark _)) (pw_or1 (pt_cmpR op_ne (pe_ix (RD.k_ixL (K := K) rfl) (pv 0) pe_int (fun _ _ => rfl)) pe_str (nomark _)))))
      (pss_one (ps_ret pe_non))
      pss_nil)
      (pss_cons (ps_set (i := 1) sc_let_form.nd rfl (Or.inl rfl) (pe_call G_side_of (hr.mono (by decide)) (by rfl) T.g_side_of T.F_side_of.kp T.b_side_of .nil pass0 (pa_cons (pe_ix (RD.k_ixL (K := K) rfl) (pv 0) pe_int (fun _ _ => rfl)) pa_nil)))
      (RD.pss_cut (ps_if (pt_cmpR op_isN (pv 1) pe_non (nomark _))
      (pss_one (ps_ret pe_non))
      pss_nil)
      (pss_cons (ps_asg (pv 1) (RD.k_gtup (K := K) (n := 2) rfl rfl (pgs_cons (pg_name (i := 2) sc_let_form.nd rfl (Or.inl rfl)) (pgs_cons (pg_name (i := 3) sc_let_form.nd rfl (Or.inl rfl)) pgs_nil))))
      (pss_cons (ps_if (RD.k_tru (K := K) rfl (pv 2) (by intro _; rfl))
      (pss_one (ps_ret (pe_make T.mk_Form G_Form_d_initd_ (hr.mono (by decide)) (by rfl) T.g_Form T.b_Form_d_initd_ .nil pass0 (pa_cons (pe_tup (pa_cons pe_str (pa_cons (pe_ix (RD.k_ixL (K := K) rfl) (pv 0) pe_int (fun _ _ => rfl)) (pa_cons (pv 2) (pa_cons (pv 3) pa_nil))))) (pa_cons (pe_lst (pa_cons (pe_tup (pa_cons (pe_ix (RD.k_ixT (K := K) rfl) (pv 3) pe_int (fun _ _ => rfl)) (pa_cons (RD.pe_gl (by rfl) T.k_HALF) pa_nil))) pa_nil)) (pa_cons (pe_lst (pa_cons (pe_tup (pa_cons (pe_ix (RD.k_ixL (K := K) rfl) (pv 0) pe_int (fun _ _ => rfl)) (pa_cons (pv 2) pa_nil))) pa_nil)) pa_nil))))))
      pss_nil)
      (pss_one (ps_ret (pe_make T.mk_Form G_Form_d_initd_ (hr.mono (by decide)) (by rfl) T.g_Form T.b_Form_d_initd_ .nil pass0 (pa_cons (pe_tup (pa_cons pe_str (pa_cons (pe_ix (RD.k_ixL (K := K) rfl) (pv 0) pe_int (fun _ _ => rfl)) (pa_cons (pv 3) pa_nil)))) (pa_cons (pe_lst (pa_cons (pe_tup (pa_cons (pe_ix (RD.k_ixT (K := K) rfl) (pv 3) pe_int (fun _ _ => rfl)) (pa_cons (RD.pe_gl (by rfl) T.k_HALF) pa_nil))) pa_nil)) (pa_cons (pe_lst (pa_cons (pe_tup (pa_cons (pe_ix (RD.k_ixL (K := K) rfl) (pv 0) pe_int (fun _ _ => rfl)) (pa_cons (RD.pe_gl (by rfl) T.k_HALF) pa_nil))) pa_nil)) pa_nil))))))))))), ?_⟩
    show RD.tCut _ _ _ [some (.ref a), none, none, none] H
    have no : letF ws = none → ∀ H', Same H H' → Q .non H' := fun e H' s => q H' _ s (by rw [e]; rfl)
    refine RD.cut (fun σ H' => σ = [some (.ref a), none, none, none] ∧ H' = H ∧ ∃ h x d, ws = [h, x, tx "=", d]) ?_ ?_
    · walk_at "rd"
      refine RD.len hq ?_
      rw [vsts_len]
      walk_at "rd"
      refine RD.ndec (fun h3 => ?_) (fun h3 => ?_)
      · walk_at "rd"
        exact no (letF_no (by omega)) _ (Same.refl _)
      · obtain ⟨h, x, e, d, rfl⟩ := four (show ws.length = 4 by omega)
        walk_at "rd"
        refine RD.ixL hq (show atI (vsts [h, x, e, d]) ((2 : Nat) : Int) = some (vst e) from at_n rfl) ?_
        walk_at "rd"
        refine RD.ndec (fun ho => ?_) (fun ho => ?_)
        · walk_at "rd"
          exact no (if_neg ho) _ (Same.refl _)
        · subst ho
          walk_at "rd"
          exact ⟨rfl, rfl, h, x, d, rfl⟩
    · rintro σ H1 ⟨rfl, rfl, h, x, d, rfl⟩
      have e0 : letF [h, x, tx "=", d] = (sideOf d).map fun d => if d.1 = [] then ⟨.let_ x d.2, [(d.2.1, half)], [(x, half)]⟩ else ⟨.take x d.1 d.2, [(d.2.1, half)], [(x, d.1)]⟩ := by
        simp only [letF, if_true]
      walk_at "rd"
      refine RD.ixL hq (show atI (vsts [h, x, tx "=", d]) ((3 : Nat) : Int) = some (vst d) from at_n rfl) ?_
      walk_at "rd"
      refine ⟨d, rfl, hb d (by simp), fun H2 v s2 hv => ?_⟩
      walk_at "rd"
      cases hd : sideOf d with
      | none =>
        rw [hd] at hv e0
        have hv : v = .non := hv
        subst hv
        refine RD.cut (fun _ _ => False) ?_ (fun _ _ z => z.elim)
        walk_at "rd"
        refine ⟨rfl, ?_⟩
        walk_at "rd"
        refine RD.decT rfl ?_
        walk_at "rd"
        exact no e0 _ s2
      | some sd =>
        obtain ⟨k, pa⟩ := sd
        rw [hd] at hv e0
        obtain ⟨c, pv, rfl, h1, h2⟩ : SideAt K H2 v (k, pa) := hv
        obtain ⟨ap, bp, rfl, hp1, hp2⟩ := h2
        refine RD.cut (fun σ H' => σ = [some (.ref a), some (.ref c), none, none] ∧ H' = H2) ?_ ?_
        · walk_at "rd"
          refine ⟨rfl, ?_⟩
          walk_at "rd"
          refine RD.decF nofun ?_
          walk_at "rd"
          exact ⟨rfl, rfl⟩
        · rintro σ H3 ⟨rfl, rfl⟩
          walk_at "rd"
          refine RD.gtup2 h1 ?_
          walk_at "rd"
          have kc : k.length ≤ 10000 := by
            rw [← show (k, pa).1 = k from rfl]
            exact Nat.le_trans (side_len hd) (hb d (by simp))
          cases k with
          | nil =>
            refine RD.truS0 ?_
            walk_at "rn"
            refine RD.ixL (s2.seq hq) (show atI (vsts [h, x, tx "=", d]) ((1 : Nat) : Int) = some (vst x) from at_n rfl) ?_
            walk_at "rd"
            refine ⟨few, fun p1 n1 => ?_⟩
            have t1 := same_new (o := .tup [vst (tx "let"), vst x, V.ref ap]) n1
            walk_at "rd"
            refine RD.ixT ((Kp.same t1).sq hp1) (show atI _ ((0 : Nat) : Int) = some (vst pa.1) from at_n rfl) ?_
            walk_at "rd"
            refine ⟨few, fun p2 n2 => ?_⟩
            have t2 := same_new (o := .tup [vst pa.1, vst (tx "half")]) n2
            walk_at "rd"
            refine ⟨few, fun p3 n3 => ?_⟩
            have t3 := same_new (o := .lst [V.ref p2]) n3
            walk_at "rd"
            refine RD.ixL ((((s2.trans t1).trans t2).trans t3).seq hq) (show atI (vsts [h, x, tx "=", d]) ((1 : Nat) : Int) = some (vst x) from at_n rfl) ?_
            walk_at "rd"
            refine ⟨few, fun p4 n4 => ?_⟩
            have t4 := same_new (o := .tup [vst x, vst (tx "half")]) n4
            walk_at "rd"
            refine ⟨few, fun p5 n5 => ?_⟩
            have t5 := same_new (o := .lst [V.ref p4]) n5
            walk_at "rd"
            have t25 := ((t2.trans t3).trans t4).trans t5
            refine mk_form (f := ⟨.let_ x pa, [(pa.1, half)], [(x, half)]⟩) (sv := .ref p1) (u := p3) (b := p5) rfl ⟨p1, rfl, _, st (t25 _ _ upd_same), (Kp.same (t1.trans t25)).path ⟨ap, bp, rfl, hp1, hp2⟩⟩ (pairs1 (H := H3) (((t3.trans t4).trans t5) _ _ upd_same) ((t4.trans t5) _ _ upd_same)) (pairs1 (H := H3) (t5 _ _ upd_same) upd_same) fun H' v s' hf => ?_
            refine q _ _ ((s2.trans (t1.trans t25)).trans s') ?_
            rw [e0]
            exact hf.past (s2.trans (t1.trans t25))
          | cons k0 kr =>
            refine RD.truS1 (by omega) ?_
            walk_at "rn"
            refine RD.ixL (s2.seq hq) (show atI (vsts [h, x, tx "=", d]) ((1 : Nat) : Int) = some (vst x) from at_n rfl) ?_
            walk_at "rd"
            refine ⟨few, fun p1 n1 => ?_⟩
            have t1 := same_new (o := .tup [vst (tx "take"), vst x, vst (k0 :: kr), V.ref ap]) n1
            walk_at "rd"
            refine RD.ixT ((Kp.same t1).sq hp1) (show atI _ ((0 : Nat) : Int) = some (vst pa.1) from at_n rfl) ?_
            walk_at "rd"
            refine ⟨few, fun p2 n2 => ?_⟩
            have t2 := same_new (o := .tup [vst pa.1, vst (tx "half")]) n2
            walk_at "rd"
            refine ⟨few, fun p3 n3 => ?_⟩
            have t3 := same_new (o := .lst [V.ref p2]) n3
            walk_at "rd"
            refine RD.ixL ((((s2.trans t1).trans t2).trans t3).seq hq) (show atI (vsts [h, x, tx "=", d]) ((1 : Nat) : Int) = some (vst x) from at_n rfl) ?_
            walk_at "rd"
            refine ⟨few, fun p4 n4 => ?_⟩
            have t4 := same_new (o := .tup [vst x, vst (k0 :: kr)]) n4
            walk_at "rd"
            refine ⟨few, fun p5 n5 => ?_⟩
            have t5 := same_new (o := .lst [V.ref p4]) n5
            walk_at "rd"
            have t25 := ((t2.trans t3).trans t4).trans t5
            refine mk_form (f := ⟨.take x (k0 :: kr) pa, [(pa.1, half)], [(x, k0 :: kr)]⟩) (sv := .ref p1) (u := p3) (b := p5) rfl ⟨p1, rfl, _, st (t25 _ _ upd_same), (Kp.same (t1.trans t25)).path ⟨ap, bp, rfl, hp1, hp2⟩⟩ (pairs1 (H := H3) (((t3.trans t4).trans t5) _ _ upd_same) ((t4.trans t5) _ _ upd_same)) (pairs1 (H := H3) (t5 _ _ upd_same) upd_same) fun H' v s' hf => ?_
            refine q _ _ ((s2.trans (t1.trans t25)).trans s') ?_
            rw [e0]
            exact hf.past (s2.trans (t1.trans t25))
end
end Pf

namespace Pf
open PySem PySem.Spec PyProof.Rows L2 SX RD PR
def pre3 : List Tx → Prop := fun ws => ws.length = 3
def writeW : List Tx → Option Form := fun ws => writeF (ws.getD 0 []) (ws.getD 2 [])
def preC : List Tx → Prop := fun ws => ∃ h r, ws = h :: r ∧ (h = tx "given" ∨ h = tx "if")
def condW : List Tx → Option Form := fun ws => condF (ws.getD 0 []) (ws.drop 1)
def tellW : List Tx → Option Form := fun ws => tellF (ws.drop 1)
def preN : List Tx → Prop := fun ws => 1 ≤ ws.length
section
variable {P : Program} {w : World} {K : PySem.W.Frag} {mg : Str → Option Value} {base : Heap} {A : Ad}
theorem pairsA_T {H : Hp} {a : Addr} {l : List (Tx × Tx)} (h : PairsA K H a l) : PairsT K H a l := h.elim fun qs z => ⟨qs, .inl (sq z.1), z.2⟩
theorem ok_write_form (T : Txt K mg A) : FnOk P w K mg base CX0 3 A.f_write_form A.d_write_form ["words"] (sp_wf A K pre3 writeW) := by
  have G_Form_d_initd_ := ok_Form_d_initd_ (P := P) (w := w) (base := base) T
  refine T.F_write_form.ok sc_write_form (fun vs H Q E h => ?_) (fun cdv Ar outer s H vs Q E hr h => ?_)
  · obtain ⟨a, ws, rfl, _⟩ := h
    rfl
  · obtain ⟨a, ws, rfl, hq, hb, hz, h3, q⟩ := h
    refine ⟨_, (pss_cons (ps_asg (RD.k_rpart (pe_ix (RD.k_ixL (K := K) rfl) (pv 0) pe_int (fun _ _ => rfl)) pe_str) (RD.k_gtup (K := K) (n := 3) rfl rfl (pgs_cons (pg_name (i := 1) sc_write_form.nd rfl (Or.inl rfl)) (pgs_cons (pg_name (i := 2) sc_write_form.nd rfl (Or.inl rfl)) (pgs_cons (pg_name (i := 3) sc_write_form.nd rfl (Or.inl rfl)) pgs_nil)))))
      (pss_cons (ps_set (i := 4) sc_write_form.nd rfl (Or.inl rfl) (pe_ix (RD.k_ixL (K := K) rfl) (pv 0) pe_int (fun _ _ => rfl)))
      (pss_cons (ps_if (pt_cmpR (RD.k_in (K := K) rfl) (pv 3) (pe_tup (pa_cons pe_str (pa_cons pe_str pa_nil))) (by rfl))
      (pss_one (ps_ret (pe_make T.mk_Form G_Form_d_initd_ (hr.mono (by decide)) (by rfl) T.g_Form T.b1_Form_d_initd_ (.cons (a := V.ref A.e_Form_d_initd__1) rfl .nil) pass0 (pa_cons (pe_tup (pa_cons pe_str (pa_cons (pv 1) (pa_cons (pv 3) (pa_cons (pv 4) pa_nil))))) (pa_cons (pe_lst (pa_cons (pe_tup (pa_cons (pv 1) (pa_cons (RD.pe_gl (by rfl) T.k_HALF) pa_nil))) (pa_cons (pe_tup (pa_cons (pv 4) (pa_cons (RD.pe_gl (by rfl) T.k_HALF) pa_nil))) pa_nil))) pa_nil)))))
      pss_nil)
      (pss_cons (ps_if (pt_cmpR (RD.k_in (K := K) rfl) (pv 3) (pe_glob (v := .ref A.k_KINDS) rfl T.k_KINDS rfl) (by rfl))
      (pss_one (ps_ret (pe_make T.mk_Form G_Form_d_initd_ (hr.mono (by decide)) (by rfl) T.g_Form T.b1_Form_d_initd_ (.cons (a := V.ref A.e_Form_d_initd__1) rfl .nil) pass0 (pa_cons (pe_tup (pa_cons pe_str (pa_cons (pv 1) (pa_cons (pv 3) (pa_cons (pv 4) pa_nil))))) (pa_cons (pe_lst (pa_cons (pe_tup (pa_cons (pv 1) (pa_cons (RD.pe_gl (by rfl) T.k_HALF) pa_nil))) (pa_cons (pe_tup (pa_cons (pv 4) (pa_cons (pv 3) pa_nil))) pa_nil))) pa_nil)))))
      pss_nil)
      (pss_cons (ps_if (pt_cmpR op_eq (pv 3) pe_str (nomark _))
      (pss_one (ps_ret (pe_make T.mk_Form G_Form_d_initd_ (hr.mono (by decide)) (by rfl) T.g_Form T.b1_Form_d_initd_ (.cons (a := V.ref A.e_Form_d_initd__1) rfl .nil) pass0 (pa_cons (pe_tup (pa_cons pe_str (pa_cons (pv 1) (pa_cons (pv 4) pa_nil)))) (pa_cons (pe_lst (pa_cons (pe_tup (pa_cons (pv 1) (pa_cons pe_str pa_nil))) (pa_cons (pe_tup (pa_cons (pv 4) (pa_cons (RD.pe_gl (by rfl) T.k_HALF) pa_nil))) pa_nil))) pa_nil)))))
      pss_nil)
      (pss_one (ps_ret pe_non))))))), ?_⟩
    show tSeq _ _ _ [some (.ref a), none, none, none, none] H
    obtain ⟨x, e, v, rfl⟩ := three h3
    walk_at "rd"
    refine RD.ixL hq (show atI (vsts [x, e, v]) ((0 : Nat) : Int) = some (vst x) from at_n rfl) ?_
    refine ⟨⟨_, rfl⟩, ?_⟩
    walk_at "rd"
    rw [tdot]
    refine RD.rpl (Nat.le_trans (hb x (by simp)) (by decide)) fun p np => ?_
    refine RD.gtup3 (st upd_same) ?_
    have es : writeW [x, e, v] = if (rpt 46 x).2.2 = tx "next" ∨ (rpt 46 x).2.2 = tx "prev" then some ⟨.link (rpt 46 x).1 (rpt 46 x).2.2 v, [((rpt 46 x).1, half), (v, half)], []⟩
      else if (rpt 46 x).2.2 ∈ kinds then some ⟨.bear (rpt 46 x).1 (rpt 46 x).2.2 v, [((rpt 46 x).1, half), (v, (rpt 46 x).2.2)], []⟩
      else if (rpt 46 x).2.2 = tx "some" then some ⟨.some_ (rpt 46 x).1 none v, [((rpt 46 x).1, tx "label"), (v, half)], []⟩ else none := rfl
    revert es
    have s0 := same_new (o := .tup [vst (rpt 46 x).1, vst (rpt 46 x).2.1, vst (rpt 46 x).2.2]) np
    revert s0
    generalize (rpt 46 x).1 = r1
    generalize (rpt 46 x).2.1 = r2
    generalize (rpt 46 x).2.2 = r3
    intro s0 es
    walk_at "rd"
    refine RD.ixL (s0.seq hq) (show atI (vsts [x, e, v]) ((2 : Nat) : Int) = some (vst v) from at_n rfl) ?_
    walk_at "rd"
    refine ⟨few, fun p1 n1 => ?_⟩
    have s1 := s0.trans (same_new (o := .tup [vst (tx "next"), vst (tx "prev")]) n1)
    refine RD.inT (ls := [tx "next", tx "prev"]) (st upd_same) ?_
    walk_at "rd"
    refine RD.dec (fun h1 => ?_) (fun h1 => ?_)
    · rw [if_pos (by simpa using h1)] at es
      walk_at "rd"
      refine ⟨few, fun p2 n2 => ?_⟩
      have t2 := same_new (o := .tup [vst (tx "link"), vst r1, vst r3, vst v]) n2
      walk_at "rd"
      refine ⟨few, fun p3 n3 => ?_⟩
      have t3 := same_new (o := .tup [vst r1, vst (tx "half")]) n3
      walk_at "rd"
      refine ⟨few, fun p4 n4 => ?_⟩
      have t4 := same_new (o := .tup [vst v, vst (tx "half")]) n4
      walk_at "rd"
      refine ⟨few, fun p5 n5 => ?_⟩
      have t5 := same_new (o := .lst [V.ref p3, V.ref p4]) n5
      walk_at "rd"
      have t25 := s1.trans (((t2.trans t3).trans t4).trans t5)
      refine mk_form (f := ⟨.link r1 r3 v, [(r1, half), (v, half)], []⟩) (sv := .ref p2) (u := p5) (b := A.e_Form_d_initd__1) rfl ⟨p2, rfl, st (((t3.trans t4).trans t5) _ _ upd_same)⟩ (pairs2 (H := H) ((t4.trans t5) _ _ upd_same) (t5 _ _ upd_same) upd_same) (pairs0 (T.et_Form_d_initd__1 _)) fun H' v s' hf => ?_
      refine q _ _ (t25.trans s') ?_
      rw [es]
      exact hf.past t25
    · rw [if_neg (by simpa using h1)] at es
      walk_at "rd"
      refine RD.inT (ls := kinds) (by rw [← vsts_kinds]; exact T.kt_KINDS _) ?_
      walk_at "rd"
      refine RD.dec (fun h2 => ?_) (fun h2 => ?_)
      · rw [if_pos h2] at es
        walk_at "rd"
        refine ⟨few, fun p2 n2 => ?_⟩
        have t2 := same_new (o := .tup [vst (tx "bear"), vst r1, vst r3, vst v]) n2
        walk_at "rd"
        refine ⟨few, fun p3 n3 => ?_⟩
        have t3 := same_new (o := .tup [vst r1, vst (tx "half")]) n3
        walk_at "rd"
        refine ⟨few, fun p4 n4 => ?_⟩
        have t4 := same_new (o := .tup [vst v, vst r3]) n4
        walk_at "rd"
        refine ⟨few, fun p5 n5 => ?_⟩
        have t5 := same_new (o := .lst [V.ref p3, V.ref p4]) n5
        walk_at "rd"
        have t25 := s1.trans (((t2.trans t3).trans t4).trans t5)
        refine mk_form (f := ⟨.bear r1 r3 v, [(r1, half), (v, r3)], []⟩) (sv := .ref p2) (u := p5) (b := A.e_Form_d_initd__1) rfl ⟨p2, rfl, st (((t3.trans t4).trans t5) _ _ upd_same)⟩ (pairs2 (H := H) ((t4.trans t5) _ _ upd_same) (t5 _ _ upd_same) upd_same) (pairs0 (T.et_Form_d_initd__1 _)) fun H' v s' hf => ?_
        refine q _ _ (t25.trans s') ?_
        rw [es]
        exact hf.past t25
      · rw [if_neg h2] at es
        walk_at "rd"
        refine RD.dec (fun h4 => ?_) (fun h4 => ?_)
        · rw [if_pos h4] at es
          walk_at "rd"
          refine ⟨few, fun p2 n2 => ?_⟩
          have t2 := same_new (o := .tup [vst (tx "some"), vst r1, vst v]) n2
          walk_at "rd"
          refine ⟨few, fun p3 n3 => ?_⟩
          have t3 := same_new (o := .tup [vst r1, vst (tx "label")]) n3
          walk_at "rd"
          refine ⟨few, fun p4 n4 => ?_⟩
          have t4 := same_new (o := .tup [vst v, vst (tx "half")]) n4
          walk_at "rd"
          refine ⟨few, fun p5 n5 => ?_⟩
          have t5 := same_new (o := .lst [V.ref p3, V.ref p4]) n5
          walk_at "rd"
          have t25 := s1.trans (((t2.trans t3).trans t4).trans t5)
          refine mk_form (f := ⟨.some_ r1 none v, [(r1, tx "label"), (v, half)], []⟩) (sv := .ref p2) (u := p5) (b := A.e_Form_d_initd__1) rfl ⟨p2, rfl, st (((t3.trans t4).trans t5) _ _ upd_same)⟩ (pairs2 (H := H) ((t4.trans t5) _ _ upd_same) (t5 _ _ upd_same) upd_same) (pairs0 (T.et_Form_d_initd__1 _)) fun H' v s' hf => ?_
          refine q _ _ (t25.trans s') ?_
          rw [es]
          exact hf.past t25
        · rw [if_neg h4] at es
          walk_at "rd"
          exact q _ _ s1 (by rw [es]; rfl)
theorem ok_round_form (T : Txt K mg A) : FnOk P w K mg base CX0 3 A.f_round_form A.d_round_form ["words"] (sp_wf A K preT roundF) := by
  have G_Form_d_initd_ := ok_Form_d_initd_ (P := P) (w := w) (base := base) T
  refine T.F_round_form.ok sc_round_form (fun vs H Q E h => ?_) (fun cdv Ar outer s H vs Q E hr h => ?_)
  · obtain ⟨a, ws, rfl, _⟩ := h
    rfl
  · obtain ⟨a, ws, rfl, hq, hb, hz, _, q⟩ := h
    refine ⟨_, (RD.pss_cut (ps_if (PW.pt (pw_or (pt_cmpR op_ne (pe_callB (RD.k_len (K := K) rfl) (by rfl) T.z_len (by decide +kernel) (pa_cons (pv 0) pa_nil)) pe_int (nomark _)) (pw_or1 (pt_cmpR op_ne (pe_ix (RD.k_ixL (K := K) rfl) (pv 0) pe_int (fun _ _ => rfl)) pe_str (nomark _)))))
      (pss_one (ps_ret pe_non))
      pss_nil)
      (pss_cons (ps_asg (RD.k_rpart (pe_ix (RD.k_ixL (K := K) rfl) (pv 0) pe_int (fun _ _ => rfl)) pe_str) (RD.k_gtup (K := K) (n := 3) rfl rfl (pgs_cons (pg_name (i := 1) sc_round_form.nd rfl (Or.inl rfl)) (pgs_cons (pg_name (i := 2) sc_round_form.nd rfl (Or.inl rfl)) (pgs_cons (pg_name (i := 3) sc_round_form.nd rfl (Or.inl rfl)) pgs_nil)))))
      (pss_cons (ps_if (pt_cmpR (RD.k_notin (K := K) rfl) (pv 3) (pe_glob (v := .ref A.k_KINDS) rfl T.k_KINDS rfl) (by rfl))
      (pss_one (ps_ret pe_non))
      pss_nil)
      (pss_one (ps_ret (pe_make T.mk_Form G_Form_d_initd_ (hr.mono (by decide)) (by rfl) T.g_Form T.b1_Form_d_initd_ (.cons (a := V.ref A.e_Form_d_initd__1) rfl .nil) pass0 (pa_cons (pe_tup (pa_cons pe_str (pa_cons (pv 1) (pa_cons (pv 3) (pa_cons (pe_ix (RD.k_ixL (K := K) rfl) (pv 0) pe_int (fun _ _ => rfl)) pa_nil))))) (pa_cons (pe_lst (pa_cons (pe_tup (pa_cons (pv 1) (pa_cons (RD.pe_gl (by rfl) T.k_HALF) pa_nil))) (pa_cons (pe_tup (pa_cons (pe_ix (RD.k_ixL (K := K) rfl) (pv 0) pe_int (fun _ _ => rfl)) (pa_cons (pv 3) pa_nil))) pa_nil))) pa_nil)))))))), ?_⟩
    show RD.tCut _ _ _ [some (.ref a), none, none, none] H
    have no : roundF ws = none → ∀ H', Same H H' → Q .non H' := fun e H' s => q H' _ s (by rw [e]; rfl)
    refine RD.cut (fun σ H' => σ = [some (.ref a), none, none, none] ∧ H' = H ∧ ∃ h x d, ws = [h, x, tx "=", d]) ?_ ?_
    · walk_at "rd"
      refine RD.len hq ?_
      rw [vsts_len]
      walk_at "rd"
      refine RD.ndec (fun h3 => ?_) (fun h3 => ?_)
      · walk_at "rd"
        exact no (roundF_no (by omega)) _ (Same.refl _)
      · obtain ⟨h, x, e, d, rfl⟩ := four (show ws.length = 4 by omega)
        walk_at "rd"
        refine RD.ixL hq (show atI (vsts [h, x, e, d]) ((2 : Nat) : Int) = some (vst e) from at_n rfl) ?_
        walk_at "rd"
        refine RD.ndec (fun ho => ?_) (fun ho => ?_)
        · walk_at "rd"
          exact no (if_neg fun z => ho z.1) _ (Same.refl _)
        · subst ho
          walk_at "rd"
          exact ⟨rfl, rfl, h, x, d, rfl⟩
    · rintro σ H1 ⟨rfl, rfl, h, x, v, rfl⟩
      walk_at "rd"
      refine RD.ixL hq (show atI (vsts [h, x, tx "=", v]) ((1 : Nat) : Int) = some (vst x) from at_n rfl) ?_
      refine ⟨⟨_, rfl⟩, ?_⟩
      walk_at "rd"
      rw [tdot]
      refine RD.rpl (Nat.le_trans (hb x (by simp)) (by decide)) fun p np => ?_
      refine RD.gtup3 (st upd_same) ?_
      have es : roundF [h, x, tx "=", v] = if tx "=" = tx "=" ∧ (rpt 46 x).2.2 ∈ kinds then some ⟨.round (rpt 46 x).1 (rpt 46 x).2.2 v, [((rpt 46 x).1, half), (v, (rpt 46 x).2.2)], []⟩ else none := rfl
      revert es
      have s0 := same_new (o := .tup [vst (rpt 46 x).1, vst (rpt 46 x).2.1, vst (rpt 46 x).2.2]) np
      revert s0
      generalize (rpt 46 x).1 = r1
      generalize (rpt 46 x).2.1 = r2
      generalize (rpt 46 x).2.2 = r3
      intro s0 es
      walk_at "rd"
      refine RD.ninT (ls := kinds) (by rw [← vsts_kinds]; exact T.kt_KINDS _) ?_
      walk_at "rd"
      refine RD.ndec (fun h2 => ?_) (fun h2 => ?_)
      · rw [if_neg fun z => h2 z.2] at es
        walk_at "rd"
        exact no es _ s0
      · rw [if_pos ⟨rfl, h2⟩] at es
        walk_at "rd"
        refine RD.ixL (s0.seq hq) (show atI (vsts [h, x, tx "=", v]) ((3 : Nat) : Int) = some (vst v) from at_n rfl) ?_
        walk_at "rd"
        refine ⟨few, fun p2 n2 => ?_⟩
        have t2 := same_new (o := .tup [vst (tx "round"), vst r1, vst r3, vst v]) n2
        walk_at "rd"
        refine ⟨few, fun p3 n3 => ?_⟩
        have t3 := same_new (o := .tup [vst r1, vst (tx "half")]) n3
        walk_at "rd"
        refine RD.ixL (((s0.trans t2).trans t3).seq hq) (show atI (vsts [h, x, tx "=", v]) ((3 : Nat) : Int) = some (vst v) from at_n rfl) ?_
        walk_at "rd"
        refine ⟨few, fun p4 n4 => ?_⟩
        have t4 := same_new (o := .tup [vst v, vst r3]) n4
        walk_at "rd"
        refine ⟨few, fun p5 n5 => ?_⟩
        have t5 := same_new (o := .lst [V.ref p3, V.ref p4]) n5
        walk_at "rd"
        have t25 := s0.trans (((t2.trans t3).trans t4).trans t5)
        refine mk_form (f := ⟨.round r1 r3 v, [(r1, half), (v, r3)], []⟩) (sv := .ref p2) (u := p5) (b := A.e_Form_d_initd__1) rfl ⟨p2, rfl, st (((t3.trans t4).trans t5) _ _ upd_same)⟩ (pairs2 (H := H1) ((t4.trans t5) _ _ upd_same) (t5 _ _ upd_same) upd_same) (pairs0 (T.et_Form_d_initd__1 _)) fun H' v s' hf => ?_
        refine q _ _ (t25.trans s') ?_
        rw [es]
        exact hf.past t25
end
end Pf

namespace Pf
open PySem PySem.Spec PyProof.Rows L2 SX RD PR
def TPx (H : Hp) (c : Addr) (p : Tx × Tx) : Prop := H c = some (.tup [vst p.1, vst p.2])
theorem pr_app {α β : Type} {R : α → β → Prop} : ∀ {l : List α} {m : List β} {l' : List α} {m' : List β}, Paired R l m → Paired R l' m' → Paired R (l ++ l') (m ++ m')
  | _, _, _, _, .nil, h => h
  | _, _, _, _, .cons r t, h => .cons r (pr_app t h)
/-- [(.., ..) for x in a list of texts] -/
theorem lcTP {σ : L2.St} {H : Hp} {Q : VK} {K : PySem.W.Frag} {g : TG} {tt : TT} {te : TE} {vs : List Nat} {a : Addr} {L : List Tx} (hq : SqL K H a (vsts L)) (hz : L.length ≤ 1000) (F : Tx → Tx × Tx)
    (turn : ∀ (j : Nat) (x : Tx) H1 (Q' : VK) (R' : Hp → Prop), L[j]? = some x → Same H H1 → (∀ c, H1 c = none → Q' (.ref c) (upd H1 c (.tup [vst (F x).1, vst (F x).2]))) →
      g (vst x) (wipe σ vs) H1 fun σ2 H3 => wipe σ2 vs = wipe σ vs ∧ tt σ2 H3 fun b H5 => if b = true then te σ2 H5 Q' else R' H5)
    (hd : ∀ H' q, H q = none → Same H H' → PairsA K H' q (L.map F) → Q (.ref q) H') : ∃ a', V.ref a = .ref a' ∧ (∃ ys, SqL K H a' ys) ∧ LR (Itl K a') g tt te vs σ H Q := by
  refine ⟨a, rfl, ⟨_, hq⟩, fun D hD => ?_⟩
  have w := walk_list (K := K) (a := a) (xs := vsts L)
  rw [vsts_len] at w
  refine lc_it w (fun j H1 => Same H H1 ∧ ∃ qs, (∀ c ∈ qs, c ≠ D) ∧ H1 D = some (.lst (qs.map V.ref)) ∧ Paired (TPx H1) qs ((L.take j).map F)) ⟨same_new hD, [], (fun c hc => nomatch hc), upd_same, .nil⟩ (fun j H1 _ hp => hp.1.seq hq) (fun j x H1 H2 hj hp y => ?_) (fun H1 hp => ?_)
  · obtain ⟨rfl, y⟩ := y
    obtain ⟨s1, qs, hqs, eD, pq⟩ := hp
    have hL : L[j]? = some L[j] := List.getElem?_eq_getElem hj
    rw [vsts_at hL] at y
    cases y
    refine turn j L[j] _ _ _ hL s1 fun c nc => ?_
    have Dc : D ≠ c := ne_of_none eD nc
    have hlen := paired_len pq
    rw [List.length_map, List.length_take] at hlen
    have t1 := same_new (o := .tup [vst (F L[j]).1, vst (F L[j]).2]) nc
    refine ⟨_, t1 _ _ eD, by rw [List.length_map]; exact szt (by omega), same_mut (s1.trans t1) hD, qs ++ [c], fun b hb => ?_, by rw [upd_same, List.map_append]; rfl, ?_⟩
    · rcases List.mem_append.mp hb with hb | hb
      · exact hqs b hb
      · rw [List.mem_singleton.mp hb]
        exact Dc.symm
    · rw [take_one hL, List.map_append]
      refine pr_app (paired_imp (fun a b e => ?_) pq) (.cons ?_ .nil)
      · show (upd _ D _) a = _
        by_cases z : a = D
        · rw [z] at e
          have e : _ = _ := e
          rw [eD] at e
          cases e
        · rw [upd_ne z]
          exact t1 _ _ e
      · show (upd _ D _) c = _
        rw [upd_ne Dc.symm, upd_same]
  · obtain ⟨s1, qs, hqs, eD, pq⟩ := hp
    rw [List.take_length] at pq
    exact hd H1 D hD s1 ⟨qs, eD, paired_imp (fun a b e => st e) pq⟩
section
variable {P : Program} {w : World} {K : PySem.W.Frag} {mg : Str → Option Value} {base : Heap} {A : Ad}
theorem ok_condition_form (T : Txt K mg A) : FnOk P w K mg base CX0 5 A.f_condition_form A.d_condition_form ["words"] (sp_wf A K preC condW) := by
  have G_condition_of := ok_condition_of (P := P) (w := w) (base := base) T
  have G_Form_d_initd_ := ok_Form_d_initd_ (P := P) (w := w) (base := base) T
  have G_condition_names := ok_condition_names (P := P) (w := w) (base := base) T
  refine T.F_condition_form.ok sc_condition_form (fun vs H Q E h => ?_) (fun cdv Ar outer s H vs Q E hr h => ?_)
  · obtain ⟨a, ws, rfl, _⟩ := h
    rfl
  · obtain ⟨a, ws, rfl, hq, hb, hz, ⟨h, ws, rfl, hh⟩, q⟩ := h
    refine ⟨_, (pss_cons (ps_set (i := 1) sc_condition_form.nd rfl (Or.inl rfl) (pe_call G_condition_of (hr.mono (by decide)) (by rfl) T.g_condition_of T.F_condition_of.kp T.b_condition_of .nil pass0 (pa_cons (pe_slice (RD.k_slL (K := K) rfl) (pv 0) (po_some pe_int) po_none) pa_nil)))
      (pss_cons (ps_if (pt_cmpR op_isN (pv 1) pe_non (nomark _))
      (pss_one (ps_ret pe_non))
      pss_nil)
      (pss_one (ps_ret (pe_make T.mk_Form G_Form_d_initd_ (hr.mono (by decide)) (by rfl) T.g_Form T.b1_Form_d_initd_ (.cons (a := V.ref A.e_Form_d_initd__1) rfl .nil) pass0 (pa_cons (pe_tup (pa_cons (pe_ix (RD.k_ixL (K := K) rfl) (pv 0) pe_int (fun _ _ => rfl)) (pa_cons (pv 1) pa_nil))) (pa_cons (pe_call G_condition_names (hr.mono (by decide)) (by rfl) T.g_condition_names T.F_condition_names.kp T.b_condition_names .nil pass0 (pa_cons (pv 1) pa_nil)) pa_nil))))))), ?_⟩
    show tSeq _ _ _ [some (.ref a), none] H
    have e0 : condW (h :: ws) = (condOf ws).map fun c => ⟨if h = tx "given" then .given c else .iff c none, [(c.left.1, half), (c.right.1, half)], []⟩ := rfl
    walk_at "rd"
    refine RD.slL hq fun p np => ?_
    have ec : cutV (vsts (h :: ws)) (some ((1 : Nat) : Int)) none = vsts ws := by
      rw [cut_from]
      rfl
    have ec' : cutV (vsts (h :: ws)) (some 1) none = vsts ws := ec
    rw [ec']
    have t0 := same_new (o := .lst (vsts ws)) np
    walk_at "rd"
    refine ⟨p, ws, rfl, sq upd_same, fun x hx => hb x (List.mem_cons_of_mem _ hx), fun H2 v s2 hv => ?_⟩
    walk_at "rd"
    refine ⟨rfl, ?_⟩
    walk_at "rd"
    cases hc : condOf ws with
    | none =>
      rw [hc] at hv e0
      have hv : v = .non := hv
      subst hv
      refine RD.decT rfl ?_
      walk_at "rd"
      exact q _ _ (t0.trans s2) (by rw [e0]; rfl)
    | some c =>
      rw [hc] at hv e0
      have hv : CondAt K H2 v c := hv
      have hv' := hv
      obtain ⟨ca, l, r, rfl, _⟩ := hv'
      refine RD.decF nofun ?_
      walk_at "rd"
      refine RD.ixL ((t0.trans s2).seq hq) (show atI (vsts (h :: ws)) ((0 : Nat) : Int) = some (vst h) from at_n rfl) ?_
      walk_at "rd"
      refine ⟨few, fun p2 n2 => ?_⟩
      have t2 := same_new (o := .tup [vst h, V.ref ca]) n2
      walk_at "rd"
      refine ⟨_, c, rfl, (Kp.same t2).cond hv, fun H3 u s3 hu => ?_⟩
      walk_at "rd"
      have t3 := ((t0.trans s2).trans t2).trans s3
      refine mk_form (f := ⟨if h = tx "given" then .given c else .iff c none, [(c.left.1, half), (c.right.1, half)], []⟩) (sv := .ref p2) (u := u) (b := A.e_Form_d_initd__1) rfl ?_ (pairsA_T hu) (pairs0 (T.et_Form_d_initd__1 _)) fun H' v s' hf => ?_
      · have ct := s3 _ _ upd_same
        have cc := (Kp.same (t2.trans s3)).cond hv
        by_cases hg : h = tx "given"
        · subst hg
          rw [if_pos rfl]
          exact ⟨p2, rfl, _, st ct, cc⟩
        · rw [if_neg hg]
          have : h = tx "if" := hh.resolve_left hg
          subst this
          exact ⟨p2, rfl, _, st ct, cc⟩
      · refine q _ _ (t3.trans s') ?_
        rw [e0]
        exact hf.past t3
theorem ok_tell_form (T : Txt K mg A) : FnOk P w K mg base CX0 3 A.f_tell_form A.d_tell_form ["words"] (sp_wf A K preN tellW) := by
  have G_Form_d_initd_ := ok_Form_d_initd_ (P := P) (w := w) (base := base) T
  refine T.F_tell_form.ok sc_tell_form (fun vs H Q E h => ?_) (fun cdv Ar outer s H vs Q E hr h => ?_)
  · obtain ⟨a, ws, rfl, _⟩ := h
    rfl
  · obtain ⟨a, ws, rfl, hq, hb, hz, hn, q⟩ := h
    refine ⟨_, (pss_cons (ps_if (pt_not (pt_chain op_le op_le pe_int (pe_callB (RD.k_len (K := K) rfl) (by rfl) T.z_len (by decide +kernel) (pa_cons (pv 0) pa_nil)) pe_int))
      (pss_one (ps_ret pe_non))
      pss_nil)
      (pss_one (ps_ret (pe_make T.mk_Form G_Form_d_initd_ (hr.mono (by decide)) (by rfl) T.g_Form T.b1_Form_d_initd_ (.cons (a := V.ref A.e_Form_d_initd__1) rfl .nil) pass0 (pa_cons (pe_tup (pa_cons pe_str (pa_cons (pe_callTy (RD.k_tupOf (K := K) rfl) (by rfl) T.z_tuple (by decide +kernel) (pa_cons (pe_slice (RD.k_slL (K := K) rfl) (pv 0) (po_some pe_int) po_none) pa_nil)) pa_nil))) (pa_cons (pe_lc (own := [("name", 1)]) (g := gName 1) (by rfl) sc_tell_form.nd (RD.k_pil (K := K) rfl (pe_slice (RD.k_slL (K := K) rfl) (pv 0) (po_some pe_int) po_none)) (blkOk_by (own := [("name", 1)]) (N := ["words", "name"]) (sc := defScope s_tell_form) (by decide +kernel)) (fun _ _ _ _ _ => (pg_name (i := 1) sc_tell_form.nd rfl (Or.inl rfl))) (fun _ _ _ _ _ => pts_nil) (fun _ _ _ _ _ => (pe_tup (pa_cons (pv 1) (pa_cons (RD.pe_gl (by rfl) T.k_HALF) pa_nil))))) pa_nil)))))), ?_⟩
    show tSeq _ _ _ [some (.ref a), none] H
    obtain ⟨h, ws, rfl⟩ : ∃ h r, ws = h :: r := by
      cases ws with
      | nil => exact absurd (show 1 ≤ 0 from hn) (by decide)
      | cons h r => exact ⟨h, r, rfl⟩
    have ec : cutV (vsts (h :: ws)) (some ((1 : Nat) : Int)) none = vsts ws := by
      rw [cut_from]
      rfl
    have ec' : cutV (vsts (h :: ws)) (some 1) none = vsts ws := ec
    have no : ¬ (1 ≤ ws.length ∧ ws.length ≤ 3) → ∀ H', Same H H' → Q .non H' := fun e H' s => q H' _ s (by rw [show tellW (h :: ws) = tellF ws from rfl, tellF, if_neg e]; rfl)
    walk_at "rd"
    refine RD.len hq ?_
    rw [vsts_len]
    walk_at "rd"
    refine RD.dec (fun h1 => ?_) (fun h1 => ?_)
    · walk_at "rd"
      by_cases h4 : ((h :: ws).length : Int) ≤ 4
      · rw [decide_eq_true h4]
        rw [List.length_cons] at h1 h4
        walk_at "rn"
        refine RD.slL hq fun p np => ?_
        rw [ec']
        have t0 := same_new (o := .lst (vsts ws)) np
        walk_at "rd"
        refine RD.tupL (sq upd_same) fun p1 n1 => ?_
        have t1 := same_new (o := .tup (vsts ws)) n1
        walk_at "rd"
        refine ⟨few, fun p2 n2 => ?_⟩
        have t2 := same_new (o := .tup [vst (tx "tell"), V.ref p1]) n2
        walk_at "rd"
        have t02 := (t0.trans t1).trans t2
        refine RD.slL (t02.seq hq) fun p3 n3 => ?_
        rw [ec']
        have t3 := same_new (o := .lst (vsts ws)) n3
        walk_at "rd"
        refine lcTP (sq upd_same) (by omega) (fun x => (x, half)) (fun j x H1 Q' R' hx s1 kT => ?_) (fun H1 u nu s1 hu => ?_)
        · walk_at "wp"
          walk_at "rd"
          refine ⟨rfl, ?_⟩
          walk_at "rd"
          exact ⟨few, fun c nc => kT c nc⟩
        · walk_at "rd"
          have t13 := (t02.trans t3).trans s1
          refine mk_form (f := ⟨.tell ws, ws.map fun x => (x, half), []⟩) (sv := .ref p2) (u := u) (b := A.e_Form_d_initd__1) rfl ⟨p2, rfl, p1, st ((t3.trans s1) _ _ upd_same), st (((t2.trans t3).trans s1) _ _ upd_same)⟩ (pairsA_T hu) (pairs0 (T.et_Form_d_initd__1 _)) fun H' v s' hf => ?_
          refine q _ _ (t13.trans s') ?_
          rw [show tellW (h :: ws) = tellF ws from rfl, tellF, if_pos (by omega)]
          exact hf.past t13
      · rw [decide_eq_false h4]
        rw [List.length_cons] at h4
        walk_at "rn"
        exact no (by omega) _ (Same.refl _)
    · rw [List.length_cons] at h1
      walk_at "rn"
      exact no (by omega) _ (Same.refl _)
end
end Pf

namespace Pf
open PySem PySem.Spec PyProof.Rows L2 SX RD PR
def sp_form_of (A : Ad) (K : PySem.W.Frag) : Sp := fun vs H Q _ => ∃ t : Tx, vs = [vst t] ∧ t.length ≤ 10000 ∧ ∀ H' v, Same H H' → OptAt (FormAt A K H H') v (formOf t) → Q v H'
section
variable {P : Program} {w : World} {K : PySem.W.Frag} {mg : Str → Option Value} {base : Heap} {A : Ad}
theorem opt_past {H1 H0 H : Hp} {v : V} (s : Same H1 H0) : ∀ {o : Option Form}, OptAt (FormAt A K H0 H) v o → OptAt (FormAt A K H1 H) v o
  | none, h => h
  | some _, h => FormAt.past s h
theorem two_of {ws : List Tx} (h : ws.length = 2) : ∃ a b, ws = [a, b] := by
  match ws, h with
  | [a, b], _ => exact ⟨a, b, rfl⟩
theorem one_of {ws : List Tx} (h : ws.length = 1) : ∃ a, ws = [a] := by
  match ws, h with
  | [a], _ => exact ⟨a, rfl⟩
theorem ok_form_of (T : Txt K mg A) : FnOk P w K mg base CX0 6 A.f_form_of A.d_form_of ["line"] (sp_form_of A K) := by
  have G_condition_form := ok_condition_form (P := P) (w := w) (base := base) T
  have G_let_form := ok_let_form (P := P) (w := w) (base := base) T
  have G_round_form := ok_round_form (P := P) (w := w) (base := base) T
  have G_tell_form := ok_tell_form (P := P) (w := w) (base := base) T
  have G_Form_d_initd_ := ok_Form_d_initd_ (P := P) (w := w) (base := base) T
  have G_write_form := ok_write_form (P := P) (w := w) (base := base) T
  refine T.F_form_of.ok sc_form_of (fun vs H Q E h => ?_) (fun cdv Ar outer s H vs Q E hr h => ?_)
  · obtain ⟨t, rfl, _⟩ := h
    rfl
  · obtain ⟨t, rfl, hl, q⟩ := h
    refine ⟨_, (pss_cons (ps_set (i := 1) sc_form_of.nd rfl (Or.inl rfl) (RD.k_split (pv 0) pe_str))
      (pss_cons (ps_set (i := 2) sc_form_of.nd rfl (Or.inl rfl) (pe_ix (RD.k_ixL (K := K) rfl) (pv 1) pe_int (fun _ _ => rfl)))
      (RD.pss_cut (ps_if (pt_cmpR (RD.k_in (K := K) rfl) (pv 2) (pe_tup (pa_cons pe_str (pa_cons pe_str pa_nil))) (by rfl))
      (pss_one (ps_ret (pe_call G_condition_form (hr.mono (by decide)) (by rfl) T.g_condition_form T.F_condition_form.kp T.b_condition_form .nil pass0 (pa_cons (pv 1) pa_nil))))
      pss_nil)
      (RD.pss_cut (ps_if (pt_cmpR op_eq (pv 2) pe_str (nomark _))
      (pss_one (ps_ret (pe_call G_let_form (hr.mono (by decide)) (by rfl) T.g_let_form T.F_let_form.kp T.b_let_form .nil pass0 (pa_cons (pv 1) pa_nil))))
      pss_nil)
      (RD.pss_cut (ps_if (pt_cmpR op_eq (pv 2) pe_str (nomark _))
      (pss_one (ps_ret (pe_call G_round_form (hr.mono (by decide)) (by rfl) T.g_round_form T.F_round_form.kp T.b_round_form .nil pass0 (pa_cons (pv 1) pa_nil))))
      pss_nil)
      (RD.pss_cut (ps_if (pt_cmpR op_eq (pv 2) pe_str (nomark _))
      (pss_one (ps_ret (pe_call G_tell_form (hr.mono (by decide)) (by rfl) T.g_tell_form T.F_tell_form.kp T.b_tell_form .nil pass0 (pa_cons (pv 1) pa_nil))))
      pss_nil)
      (RD.pss_cut (ps_if (PW.pt (pw_and (pt_cmpR op_eq (pv 2) pe_str (nomark _)) (pw_and1 (pt_cmpR op_eq (pe_callB (RD.k_len (K := K) rfl) (by rfl) T.z_len (by decide +kernel) (pa_cons (pv 1) pa_nil)) pe_int (nomark _)))))
      (pss_one (ps_ret (pe_make T.mk_Form G_Form_d_initd_ (hr.mono (by decide)) (by rfl) T.g_Form T.b_Form_d_initd_ .nil pass0 (pa_cons (pe_tup (pa_cons pe_str (pa_cons (pe_ix (RD.k_ixL (K := K) rfl) (pv 1) pe_int (fun _ _ => rfl)) (pa_cons (pe_ix (RD.k_ixL (K := K) rfl) (pv 1) pe_int (fun _ _ => rfl)) pa_nil)))) (pa_cons (pe_tup pa_nil) (pa_cons (pe_lst (pa_cons (pe_tup (pa_cons (pe_ix (RD.k_ixL (K := K) rfl) (pv 1) pe_int (fun _ _ => rfl)) (pa_cons (RD.pe_gl (by rfl) T.k_HALF) pa_nil))) (pa_cons (pe_tup (pa_cons (pe_ix (RD.k_ixL (K := K) rfl) (pv 1) pe_int (fun _ _ => rfl)) (pa_cons (RD.pe_gl (by rfl) T.k_HALF) pa_nil))) pa_nil))) pa_nil))))))
      pss_nil)
      (RD.pss_cut (ps_if (PW.pt (pw_and (pt_cmpR op_eq (pv 2) pe_str (nomark _)) (pw_and1 (pt_cmpR op_eq (pe_callB (RD.k_len (K := K) rfl) (by rfl) T.z_len (by decide +kernel) (pa_cons (pv 1) pa_nil)) pe_int (nomark _)))))
      (pss_one (ps_ret (pe_make T.mk_Form G_Form_d_initd_ (hr.mono (by decide)) (by rfl) T.g_Form T.b1_Form_d_initd_ (.cons (a := V.ref A.e_Form_d_initd__1) rfl .nil) pass0 (pa_cons (pe_tup (pa_cons pe_str (pa_cons (pe_ix (RD.k_ixL (K := K) rfl) (pv 1) pe_int (fun _ _ => rfl)) pa_nil))) (pa_cons (pe_lst (pa_cons (pe_tup (pa_cons (pe_ix (RD.k_ixL (K := K) rfl) (pv 1) pe_int (fun _ _ => rfl)) (pa_cons pe_str pa_nil))) pa_nil)) pa_nil)))))
      pss_nil)
      (RD.pss_cut (ps_if (PW.pt (pw_and (pt_cmpR op_eq (pv 2) pe_str (nomark _)) (pw_and (pt_cmpR op_eq (pe_callB (RD.k_len (K := K) rfl) (by rfl) T.z_len (by decide +kernel) (pa_cons (pv 1) pa_nil)) pe_int (nomark _)) (pw_and1 (pt_cmpR (RD.k_in (K := K) rfl) (pe_ix (RD.k_ixL (K := K) rfl) (pv 1) pe_int (fun _ _ => rfl)) (pe_glob (v := .ref A.k_KINDS) rfl T.k_KINDS rfl) (by rfl))))))
      (pss_one (ps_ret (pe_make T.mk_Form G_Form_d_initd_ (hr.mono (by decide)) (by rfl) T.g_Form T.b_Form_d_initd_ .nil pass0 (pa_cons (pe_tup (pa_cons pe_str (pa_cons (pe_ix (RD.k_ixL (K := K) rfl) (pv 1) pe_int (fun _ _ => rfl)) (pa_cons (pe_ix (RD.k_ixL (K := K) rfl) (pv 1) pe_int (fun _ _ => rfl)) pa_nil)))) (pa_cons (pe_tup pa_nil) (pa_cons (pe_lst (pa_cons (pe_tup (pa_cons (pe_ix (RD.k_ixL (K := K) rfl) (pv 1) pe_int (fun _ _ => rfl)) (pa_cons (pe_ix (RD.k_ixL (K := K) rfl) (pv 1) pe_int (fun _ _ => rfl)) pa_nil))) pa_nil)) pa_nil))))))
      pss_nil)
      (RD.pss_cut (ps_if (pt_cmpR (RD.k_in (K := K) rfl) (pv 0) (pe_tup (pa_cons pe_str (pa_cons pe_str pa_nil))) (by rfl))
      (pss_one (ps_ret (pe_make T.mk_Form G_Form_d_initd_ (hr.mono (by decide)) (by rfl) T.g_Form T.b2_Form_d_initd_ (.cons (a := V.ref A.e_Form_d_initd__0) rfl (.cons (a := V.ref A.e_Form_d_initd__1) rfl .nil)) pass0 (pa_cons (pe_tup (pa_cons (pv 0) pa_nil)) pa_nil))))
      pss_nil)
      (RD.pss_cut (ps_if (PW.pt (pw_and (pt_cmpR op_eq (pe_callB (RD.k_len (K := K) rfl) (by rfl) T.z_len (by decide +kernel) (pa_cons (pv 1) pa_nil)) pe_int (nomark _)) (pw_and1 (pt_cmpR op_eq (pe_ix (RD.k_ixL (K := K) rfl) (pv 1) pe_int (fun _ _ => rfl)) pe_str (nomark _)))))
      (pss_one (ps_ret (pe_call G_write_form (hr.mono (by decide)) (by rfl) T.g_write_form T.F_write_form.kp T.b_write_form .nil pass0 (pa_cons (pv 1) pa_nil))))
      pss_nil)
      (pss_one (ps_ret pe_non))))))))))))), ?_⟩
    show tSeq _ _ _ [some (vst t), none, none] H
    walk_at "rd"
    refine ⟨⟨_, rfl⟩, ?_⟩
    walk_at "rd"
    rw [tspc]
    refine RD.splt (by decide) (by omega) fun a na => ?_
    have hc := spc_cnt 32 t
    have hn := spc_ne 32 t
    have hbb := spc_len 32 t
    rw [show TL.spl [32] 0 [] t = spc 32 t from rfl]
    cases es : spc 32 t with
    | nil => exact absurd es hn
    | cons h ws =>
      rw [es] at hc hbb
      have e0 : formOf t = fw0 t h ws := by
        unfold formOf
        rw [es]
        rfl
      have hb : ∀ x ∈ h :: ws, x.length ≤ 10000 := fun x hx => Nat.le_trans (hbb x hx) hl
      have hz : (h :: ws).length ≤ 11000 := by omega
      rw [e0] at q
      have s0 := same_new (o := .lst (vsts (h :: ws))) na
      have hq : SqL K _ a (vsts (h :: ws)) := sq (upd_same (H := H) (a := a) (o := .lst (vsts (h :: ws))))
      revert s0 hq
      generalize upd H a (.lst (vsts (h :: ws))) = H0
      intro s0 hq
      walk_at "rd"
      refine RD.ixL hq (show atI (vsts (h :: ws)) ((0 : Nat) : Int) = some (vst h) from at_n rfl) ?_
      walk_at "rd"
      refine RD.cut (fun σ H' => σ = [some (vst t), some (.ref a), some (vst h)] ∧ Same H H' ∧ SqL K H' a (vsts (h :: ws)) ∧ fw0 t h ws = fw1 t h ws) ?_ ?_
      · walk_at "rd"
        refine ⟨few, fun p1 n1 => ?_⟩
        have t1 := same_new (o := .tup [vst (tx "given"), vst (tx "if")]) n1
        refine RD.inT (ls := [tx "given", tx "if"]) (st upd_same) ?_
        walk_at "rd"
        refine RD.dec (fun h1 => ?_) (fun h1 => ?_)
        · walk_at "rd"
          refine ⟨a, h :: ws, rfl, t1.seq hq, hb, hz, ⟨h, ws, rfl, by simpa using h1⟩, fun H' v s' hv => ?_⟩
          refine q _ _ ((s0.trans t1).trans s') ?_
          rw [fw0, if_pos (by simpa using h1)]
          exact opt_past (s0.trans t1) hv
        · walk_at "rd"
          exact ⟨rfl, s0.trans t1, t1.seq hq, if_neg (by simpa using h1)⟩
      rintro σ H1 ⟨rfl, s1, hq1, e1⟩
      rw [e1] at q
      refine RD.cut (fun σ H' => σ = [some (vst t), some (.ref a), some (vst h)] ∧ H' = H1 ∧ fw1 t h ws = fw2 t h ws) ?_ ?_
      · walk_at "rd"
        refine RD.dec (fun h1 => ?_) (fun h1 => ?_)
        · walk_at "rd"
          refine ⟨a, h :: ws, rfl, hq1, hb, hz, trivial, fun H' v s' hv => ?_⟩
          refine q _ _ (s1.trans s') ?_
          rw [fw1, if_pos h1]
          exact opt_past s1 hv
        · walk_at "rd"
          exact ⟨rfl, rfl, if_neg h1⟩
      rintro σ H2 ⟨rfl, rfl, e2⟩
      rw [e2] at q
      refine RD.cut (fun σ H' => σ = [some (vst t), some (.ref a), some (vst h)] ∧ H' = H2 ∧ fw2 t h ws = fw3 t h ws) ?_ ?_
      · walk_at "rd"
        refine RD.dec (fun h1 => ?_) (fun h1 => ?_)
        · walk_at "rd"
          refine ⟨a, h :: ws, rfl, hq1, hb, hz, trivial, fun H' v s' hv => ?_⟩
          refine q _ _ (s1.trans s') ?_
          rw [fw2, if_pos h1]
          exact opt_past s1 hv
        · walk_at "rd"
          exact ⟨rfl, rfl, if_neg h1⟩
      rintro σ H2 ⟨rfl, rfl, e3⟩
      rw [e3] at q
      refine RD.cut (fun σ H' => σ = [some (vst t), some (.ref a), some (vst h)] ∧ H' = H2 ∧ fw3 t h ws = fw4 t h ws) ?_ ?_
      · walk_at "rd"
        refine RD.dec (fun h1 => ?_) (fun h1 => ?_)
        · walk_at "rd"
          refine ⟨a, h :: ws, rfl, hq1, hb, hz, Nat.succ_le_succ (Nat.zero_le _), fun H' v s' hv => ?_⟩
          refine q _ _ (s1.trans s') ?_
          rw [fw3, if_pos h1]
          exact opt_past s1 hv
        · walk_at "rd"
          exact ⟨rfl, rfl, if_neg h1⟩
      rintro σ H2 ⟨rfl, rfl, e4⟩
      rw [e4] at q
      refine RD.cut (fun σ H' => σ = [some (vst t), some (.ref a), some (vst h)] ∧ H' = H2 ∧ fw4 t h ws = fw5 t h ws) ?_ ?_
      · walk_at "rd"
        refine RD.dec (fun h1 => ?_) (fun h1 => ?_)
        · walk_at "rd"
          refine RD.len hq1 ?_
          rw [vsts_len]
          walk_at "rd"
          refine RD.dec (fun h2 => ?_) (fun h2 => ?_)
          · obtain ⟨x, y, rfl⟩ := two_of (show ws.length = 2 by rw [List.length_cons] at h2; omega)
            walk_at "rd"
            refine RD.ixL hq1 (show atI (vsts [h, x, y]) ((1 : Nat) : Int) = some (vst x) from at_n rfl) ?_
            walk_at "rd"
            refine RD.ixL hq1 (show atI (vsts [h, x, y]) ((2 : Nat) : Int) = some (vst y) from at_n rfl) ?_
            walk_at "rd"
            refine ⟨few, fun p1 n1 => ?_⟩
            have t1 := same_new (o := .tup [vst (tx "make"), vst x, vst y]) n1
            walk_at "rd"
            refine ⟨few, fun p2 n2 => ?_⟩
            have t2 := same_new (o := .tup []) n2
            walk_at "rd"
            refine RD.ixL ((t1.trans t2).seq hq1) (show atI (vsts [h, x, y]) ((1 : Nat) : Int) = some (vst x) from at_n rfl) ?_
            walk_at "rd"
            refine ⟨few, fun p3 n3 => ?_⟩
            have t3 := same_new (o := .tup [vst x, vst (tx "half")]) n3
            walk_at "rd"
            refine RD.ixL (((t1.trans t2).trans t3).seq hq1) (show atI (vsts [h, x, y]) ((2 : Nat) : Int) = some (vst y) from at_n rfl) ?_
            walk_at "rd"
            refine ⟨few, fun p4 n4 => ?_⟩
            have t4 := same_new (o := .tup [vst y, vst (tx "half")]) n4
            walk_at "rd"
            refine ⟨few, fun p5 n5 => ?_⟩
            have t5 := same_new (o := .lst [V.ref p3, V.ref p4]) n5
            walk_at "rd"
            have t15 := s1.trans (t1.trans (((t2.trans t3).trans t4).trans t5))
            refine mk_form (f := ⟨.make x y, [], [(x, half), (y, half)]⟩) (sv := .ref p1) (u := p2) (b := p5) rfl ⟨p1, rfl, st ((((t2.trans t3).trans t4).trans t5) _ _ upd_same)⟩ (pairs0 (st (((t3.trans t4).trans t5) _ _ upd_same))) (pairs2 (H := H) ((t4.trans t5) _ _ upd_same) (t5 _ _ upd_same) upd_same) fun H' v s' hf => ?_
            refine q _ _ (t15.trans s') ?_
            rw [fw4, if_pos ⟨h1, rfl⟩]
            exact hf.past t15
          · walk_at "rd"
            exact ⟨rfl, rfl, if_neg fun z => h2 (by rw [List.length_cons, z.2]; rfl)⟩
        · walk_at "rd"
          exact ⟨rfl, rfl, if_neg fun z => h1 z.1⟩
      rintro σ H2 ⟨rfl, rfl, e5⟩
      rw [e5] at q
      refine RD.cut (fun σ H' => σ = [some (vst t), some (.ref a), some (vst h)] ∧ H' = H2 ∧ fw5 t h ws = fw6 t h ws) ?_ ?_
      · walk_at "rd"
        refine RD.dec (fun h1 => ?_) (fun h1 => ?_)
        · walk_at "rd"
          refine RD.len hq1 ?_
          rw [vsts_len]
          walk_at "rd"
          refine RD.dec (fun h2 => ?_) (fun h2 => ?_)
          · obtain ⟨x, rfl⟩ := one_of (show ws.length = 1 by rw [List.length_cons] at h2; omega)
            walk_at "rd"
            refine RD.ixL hq1 (show atI (vsts [h, x]) ((1 : Nat) : Int) = some (vst x) from at_n rfl) ?_
            walk_at "rd"
            refine ⟨few, fun p1 n1 => ?_⟩
            have t1 := same_new (o := .tup [vst (tx "drop"), vst x]) n1
            walk_at "rd"
            refine RD.ixL (t1.seq hq1) (show atI (vsts [h, x]) ((1 : Nat) : Int) = some (vst x) from at_n rfl) ?_
            walk_at "rd"
            refine ⟨few, fun p2 n2 => ?_⟩
            have t2 := same_new (o := .tup [vst x, vst (tx "any")]) n2
            walk_at "rd"
            refine ⟨few, fun p3 n3 => ?_⟩
            have t3 := same_new (o := .lst [V.ref p2]) n3
            walk_at "rd"
            have t15 := s1.trans ((t1.trans t2).trans t3)
            refine mk_form (f := ⟨.drop x none, [(x, tx "any")], []⟩) (sv := .ref p1) (u := p3) (b := A.e_Form_d_initd__1) rfl ⟨p1, rfl, st ((t2.trans t3) _ _ upd_same)⟩ (pairs1 (H := H) (t3 _ _ upd_same) upd_same) (pairs0 (T.et_Form_d_initd__1 _)) fun H' v s' hf => ?_
            refine q _ _ (t15.trans s') ?_
            rw [fw5, if_pos ⟨h1, rfl⟩]
            exact hf.past t15
          · walk_at "rd"
            exact ⟨rfl, rfl, if_neg fun z => h2 (by rw [List.length_cons, z.2]; rfl)⟩
        · walk_at "rd"
          exact ⟨rfl, rfl, if_neg fun z => h1 z.1⟩
      rintro σ H2 ⟨rfl, rfl, e6⟩
      rw [e6] at q
      refine RD.cut (fun σ H' => σ = [some (vst t), some (.ref a), some (vst h)] ∧ H' = H2 ∧ fw6 t h ws = fw7 t h ws) ?_ ?_
      · walk_at "rd"
        refine RD.dec (fun h1 => ?_) (fun h1 => ?_)
        · walk_at "rd"
          refine RD.len hq1 ?_
          rw [vsts_len]
          walk_at "rd"
          refine RD.dec (fun h2 => ?_) (fun h2 => ?_)
          · obtain ⟨x, y, rfl⟩ := two_of (show ws.length = 2 by rw [List.length_cons] at h2; omega)
            walk_at "rd"
            refine RD.ixL hq1 (show atI (vsts [h, x, y]) ((1 : Nat) : Int) = some (vst x) from at_n rfl) ?_
            walk_at "rd"
            refine RD.inT (ls := kinds) (by rw [← vsts_kinds]; exact T.kt_KINDS _) ?_
            walk_at "rd"
            refine RD.dec (fun h3 => ?_) (fun h3 => ?_)
            · walk_at "rd"
              refine RD.ixL hq1 (show atI (vsts [h, x, y]) ((1 : Nat) : Int) = some (vst x) from at_n rfl) ?_
              walk_at "rd"
              refine RD.ixL hq1 (show atI (vsts [h, x, y]) ((2 : Nat) : Int) = some (vst y) from at_n rfl) ?_
              walk_at "rd"
              refine ⟨few, fun p1 n1 => ?_⟩
              have t1 := same_new (o := .tup [vst (tx "new"), vst x, vst y]) n1
              walk_at "rd"
              refine ⟨few, fun p2 n2 => ?_⟩
              have t2 := same_new (o := .tup []) n2
              walk_at "rd"
              refine RD.ixL ((t1.trans t2).seq hq1) (show atI (vsts [h, x, y]) ((2 : Nat) : Int) = some (vst y) from at_n rfl) ?_
              walk_at "rd"
              refine RD.ixL ((t1.trans t2).seq hq1) (show atI (vsts [h, x, y]) ((1 : Nat) : Int) = some (vst x) from at_n rfl) ?_
              walk_at "rd"
              refine ⟨few, fun p3 n3 => ?_⟩
              have t3 := same_new (o := .tup [vst y, vst x]) n3
              walk_at "rd"
              refine ⟨few, fun p4 n4 => ?_⟩
              have t4 := same_new (o := .lst [V.ref p3]) n4
              walk_at "rd"
              have t15 := s1.trans (t1.trans ((t2.trans t3).trans t4))
              refine mk_form (f := ⟨.new x y, [], [(y, x)]⟩) (sv := .ref p1) (u := p2) (b := p4) rfl ⟨p1, rfl, st (((t2.trans t3).trans t4) _ _ upd_same)⟩ (pairs0 (st ((t3.trans t4) _ _ upd_same))) (pairs1 (H := H) (t4 _ _ upd_same) upd_same) fun H' v s' hf => ?_
              refine q _ _ (t15.trans s') ?_
              rw [fw6, if_pos ⟨h1, rfl, h3⟩]
              exact hf.past t15
            · walk_at "rd"
              exact ⟨rfl, rfl, if_neg fun z => h3 z.2.2⟩
          · walk_at "rd"
            exact ⟨rfl, rfl, if_neg fun z => h2 (by rw [List.length_cons, z.2.1]; rfl)⟩
        · walk_at "rd"
          exact ⟨rfl, rfl, if_neg fun z => h1 z.1⟩
      rintro σ H2 ⟨rfl, rfl, e7⟩
      rw [e7] at q
      refine RD.cut (fun σ H' => σ = [some (vst t), some (.ref a), some (vst h)] ∧ Same H H' ∧ SqL K H' a (vsts (h :: ws)) ∧ fw7 t h ws = fw8 h ws) ?_ ?_
      · walk_at "rd"
        refine ⟨few, fun p1 n1 => ?_⟩
        have t1 := same_new (o := .tup [vst (tx "else"), vst (tx "end")]) n1
        refine RD.inT (ls := [tx "else", tx "end"]) (st upd_same) ?_
        walk_at "rd"
        refine RD.dec (fun h1 => ?_) (fun h1 => ?_)
        · walk_at "rd"
          refine ⟨few, fun p2 n2 => ?_⟩
          have t2 := same_new (o := .tup [vst t]) n2
          walk_at "rd"
          have t12 := (s1.trans t1).trans t2
          have e : fw7 t h ws = some ⟨if t = tx "else" then .els none else .fin, [], []⟩ := by
            unfold fw7
            by_cases z : t = tx "else"
            · rw [if_pos z, if_pos z]
            · rw [if_neg z, if_neg z, if_pos ((by simpa using h1 : t = tx "else" ∨ t = tx "end").resolve_left z)]
          refine mk_form (f := ⟨if t = tx "else" then .els none else .fin, [], []⟩) (sv := .ref p2) (u := A.e_Form_d_initd__0) (b := A.e_Form_d_initd__1) rfl ?_ (pairs0 (T.et_Form_d_initd__0 _)) (pairs0 (T.et_Form_d_initd__1 _)) fun H' v s' hf => ?_
          · by_cases z : t = tx "else"
            · subst z
              rw [if_pos rfl]
              exact ⟨p2, rfl, st upd_same⟩
            · rw [if_neg z]
              have := (by simpa using h1 : t = tx "else" ∨ t = tx "end").resolve_left z
              subst this
              exact ⟨p2, rfl, st upd_same⟩
          · refine q _ _ (t12.trans s') ?_
            rw [e]
            exact hf.past t12
        · walk_at "rd"
          have h1' : ¬ (t = tx "else" ∨ t = tx "end") := by simpa using h1
          refine ⟨rfl, s1.trans t1, t1.seq hq1, ?_⟩
          rw [fw7, if_neg (fun z => h1' (.inl z)), if_neg (fun z => h1' (.inr z))]
      rintro σ H3 ⟨rfl, s3, hq3, e8⟩
      rw [e8] at q
      refine RD.cut (fun σ H' => H' = H3 ∧ fw8 h ws = none) ?_ ?_
      · walk_at "rd"
        refine RD.len hq3 ?_
        rw [vsts_len]
        walk_at "rd"
        refine RD.dec (fun h2 => ?_) (fun h2 => ?_)
        · obtain ⟨x, y, rfl⟩ := two_of (show ws.length = 2 by rw [List.length_cons] at h2; omega)
          walk_at "rd"
          refine RD.ixL hq3 (show atI (vsts [h, x, y]) ((1 : Nat) : Int) = some (vst x) from at_n rfl) ?_
          walk_at "rd"
          refine RD.dec (fun h3 => ?_) (fun h3 => ?_)
          · walk_at "rd"
            refine ⟨a, [h, x, y], rfl, hq3, hb, hz, rfl, fun H' v s' hv => ?_⟩
            refine q _ _ (s3.trans s') ?_
            rw [fw8, if_pos ⟨rfl, h3⟩]
            exact opt_past s3 hv
          · walk_at "rd"
            exact ⟨rfl, if_neg fun z => h3 z.2⟩
        · walk_at "rd"
          exact ⟨rfl, if_neg fun z => h2 (by rw [List.length_cons, z.1]; rfl)⟩
      rintro σ H4 ⟨rfl, e9⟩
      walk_at "rd"
      exact q _ _ s3 (by rw [e9]; rfl)
end
end Pf

namespace Pf
open PySem PySem.Spec PyProof.Rows L2 SX RD PR
def sp_right : Sp := fun vs H Q _ => ∃ k n : Tx, vs = [vst k, vst n] ∧ ∀ H', Same H H' → Q (.bl (rightK k n)) H'
def NewL (H0 H : Hp) (v : V) (ns : List Tx) : Prop := ∃ a, v = .ref a ∧ H0 a = none ∧ H a = some (.lst (vsts ns))
def sp_first : Sp := fun vs H Q _ => ∃ t wd : Tx, vs = [vst t, vst wd] ∧ t.length ≤ 10000 ∧ ∀ H' v, Same H H' → OptAt (NewL H H') v (firstL t wd) → Q v H'
section
variable {P : Program} {w : World} {K : PySem.W.Frag} {mg : Str → Option Value} {base : Heap} {A : Ad}
theorem ok_is_right_kind (T : Txt K mg A) : FnOk P w K mg base CX0 1 A.f_is_right_kind A.d_is_right_kind ["kind", "needed"] (sp_right) := by
  refine T.F_is_right_kind.ok sc_is_right_kind (fun vs H Q E h => ?_) (fun cdv Ar outer s H vs Q E hr h => ?_)
  · obtain ⟨k, n, rfl, _⟩ := h
    rfl
  · obtain ⟨k, n, rfl, q⟩ := h
    refine ⟨_, (pss_cons (ps_if (pt_cmpR op_eq (pv 1) pe_str (nomark _))
      (pss_one (ps_ret (pe_cmpR (RD.k_in (K := K) rfl) (pv 0) (pe_glob (v := .ref A.k_KINDS) rfl T.k_KINDS rfl) (by rfl))))
      pss_nil)
      (pss_one (ps_ret (pe_cmpR (RD.k_in (K := K) rfl) (pv 1) (pe_tup (pa_cons (pv 0) (pa_cons pe_str pa_nil))) (by rfl))))), ?_⟩
    show tSeq _ _ _ [some (vst k), some (vst n)] H
    walk_at "rd"
    refine RD.dec (fun h1 => ?_) (fun h1 => ?_)
    · walk_at "rd"
      refine RD.inT (ls := kinds) (by rw [← vsts_kinds]; exact T.kt_KINDS _) ?_
      have e : rightK k n = decide (k ∈ kinds) := if_pos h1
      rw [← e]
      exact q _ (Same.refl _)
    · walk_at "rd"
      refine ⟨few, fun p np => ?_⟩
      refine RD.inT (ls := [k, tx "any"]) (st upd_same) ?_
      have e : rightK k n = decide (n ∈ [k, tx "any"]) := by
        rw [rightK, if_neg h1]
        simp
      rw [← e]
      exact q _ (same_new np)
theorem ok_first_line (T : Txt K mg A) : FnOk P w K mg base CX0 3 A.f_first_line A.d_first_line ["line", "word"] (sp_first) := by
  have G_is_name := ok_is_name (P := P) (w := w) (base := base) T
  refine T.F_first_line.ok sc_first_line (fun vs H Q E h => ?_) (fun cdv Ar outer s H vs Q E hr h => ?_)
  · obtain ⟨t, wd, rfl, _⟩ := h
    rfl
  · obtain ⟨t, wd, rfl, hl, q⟩ := h
    refine ⟨_, (pss_cons (ps_asg (RD.k_split (pv 0) pe_str) (RD.k_star (K := K) rfl (pgs_cons (pg_name (i := 2) sc_first_line.nd rfl (Or.inl rfl)) (RD.pgs_star (pg_name (i := 3) sc_first_line.nd rfl (Or.inl rfl)) pgs_nil))))
      (RD.pss_cut (ps_if (PW.pt (pw_or (pt_cmpR op_ne (pv 2) (pv 1) (nomark _)) (pw_or (pt_not (pt_chain op_le op_le pe_int (pe_callB (RD.k_len (K := K) rfl) (by rfl) T.z_len (by decide +kernel) (pa_cons (pv 3) pa_nil)) pe_int)) (pw_or1 (RD.k_tru (K := K) rfl (pe_lc (own := [("name", 4)]) (g := gName 4) (by rfl) sc_first_line.nd (RD.k_pil (K := K) rfl (pv 3)) (blkOk_by (own := [("name", 4)]) (N := ["line", "word", "head", "names", "name"]) (sc := defScope s_first_line) (by decide +kernel)) (fun _ _ _ _ _ => (pg_name (i := 4) sc_first_line.nd rfl (Or.inl rfl))) (fun _ _ _ _ _ => (pts_one (pt_not (pt_val (pe_call G_is_name (hr.mono (by decide)) (by rfl) T.g_is_name T.F_is_name.kp T.b_is_name .nil pass0 (pa_cons (pv 4) pa_nil)))))) (fun _ _ _ _ _ => (pv 4))) (by intro _; rfl))))))
      (pss_one (ps_ret pe_non))
      pss_nil)
      (pss_cons (ps_if (pt_cmpR op_lt (RDT.k_lenSetT (K := K) rfl (by rfl) T.z_len (by rfl) T.z_set (pe_slice (RD.k_slL (K := K) rfl) (pv 3) (po_some pe_int) po_none)) (pe_op op_sub (pe_callB (RD.k_len (K := K) rfl) (by rfl) T.z_len (by decide +kernel) (pa_cons (pv 3) pa_nil)) pe_int) (nomark _))
      (pss_one (ps_ret pe_non))
      pss_nil)
      (pss_one (ps_ret (pv 3)))))), ?_⟩
    show tSeq _ _ _ [some (vst t), some (vst wd), none, none, none] H
    walk_at "rd"
    refine ⟨⟨_, rfl⟩, ?_⟩
    walk_at "rd"
    rw [tspc]
    refine RD.splt (by decide) (by omega) fun p np => ?_
    have hc := spc_cnt 32 t
    have hn := spc_ne 32 t
    have hb := spc_len 32 t
    rw [show TL.spl [32] 0 [] t = spc 32 t from rfl]
    cases es : spc 32 t with
    | nil => exact absurd es hn
    | cons hd ns =>
      rw [es] at hc hb
      rw [List.length_cons] at hc
      have e0 : firstL t wd = if hd = wd ∧ 2 ≤ ns.length ∧ ns.length ≤ 4 ∧ (∀ n ∈ ns, isName n = true) ∧ (ns.drop 1).Nodup then some ns else none := by
        unfold firstL
        rw [es]
      have no : ¬ (hd = wd ∧ 2 ≤ ns.length ∧ ns.length ≤ 4 ∧ (∀ n ∈ ns, isName n = true) ∧ (ns.drop 1).Nodup) → ∀ H', Same H H' → Q .non H' := fun z H' s => q H' _ s (by rw [e0, if_neg z]; rfl)
      refine RD.gst (sq upd_same) (by omega) fun D nD => ?_
      have sD := (same_new (o := .lst (vsts (hd :: ns))) np).trans (same_new (o := .lst (vsts ns)) nD)
      have nD0 : H D = none := (same_new (o := .lst (vsts (hd :: ns))) np).free nD
      walk_at "rd"
      refine RD.cut (fun σ H' => σ = [some (vst t), some (vst wd), some (vst hd), some (.ref D), none] ∧ Same H H' ∧ H' D = some (.lst (vsts ns)) ∧ hd = wd ∧ 2 ≤ ns.length ∧ ns.length ≤ 4 ∧ (∀ n ∈ ns, isName n = true)) ?_ ?_
      · walk_at "rd"
        refine RD.ndec (fun h1 => ?_) (fun h1 => ?_)
        · walk_at "rd"
          exact no (fun z => h1 z.1) _ sD
        · walk_at "rd"
          refine RD.len (sq upd_same) ?_
          rw [vsts_len]
          walk_at "rd"
          by_cases h2 : (2 : Int) ≤ ns.length
          · refine RD.decT h2 ?_
            walk_at "rd"
            by_cases h4 : (ns.length : Int) ≤ 4
            · rw [decide_eq_true h4]
              walk_at "rn"
              refine RD.lcTx (sq upd_same) (by omega) (fun x => !isName x) vst (fun i x H2 Q' R' hx s2 kT kF => ?_) (fun H2 r nr s2 hr2 => ?_)
              · walk_at "wp"
                walk_at "rd"
                refine ⟨rfl, ?_⟩
                walk_at "rd"
                refine ⟨x, rfl, Nat.le_trans (hb x (List.mem_cons_of_mem _ (List.mem_of_getElem? hx))) (by omega), fun H3 s3 => ?_⟩
                walk_at "rd"
                cases hn : isName x with
                | true =>
                  rw [hn] at kF
                  exact RD.bF (kF rfl _ s3)
                | false =>
                  rw [hn] at kT
                  refine RD.bT ?_
                  walk_at "rd"
                  exact kT rfl _ s3
              · rw [pick_filter] at hr2
                refine RD.truL (sq hr2) ?_
                have ee : ((ns.filter fun x => !isName x).map vst).isEmpty = (ns.filter fun x => !isName x).isEmpty := isEmpty_txs _
                rw [ee]
                cases hf : (ns.filter fun x => !isName x).isEmpty with
                | false =>
                  walk_at "rn"
                  refine no (fun z => ?_) _ (sD.trans s2)
                  have := filter_none.mpr (fun l hl => by
                    show (!isName l) = false
                    rw [z.2.2.2.1 l hl]
                    rfl : ∀ l ∈ ns, (!isName l) = false)
                  rw [hf] at this
                  exact Bool.false_ne_true this
                | true =>
                  walk_at "rn"
                  refine ⟨rfl, sD.trans s2, s2 _ _ upd_same, h1, by omega, by omega, fun b hb => ?_⟩
                  have := filter_none.mp hf b hb
                  cases e : isName b
                  · rw [e] at this; exact absurd this (by decide)
                  · rfl
            · rw [decide_eq_false h4]
              walk_at "rn"
              exact no (fun z => h4 (by have := z.2.2.1; omega)) _ sD
          · refine RD.decF h2 ?_
            walk_at "rn"
            exact no (fun z => h2 (by have := z.2.1; omega)) _ sD
      · rintro σ H1 ⟨rfl, s1, hD, h1, h2, h4, h5⟩
        walk_at "rd"
        refine RD.slL (sq hD) fun p2 n2 => ?_
        have ec : cutV (vsts ns) (some ((1 : Nat) : Int)) none = vsts (ns.drop 1) := by
          rw [cut_from]
          unfold vsts
          rw [List.map_drop]
        have ec' : cutV (vsts ns) (some 1) none = vsts (ns.drop 1) := ec
        rw [ec']
        have t2 := same_new (o := .lst (vsts (ns.drop 1))) n2
        walk_at "rd"
        refine ⟨p2, (ns.drop 1).map S, rfl, by rw [List.map_map]; exact sq upd_same, by rw [List.length_map, List.length_drop]; omega, ?_⟩
        walk_at "rd"
        refine RD.len (sq (t2 _ _ hD)) ?_
        rw [vsts_len]
        walk_at "rd"
        have e1 : ((ns.length : Int) - 1) = (((ns.drop 1).length : Nat) : Int) := by rw [List.length_drop]; omega
        rw [e1, dd_lt]
        cases hn : decide (ns.drop 1).Nodup with
        | false =>
          walk_at "rn"
          exact no (fun z => of_decide_eq_false hn z.2.2.2.2) _ (s1.trans t2)
        | true =>
          walk_at "rn"
          refine q _ _ (s1.trans t2) ?_
          rw [e0, if_pos ⟨h1, h2, h4, h5, of_decide_eq_true hn⟩]
          exact ⟨D, rfl, nD0, t2 _ _ hD⟩
end
end Pf

namespace Pf
open PySem PySem.Spec PyProof.Rows L2 SX RD PR
def ScAt (H : Hp) (d : Addr) (s : PR.Scope) : Prop := H d = some (.dK (s.map kvT))
structure NamesAt (A : Ad) (H : Hp) (p sl : Addr) (ds : List Addr) (sc : List PR.Scope) : Prop where
  ob : ∃ dx, H p = some (.ins A.c_Names dx [("scopes", .ref sl)])
  ls : H sl = some (.lst (ds.map V.ref))
  nd : ds.Nodup
  pr : Paired (ScAt H) ds sc
theorem NamesAt.same {A : Ad} {H H' : Hp} {p sl : Addr} {ds : List Addr} {sc : List PR.Scope} (s : Same H H') (n : NamesAt A H p sl ds sc) : NamesAt A H' p sl ds sc :=
  ⟨n.ob.imp fun _ h => s _ _ h, s _ _ n.ls, n.nd, paired_imp (fun _ _ h => s _ _ h) n.pr⟩
theorem kindOf_app (x : Tx) : ∀ a b : List PR.Scope, kindOf (a ++ b) x = match kindOf a x with
    | some k => some k
    | none => kindOf b x
  | [], b => rfl
  | s :: a, b => by
    show (match kindIn s x with | some k => some k | none => kindOf (a ++ b) x) = match (match kindIn s x with | some k => some k | none => kindOf a x) with | some k => some k | none => kindOf b x
    cases kindIn s x with
    | some k => rfl
    | none => exact kindOf_app x a b
def sp_names (A : Ad) (K : PySem.W.Frag) : Sp := fun vs H Q _ => ∃ (p dx a : Addr) (ls : List Tx), vs = [.ref p, .ref a] ∧ H p = some (.ins A.c_Names dx []) ∧ SqL K H a (vsts ls) ∧ ls.Nodup ∧ ls.length ≤ 10000 ∧
  ∀ (H' : Hp) (sl d : Addr), H sl = none → H d = none → NamesAt A H' p sl [d] [ls.map fun x => (x, half)] → Sx p H H' → Q .non H'
def sp_kind (A : Ad) : Sp := fun vs H Q _ => ∃ (p sl : Addr) (ds : List Addr) (sc : List PR.Scope) (x : Tx), vs = [.ref p, vst x] ∧ NamesAt A H p sl ds sc ∧ Q (kndV (kindOf sc x)) H
section
variable {P : Program} {w : World} {K : PySem.W.Frag} {mg : Str → Option Value} {base : Heap} {A : Ad}
theorem Sx.free {p r : Addr} {H H' : Hp} {u : HO} (s : Sx p H H') (hp : H' p = some u) (h : H' r = none) : H r = none := by
  cases e : H r with
  | none => rfl
  | some o =>
    by_cases z : r = p
    · rw [z, hp] at h; cases h
    · rw [s r o e z] at h; cases h
theorem ok_Names_d_initd_ (T : Txt K mg A) : FnOk P w K mg base CX0 1 A.f_Names_d_initd_ A.d_Names_d_initd_ ["self", "halves"] (sp_names A K) := by
  refine T.F_Names_d_initd_.ok sc_Names_d_initd_ (fun vs H Q E h => ?_) (fun cdv Ar outer s H vs Q E hr h => ?_)
  · obtain ⟨p, dx, a, ls, rfl, _⟩ := h
    rfl
  · obtain ⟨p, dx, a, ls, rfl, hp, hq, hn, hz, q⟩ := h
    refine ⟨_, (pss_one (RD.k_sfld (K := K) rfl (pv 0) (pe_lst (pa_cons (pe_dc (own := [("name", 2)]) (g := gName 2) (by rfl) sc_Names_d_initd_.nd (RD.k_pil (K := K) rfl (pv 1)) (blkOk_by (own := [("name", 2)]) (N := ["self", "halves", "name"]) (sc := defScope s_Names_d_initd_) (by decide +kernel)) (fun _ _ _ _ _ => (pg_name (i := 2) sc_Names_d_initd_.nd rfl (Or.inl rfl))) (fun _ _ _ _ _ => pts_nil) (fun _ _ _ _ _ => (pv 2)) (fun _ _ _ _ _ => (RD.pe_gl (by rfl) T.k_HALF))) pa_nil)) rfl)), ?_⟩
    show sFld _ _ _ _ _ [some (.ref p), some (.ref a), none] H
    walk_at "rd"
    refine RD.dcTx half hq hz hn (fun j x H1 X R' hx hX => ?_) fun D nD => ?_
    · walk_at "wp"
      walk_at "rd"
      refine ⟨rfl, ?_⟩
      walk_at "rd"
      exact hX
    · walk_at "rd"
      refine ⟨few, fun sl nsl => ?_⟩
      walk_at "rd"
      have s1 := (same_new nD).trans (same_new (o := .lst [V.ref D]) nsl)
      refine ⟨p, A.c_Names, dx, [], rfl, s1 _ _ hp, T.cl_Names, T.n_Names_scopes, by decide, ?_⟩
      have nsl0 : H sl = none := (same_new nD).free nsl
      have pD : D ≠ p := fun z => by rw [z, hp] at nD; cases nD
      have psl : sl ≠ p := fun z => by rw [z, hp] at nsl0; cases nsl0
      refine q _ sl D nsl0 nD ⟨⟨dx, upd_same⟩, by rw [upd_ne psl]; exact upd_same, by simp, .cons ?_ .nil⟩ ((Sx.same s1).trans Sx.put)
      show upd _ p _ D = _
      rw [upd_ne pD]
      exact (same_new nsl) _ _ upd_same
theorem ok_Names_kind_of (T : Txt K mg A) : FnOk P w K mg base CX0 1 A.f_Names_kind_of A.d_Names_kind_of ["self", "name"] (sp_kind A) := by
  refine T.F_Names_kind_of.ok sc_Names_kind_of (fun vs H Q E h => ?_) (fun cdv Ar outer s H vs Q E hr h => ?_)
  · obtain ⟨p, sl, ds, sc, x, rfl, _⟩ := h
    rfl
  · obtain ⟨p, sl, ds, sc, x, rfl, ⟨⟨dx, ob⟩, ls, nd, pr⟩, q⟩ := h
    refine ⟨_, (pss_cons (ps_for PassesOwn.never rfl (RD.k_pil (K := K) rfl (RD.k_fld (K := K) rfl (pv 0) rfl)) (pg_name (i := 2) sc_Names_kind_of.nd rfl (Or.inl rfl))
      (pss_one (ps_if (pt_cmp (pc_din (hu_of hr) (pv 1) (pv 2)))
      (pss_one (ps_ret (pe_dget (hu_of hr) (pv 2) (pv 1) (fun _ _ => rfl))))
      pss_nil)))
      (pss_one (ps_ret pe_non))), ?_⟩
    show tSeq _ _ _ [some (.ref p), some (vst x), none] H
    have lp := paired_len pr
    walk_at "rd"
    refine ⟨p, A.c_Names, dx, _, _, rfl, ob, T.cl_Names, T.n_Names_scopes, rfl, ?_⟩
    refine RD.goL (sq ls) (fun i σ H' => ∃ o, σ = [some (.ref p), some (vst x), o] ∧ H' = H ∧ kindOf (sc.take i) x = none) ⟨none, rfl, rfl, rfl⟩ (fun i σ H' _ ⟨_, _, e, _⟩ => by rw [e]; exact sq ls) ?_ ?_
    · rintro i y σ H1 hy ⟨o, rfl, rfl, hk⟩
      rw [List.getElem?_map] at hy
      cases hd : ds[i]? with
      | none => rw [hd] at hy; cases hy
      | some d =>
        rw [hd] at hy
        cases hy
        have hi : i < sc.length := by
          have := (List.getElem?_eq_some_iff.mp hd).1
          omega
        have hs : sc[i]? = some sc[i] := List.getElem?_eq_getElem hi
        have hsc : H1 d = some (.dK (sc[i].map kvT)) := paired_at pr hd hs
        have et : kindOf (sc.take (i + 1)) x = kindIn sc[i] x := by
          rw [RD.take_one hs, kindOf_app, hk]
          show (match kindIn sc[i] x with | some k => some k | none => none) = _
          cases kindIn sc[i] x <;> rfl
        walk_at "rd"
        refine ⟨d, _, rfl, getT hsc, ?_⟩
        walk_at "rd"
        cases hki : kindIn sc[i] x with
        | none =>
          walk_at "rn"
          exact ⟨_, rfl, rfl, by rw [et, hki]⟩
        | some k =>
          rw [show (Option.map vst (some k)).isSome = true from rfl]
          walk_at "rn"
          refine ⟨d, vst k, rfl, ?_, ?_⟩
          · have := getT (x := x) hsc
            rw [hki] at this
            exact this
          · have e : kindOf sc x = some k := by
              rw [← List.take_append_drop (i + 1) sc, kindOf_app, et, hki]
            rw [e] at q
            exact q
    · rintro σ H1 ⟨o, rfl, rfl, hk⟩
      rw [List.length_map, lp, List.take_length] at hk
      walk_at "rd"
      rw [hk] at q
      exact q
theorem mk_names {H : Hp} {a : Addr} {ls : List Tx} {Q : VK} {E : XK} (hq : SqL K H a (vsts ls)) (hn : ls.Nodup) (hz : ls.length ≤ 10000)
    (q : ∀ (H' : Hp) (p sl d : Addr), H p = none → H sl = none → H d = none → Same H H' → NamesAt A H' p sl [d] [ls.map fun x => (x, half)] → Q (.ref p) H') : RD.MKE A.c_Names (sp_names A K) [] E [.ref a] H Q := by
  intro x dx nx ndx ne
  have s0 : Same H (upd (upd H dx (.own x)) x (.ins A.c_Names dx [])) := RD.same_mut (RD.same_new ndx) nx
  refine ⟨x, dx, a, ls, rfl, upd_same, s0.seq hq, hn, hz, fun H' sl d n1 n2 h1 sx => ⟨rfl, ?_⟩⟩
  exact q H' x sl d nx (s0.free n1) (s0.free n2) (fun c o e => sx c o (s0 c o e) (ne_of_none e nx)) h1
end
end Pf

namespace Pf
open PySem PySem.Spec PyProof.Rows L2 RD
section
variable {P : Program} {w : World} {K : PySem.W.Frag} {mg : Str → Option Value} {base : Heap} {A : Ad}
theorem ok_BadLine_d_initd_ (T : Txt K mg A) : FnOk P w K mg base CX0 1 A.f_BadLine_d_initd_ A.d_BadLine_d_initd_ ["self", "line"] (sp_exi1 A.c_BadLine "line") := by
  refine T.F_BadLine_d_initd_.ok sc_BadLine_d_initd_ (fun vs H Q E h => ?_) (fun cdv Ar outer s H vs Q E hr h => ?_)
  · obtain ⟨a, v, rfl, _⟩ := h
    rfl
  · obtain ⟨a, v, rfl, ha, q⟩ := h
    refine ⟨_, (pss_one (ps_ost (pv 0) (pv 1))), ?_⟩
    show tOst _ _ _ _ _ [some (.ref a), some (v)] H
    walk_at "rd"
    exact ⟨a, A.c_BadLine, rfl, T.oex_BadLine, T.na_BadLine_line, .inl ⟨ha, q⟩⟩
theorem ok_UnknownName_d_initd_ (T : Txt K mg A) : FnOk P w K mg base CX0 1 A.f_UnknownName_d_initd_ A.d_UnknownName_d_initd_ ["self", "line", "name"] (sp_exi2 A.c_UnknownName "line" "name") := by
  refine T.F_UnknownName_d_initd_.ok sc_UnknownName_d_initd_ (fun vs H Q E h => ?_) (fun cdv Ar outer s H vs Q E hr h => ?_)
  · obtain ⟨a, v, u, rfl, _⟩ := h
    rfl
  · obtain ⟨a, v, u, rfl, ha, q⟩ := h
    refine ⟨_, (pss_cons (ps_ost (pv 0) (pv 1))
      (pss_one (ps_ost (pv 0) (pv 2)))), ?_⟩
    show tSeq _ _ _ [some (.ref a), some (v), some (u)] H
    walk_at "rd"
    refine ⟨a, A.c_UnknownName, rfl, T.oex_UnknownName, T.na_UnknownName_line, .inl ⟨ha, fun dx ndx ne => ?_⟩⟩
    walk_at "rd"
    exact ⟨a, A.c_UnknownName, rfl, T.oex_UnknownName, T.na_UnknownName_name, .inr ⟨dx, [("line", v)], upd_same, by rw [upd_ne ne, upd_same], (show 1 ≤ 900 by decide), q dx ndx ne⟩⟩
theorem ok_WrongKind_d_initd_ (T : Txt K mg A) : FnOk P w K mg base CX0 1 A.f_WrongKind_d_initd_ A.d_WrongKind_d_initd_ ["self", "line", "name"] (sp_exi2 A.c_WrongKind "line" "name") := by
  refine T.F_WrongKind_d_initd_.ok sc_WrongKind_d_initd_ (fun vs H Q E h => ?_) (fun cdv Ar outer s H vs Q E hr h => ?_)
  · obtain ⟨a, v, u, rfl, _⟩ := h
    rfl
  · obtain ⟨a, v, u, rfl, ha, q⟩ := h
    refine ⟨_, (pss_cons (ps_ost (pv 0) (pv 1))
      (pss_one (ps_ost (pv 0) (pv 2)))), ?_⟩
    show tSeq _ _ _ [some (.ref a), some (v), some (u)] H
    walk_at "rd"
    refine ⟨a, A.c_WrongKind, rfl, T.oex_WrongKind, T.na_WrongKind_line, .inl ⟨ha, fun dx ndx ne => ?_⟩⟩
    walk_at "rd"
    exact ⟨a, A.c_WrongKind, rfl, T.oex_WrongKind, T.na_WrongKind_name, .inr ⟨dx, [("line", v)], upd_same, by rw [upd_ne ne, upd_same], (show 1 ≤ 900 by decide), q dx ndx ne⟩⟩
end
end Pf

namespace Pf
open PySem PySem.Spec PyProof.Rows L2 SX RD PR
def Rz (A : Ad) (E : XK) (F : Hp → Prop) : Err → Prop
  | .bad n => ∀ H' dd, F H' → H' dd = some (.xd [("line", vn n)]) → E (.ref A.c_BadLine) (some dd) H'
  | .unk n x => ∀ H' dd, F H' → H' dd = some (.xd [("name", vst x), ("line", vn n)]) → E (.ref A.c_UnknownName) (some dd) H'
  | .knd n x => ∀ H' dd, F H' → H' dd = some (.xd [("name", vst x), ("line", vn n)]) → E (.ref A.c_WrongKind) (some dd) H'
def sp_open (A : Ad) : Sp := fun vs H Q _ => ∃ (p sl : Addr) (ds : List Addr) (sc : List PR.Scope), vs = [.ref p] ∧ NamesAt A H p sl ds sc ∧ ds.length ≤ 1000 ∧ ∀ H' d, H d = none → NamesAt A H' p sl (ds ++ [d]) (sc ++ [[]]) → Sx sl H H' → Q .non H'
def sp_close (A : Ad) : Sp := fun vs H Q _ => ∃ (p sl d : Addr) (ds : List Addr) (sc : List PR.Scope) (s : PR.Scope), vs = [.ref p] ∧ NamesAt A H p sl (ds ++ [d]) (sc ++ [s]) ∧ ∀ H', NamesAt A H' p sl ds sc → Sx sl H H' → Q .non H'
def sp_free (A : Ad) (K : PySem.W.Frag) : Sp := fun vs H Q _ => ∃ (p sl : Addr) (ds : List Addr) (sc : List PR.Scope) (H0 : Hp) (v : V) (f : Form), vs = [.ref p, v] ∧ NamesAt A H p sl ds sc ∧ FormAt A K H0 H v f ∧ Sml f ∧ ∀ H', Same H H' → Q (.bl (isFree sc f)) H'
def sp_check (A : Ad) (K : PySem.W.Frag) : Sp := fun vs H Q E => ∃ (p sl : Addr) (ds : List Addr) (sc : List PR.Scope) (H0 : Hp) (v : V) (f : Form) (n : Nat), vs = [.ref p, v, vn n] ∧ NamesAt A H p sl ds sc ∧ FormAt A K H0 H v f ∧ Sml f ∧
  (check sc n f.uses = none → ∀ H', Same H H' → Q .non H') ∧ ∀ e, check sc n f.uses = some e → Rz A E (Same H) e
section
variable {P : Program} {w : World} {K : PySem.W.Frag} {mg : Str → Option Value} {base : Heap} {A : Ad}
theorem paired_split {α β : Type} {R : α → β → Prop} : ∀ {l : List α} {m : List β} {a : α} {b : β}, Paired R (l ++ [a]) (m ++ [b]) → Paired R l m ∧ R a b := by
  intro l
  induction l with
  | nil =>
    intro m a b h
    cases m with
    | nil => cases h with | cons r t => exact ⟨.nil, r⟩
    | cons y m =>
      cases h with
      | cons r t => exact absurd (paired_len t) (by simp)
  | cons x l ih =>
    intro m a b h
    cases m with
    | nil =>
      cases h with
      | cons r t => exact absurd (paired_len t) (by simp)
    | cons y m =>
      cases h with
      | cons r t =>
        have := ih t
        exact ⟨.cons r this.1, this.2⟩
theorem pairs_keep {H H' : Hp} : ∀ {ds : List Addr} {sc : List PR.Scope}, Paired (ScAt H) ds sc → (∀ x ∈ ds, ∀ o, H x = some o → H' x = some o) → Paired (ScAt H') ds sc
  | _, _, .nil, _ => .nil
  | _, _, .cons r t, k => .cons (k _ List.mem_cons_self _ r) (pairs_keep t fun x hx => k x (List.mem_cons_of_mem _ hx))
theorem ok_Names_open_block (T : Txt K mg A) : FnOk P w K mg base CX0 1 A.f_Names_open_block A.d_Names_open_block ["self"] (sp_open A) := by
  refine T.F_Names_open_block.ok sc_Names_open_block (fun vs H Q E h => ?_) (fun cdv Ar outer s H vs Q E hr h => ?_)
  · obtain ⟨p, sl, ds, sc, rfl, _⟩ := h
    rfl
  · obtain ⟨p, sl, ds, sc, rfl, ⟨⟨dx, ob⟩, ls, nd, pr⟩, hz, q⟩ := h
    refine ⟨_, (pss_one (ps_expr (RD.k_bm (K := K) rfl PySem.F.plainAttrs_list PySem.F.slot_list_append PySem.F.type_list_append mt_append (RD.k_fld (K := K) rfl (pv 0) rfl) (pa_cons pe_dnewK pa_nil)))), ?_⟩
    show tDrop _ _ [some (.ref p)] H
    walk_at "rd"
    refine ⟨p, A.c_Names, dx, _, _, rfl, ob, T.cl_Names, T.n_Names_scopes, rfl, RD.tyL (sq ls), ?_⟩
    walk_at "rd"
    intro d nd0
    have t1 := same_new (o := .dK []) nd0
    walk_at "rd"
    refine RD.app (t1 _ _ ls) (szt (by rw [List.length_map]; omega)) ?_
    have sd : sl ≠ d := ne_of_none ls nd0
    have hds : ∀ x ∈ ds, x ≠ sl ∧ x ≠ d := fun x hx => by
      obtain ⟨s, _, hs⟩ := paired_mem pr x hx
      have hs : H x = some (.dK (s.map kvT)) := hs
      refine ⟨fun z => ?_, fun z => ?_⟩
      · rw [z, ls] at hs; cases hs
      · rw [z, nd0] at hs; cases hs
    refine q _ d nd0 ⟨⟨dx, ?_⟩, by rw [upd_same, List.map_append]; rfl, ?_, ?_⟩ ((Sx.same t1).trans Sx.put)
    · rw [upd_ne (fun z => by rw [z, ls] at ob; cases ob)]
      exact t1 _ _ ob
    · exact List.nodup_append.mpr ⟨nd, by simp, fun x hx y hy e => (hds x hx).2 (by rw [e, List.mem_singleton.mp hy])⟩
    · refine pr_app ?_ (.cons ?_ .nil)
      · refine pairs_keep pr fun x hx o e => ?_
        rw [upd_ne (hds x hx).1]
        exact t1 _ _ e
      · show upd _ sl _ d = _
        rw [upd_ne sd.symm]
        exact upd_same
theorem ok_Names_close_block (T : Txt K mg A) : FnOk P w K mg base CX0 1 A.f_Names_close_block A.d_Names_close_block ["self"] (sp_close A) := by
  refine T.F_Names_close_block.ok sc_Names_close_block (fun vs H Q E h => ?_) (fun cdv Ar outer s H vs Q E hr h => ?_)
  · obtain ⟨p, sl, d, ds, sc, s, rfl, _⟩ := h
    rfl
  · obtain ⟨p, sl, d, ds, sc, s, rfl, ⟨⟨dx, ob⟩, ls, nd, pr⟩, q⟩ := h
    refine ⟨_, (pss_one (ps_expr (RD.k_bm0 (K := K) rfl PySem.F.plainAttrs_list PySem.F.slot_list_pop PySem.F.type_list_pop mt_pop (RD.k_fld (K := K) rfl (pv 0) rfl)))), ?_⟩
    show tDrop _ _ [some (.ref p)] H
    walk_at "rd"
    refine ⟨p, A.c_Names, dx, _, _, rfl, ob, T.cl_Names, T.n_Names_scopes, rfl, RD.tyL (sq ls), ?_⟩
    have ls' := ls
    rw [List.map_append] at ls'
    refine RD.pop ls' ?_
    have hds : ∀ x ∈ ds, x ≠ sl := fun x hx z => by
      obtain ⟨s, _, hs⟩ := paired_mem pr x (List.mem_append_left _ hx)
      have hs : H x = some (.dK (s.map kvT)) := hs
      rw [z, ls] at hs; cases hs
    refine q _ ⟨⟨dx, ?_⟩, upd_same, (List.nodup_append.mp nd).1, ?_⟩ Sx.put
    · rw [upd_ne (fun z => by rw [z, ls] at ob; cases ob)]
      exact ob
    · refine pairs_keep (paired_split pr).1 fun x hx o e => ?_
      rw [upd_ne (hds x hx)]
      exact e
theorem ok_Names_is_free (T : Txt K mg A) : FnOk P w K mg base CX0 2 A.f_Names_is_free A.d_Names_is_free ["self", "form"] (sp_free A K) := by
  have G_Names_kind_of := ok_Names_kind_of (P := P) (w := w) (base := base) T
  refine T.F_Names_is_free.ok sc_Names_is_free (fun vs H Q E h => ?_) (fun cdv Ar outer s H vs Q E hr h => ?_)
  · obtain ⟨p, sl, ds, sc, H0, v, f, rfl, _⟩ := h
    rfl
  · obtain ⟨p, sl, ds, sc, H0, v, f, rfl, hn, ⟨fp, fdx, sv, u, b, rfl, _, _, _, hp, hs, hu, ⟨bs, hb, hb2⟩⟩, hz, q⟩ := h
    refine ⟨_, (pss_one (ps_ret (pe_callB (RD.k_all (K := K) rfl rfl) (by rfl) T.z_all (by decide +kernel) (pa_cons (pe_lc (own := [("name", 3), ("kind", 2)]) (g := gTup K 2 (gCons (gName 3) (gCons (gName 2) gNil))) (by rfl) sc_Names_is_free.nd (RD.k_pil (K := K) rfl (RD.k_fld (K := K) rfl (pv 1) rfl)) (blkOk_by (own := [("name", 3), ("kind", 2)]) (N := ["self", "form", "kind", "name"]) (sc := defScope s_Names_is_free) (by decide +kernel)) (fun _ _ _ _ _ => (RD.k_gtup (K := K) (n := 2) rfl rfl (pgs_cons (pg_name (i := 3) sc_Names_is_free.nd rfl (Or.inl rfl)) (pgs_cons (pg_name (i := 2) sc_Names_is_free.nd rfl (Or.inl rfl)) pgs_nil)))) (fun _ _ _ _ _ => pts_nil) (fun _ _ _ _ _ => (pe_cmpR op_isN (pe_meth (pv 0) T.cl_Names T.m_Names_kind_of G_Names_kind_of (hr.mono (by decide)) T.b_Names_kind_of .nil pass0 (pa_cons (pv 3) pa_nil)) pe_non (nomark _)))) pa_nil)))), ?_⟩
    show tRet _ _ [some (.ref p), some (.ref fp), none, none] H
    walk_at "rd"
    refine ⟨fp, A.c_Form, fdx, _, _, rfl, hp, T.cl_Form, T.n_Form_bound, rfl, ?_⟩
    refine RD.lcP f.bound (sq hb) (paired_len hb2) (szl (by have := paired_len hb2; have := hz.2.2.2; omega)) (fun _ => true) (fun d => .bl (kindOf sc d.1).isNone) (fun i c d H1 Q' R' hc hd s1 kT kF => ?_) (fun H1 nl nnl s1 hnl => ?_)
    · refine RD.gtup2 ((Kp.same s1).sq (paired_at hb2 hc hd)) ?_
      walk_at "wp"
      walk_at "rd"
      refine ⟨rfl, ?_⟩
      walk_at "rd"
      have hn1 := hn.same s1
      obtain ⟨dx, ob⟩ := hn1.ob
      refine ⟨p, dx, _, rfl, ob, rfl, ?_⟩
      walk_at "rd"
      refine ⟨p, sl, ds, sc, d.1, rfl, hn1, ?_⟩
      walk_at "rd"
      refine ⟨rfl, ?_⟩
      have e : decide (kndV (kindOf sc d.1) = V.non) = (kindOf sc d.1).isNone := by
        cases kindOf sc d.1 with
        | none => exact decide_eq_true rfl
        | some k => exact decide_eq_false nofun
      rw [e]
      exact kT rfl _ (Same.refl _)
    · rw [RD.pick_all (fun _ => rfl)] at hnl
      walk_at "rd"
      refine RD.all1 (bs := f.bound.map fun d => (kindOf sc d.1).isNone) (sq (by rw [hnl, List.map_map]; rfl)) ?_
      have e3 : isFree sc f = (f.bound.map fun d => (kindOf sc d.1).isNone).all id := by
        rw [List.all_map]
        rfl
      rw [← e3]
      exact q _ s1
end
end Pf

namespace Pf
open PySem PySem.Spec PyProof.Rows L2 SX RD PR
def FormB (A : Ad) (K : PySem.W.Frag) (H : Hp) (v : V) (l : List (Tx × Tx)) : Prop := ∃ (p dx : Addr) (sv : V) (u b : Addr), v = .ref p ∧ H p = some (.ins A.c_Form dx [("statement", sv), ("uses", .ref u), ("bound", .ref b)]) ∧ PairsA K H b l
def sp_bind (A : Ad) (K : PySem.W.Frag) : Sp := fun vs H Q _ => ∃ (p sl d : Addr) (ds : List Addr) (sc : List PR.Scope) (s : PR.Scope) (v : V) (l : List (Tx × Tx)), vs = [.ref p, v] ∧ NamesAt A H p sl (ds ++ [d]) (sc ++ [s]) ∧ FormB A K H v l ∧
  (l.map Prod.fst).Nodup ∧ (∀ x ∈ l.map Prod.fst, x ∉ s.map Prod.fst) ∧ s.length + l.length ≤ 10000 ∧ ∀ H', NamesAt A H' p sl (ds ++ [d]) (sc ++ [s ++ l]) → Sx d H H' → Q .non H'
theorem Sx.kpD {p : Addr} {H H' : Hp} {kvs : List (Key × V)} (hp : H p = some (.dK kvs)) (s : Sx p H H') : Kp H H' := fun a xs h => by
  rcases h with h | ⟨o, h⟩
  · exact .inl (s a _ h fun z => by rw [z, hp] at h; cases h)
  · exact .inr ⟨o, s a _ h fun z => by rw [z, hp] at h; cases h⟩
theorem chk_app (sc : List PR.Scope) (n : Nat) : ∀ a b : List (Tx × Tx), check sc n (a ++ b) = match check sc n a with
    | some e => some e
    | none => check sc n b
  | [], b => rfl
  | u :: a, b => by
    rw [List.cons_append, check, check]
    cases kindOf sc u.1 with
    | none => rfl
    | some k =>
      by_cases h : rightK k u.2 = true
      · simp only [h, if_true]
        exact chk_app sc n a b
      · simp only [h, if_false]
        rfl
section
variable {P : Program} {w : World} {K : PySem.W.Frag} {mg : Str → Option Value} {base : Heap} {A : Ad}
theorem ok_Names_check (T : Txt K mg A) : FnOk P w K mg base (L2.CX P w) 3 A.f_Names_check A.d_Names_check ["self", "form", "number"] (sp_check A K) := by
  have G_Names_kind_of := ok_Names_kind_of (P := P) (w := w) (base := base) T
  have G_UnknownName_d_initd_ := ok_UnknownName_d_initd_ (P := P) (w := w) (base := base) T
  have G_is_right_kind := ok_is_right_kind (P := P) (w := w) (base := base) T
  have G_WrongKind_d_initd_ := ok_WrongKind_d_initd_ (P := P) (w := w) (base := base) T
  refine T.F_Names_check.okX sc_Names_check (fun vs H Q E h => ?_) (fun cdv Ar outer s H vs Q E hr h => ?_)
  · obtain ⟨p, sl, ds, sc, H0, v, f, n, rfl, _⟩ := h
    rfl
  · obtain ⟨p, sl, ds, sc, H0, v, f, n, rfl, hn, ⟨fp, fdx, sv, u, b, rfl, _, _, _, hp, hs, ⟨us, hu, hu2⟩, _⟩, hz, qN, qE⟩ := h
    refine ⟨_, (pss_one (ps_for PassesOwn.leaving rfl (RD.k_pil (K := K) rfl (RD.k_fld (K := K) rfl (pv 1) rfl)) (RD.k_gtup (K := K) (n := 2) rfl rfl (pgs_cons (pg_name (i := 3) sc_Names_check.nd rfl (Or.inl rfl)) (pgs_cons (pg_name (i := 4) sc_Names_check.nd rfl (Or.inl rfl)) pgs_nil)))
      (pss_cons (ps_set (i := 5) sc_Names_check.nd rfl (Or.inl rfl) (pe_meth (pv 0) T.cl_Names T.m_Names_kind_of G_Names_kind_of (hr.mono (by decide)) T.b_Names_kind_of .nil pass0 (pa_cons (pv 3) pa_nil)))
      (pss_cons (ps_if (pt_cmpR op_isN (pv 5) pe_non (nomark _))
      (pss_one (ps_raise rfl (takes_of rfl rfl rfl rfl) (pmk_oex T.oex_UnknownName T.ini_UnknownName T.tin_UnknownName G_UnknownName_d_initd_ (hr.mono (by decide)) T.b_UnknownName_d_initd_ .nil pass0 (by rfl) T.g_UnknownName (pa_cons (pv 2) (pa_cons (pv 3) pa_nil)))))
      pss_nil)
      (pss_one (ps_if (pt_not (pt_val (pe_call G_is_right_kind (hr.mono (by decide)) (by rfl) T.g_is_right_kind T.F_is_right_kind.kp T.b_is_right_kind .nil pass0 (pa_cons (pv 5) (pa_cons (pv 4) pa_nil)))))
      (pss_one (ps_raise rfl (takes_of rfl rfl rfl rfl) (pmk_oex T.oex_WrongKind T.ini_WrongKind T.tin_WrongKind G_WrongKind_d_initd_ (hr.mono (by decide)) T.b_WrongKind_d_initd_ .nil pass0 (by rfl) T.g_WrongKind (pa_cons (pv 2) (pa_cons (pv 3) pa_nil)))))
      pss_nil)))))), ?_⟩
    show tFor _ _ _ _ [some (.ref p), some (.ref fp), some (vn n), none, none, none] H
    have lu := paired_len hu2
    have ckd : ∀ i, check sc n (f.uses.take i) = none → ∀ a r, f.uses.drop i = a :: r → check sc n f.uses = check sc n (a :: r) := by
      intro i h a r e
      rw [← e]
      have := chk_app sc n (f.uses.take i) (f.uses.drop i)
      rw [List.take_append_drop, h] at this
      exact this
    walk_at "rd"
    refine ⟨fp, A.c_Form, fdx, _, _, rfl, hp, T.cl_Form, T.n_Form_uses, rfl, ?_⟩
    refine RD.goL (sq hu) (fun i σ H' => ∃ o3 o4 o5, σ = [some (.ref p), some (.ref fp), some (vn n), o3, o4, o5] ∧ Same H H' ∧ check sc n (f.uses.take i) = none) ⟨none, none, none, rfl, Same.refl _, rfl⟩ (fun i σ H' _ ⟨_, _, _, _, s, _⟩ => sq (s _ _ hu)) ?_ ?_
    · rintro i y σ H1 hy ⟨o3, o4, o5, rfl, s1, hk⟩
      rw [List.getElem?_map] at hy
      cases hd : us[i]? with
      | none => rw [hd] at hy; cases hy
      | some c =>
        rw [hd] at hy
        cases hy
        have hi : i < f.uses.length := by
          have := (List.getElem?_eq_some_iff.mp hd).1
          omega
        have hf : f.uses[i]? = some f.uses[i] := List.getElem?_eq_getElem hi
        have hdr : f.uses.drop i = f.uses[i] :: f.uses.drop (i + 1) := List.drop_eq_getElem_cons hi
        have e0 := ckd i hk _ _ hdr
        have tk1 := RD.take_one hf
        have e1 : check sc n (f.uses.take (i + 1)) = check sc n [f.uses[i]] := by
          rw [tk1]
          have := chk_app sc n (f.uses.take i) [f.uses[i]]
          rw [hk] at this
          exact this
        refine RD.gtup2 ((Kp.same s1).sq (paired_at hu2 hd hf)) ?_
        revert e0 e1
        generalize f.uses[i] = uu
        intro e0 e1
        have e0 : check sc n f.uses = match kindOf sc uu.1 with
          | none => some (.unk n uu.1)
          | some k => if rightK k uu.2 = true then check sc n (f.uses.drop (i + 1)) else some (.knd n uu.1) := e0
        have e1 : check sc n (f.uses.take (i + 1)) = match kindOf sc uu.1 with
          | none => some (.unk n uu.1)
          | some k => if rightK k uu.2 = true then none else some (.knd n uu.1) := e1
        have hn1 := hn.same s1
        obtain ⟨dx, ob⟩ := hn1.ob
        walk_at "rd"
        refine ⟨p, dx, _, rfl, ob, rfl, ?_⟩
        walk_at "rd"
        refine ⟨p, sl, ds, sc, uu.1, rfl, hn1, ?_⟩
        walk_at "rd"
        refine ⟨rfl, ?_⟩
        walk_at "rd"
        cases hko : kindOf sc uu.1 with
        | none =>
          rw [hko] at e0
          refine RD.decT rfl ?_
          walk_at "rd"
          show tMkO A.c_UnknownName (sp_exi2 A.c_UnknownName "line" "name") [] _ _ _ _
          show tCons _ _ _ _ _
          walk_at "rd"
          refine RD.mk2 fun dd ndd => ?_
          exact qE _ e0 _ dd (s1.trans (same_new ndd)) upd_same
        | some k =>
          rw [hko] at e0 e1
          refine RD.decF nofun ?_
          walk_at "rd"
          refine ⟨k, uu.2, rfl, fun H2 s2 => ?_⟩
          walk_at "rd"
          cases hr : rightK k uu.2 with
          | true =>
            have e1 : check sc n (f.uses.take (i + 1)) = none := e1.trans (if_pos hr)
            walk_at "rn"
            exact ⟨_, _, _, rfl, s1.trans s2, e1⟩
          | false =>
            have e0 : check sc n f.uses = some (.knd n uu.1) := e0.trans (if_neg (by rw [hr]; exact Bool.false_ne_true))
            walk_at "rn"
            show tMkO A.c_WrongKind (sp_exi2 A.c_WrongKind "line" "name") [] _ _ _ _
            show tCons _ _ _ _ _
            walk_at "rd"
            refine RD.mk2 fun dd ndd => ?_
            exact qE _ e0 _ dd ((s1.trans s2).trans (same_new ndd)) upd_same
    · rintro σ H1 ⟨o3, o4, o5, rfl, s1, hk⟩
      rw [List.length_map, lu, List.take_length] at hk
      exact qN hk _ s1
theorem ok_Names_bind (T : Txt K mg A) : FnOk P w K mg base CX0 1 A.f_Names_bind A.d_Names_bind ["self", "form"] (sp_bind A K) := by
  refine T.F_Names_bind.ok sc_Names_bind (fun vs H Q E h => ?_) (fun cdv Ar outer s H vs Q E hr h => ?_)
  · obtain ⟨p, sl, d, ds, sc, s, v, l, rfl, _⟩ := h
    rfl
  · obtain ⟨p, sl, d, ds, sc, s, v, l, rfl, hn, ⟨fp, fdx, sv, u, b, rfl, hp, ⟨bs, hb, hb2⟩⟩, nd, nw, hz, q⟩ := h
    refine ⟨_, (pss_one (ps_for PassesOwn.never rfl (RD.k_pil (K := K) rfl (RD.k_fld (K := K) rfl (pv 1) rfl)) (RD.k_gtup (K := K) (n := 2) rfl rfl (pgs_cons (pg_name (i := 2) sc_Names_bind.nd rfl (Or.inl rfl)) (pgs_cons (pg_name (i := 3) sc_Names_bind.nd rfl (Or.inl rfl)) pgs_nil)))
      (pss_one (ps_dput (hu_of hr) (pe_ix (RD.k_ixL (K := K) rfl) (RD.k_fld (K := K) rfl (pv 0) rfl) (pe_un un_neg pe_int) (fun _ _ => rfl)) (pv 2) (pv 3) rfl)))), ?_⟩
    show tFor _ _ _ _ [some (.ref p), some (.ref fp), none, none] H
    have lb := paired_len hb2
    have hd0 : H d = some (.dK (s.map kvT)) := (paired_split hn.pr).2
    walk_at "rd"
    refine ⟨fp, A.c_Form, fdx, _, _, rfl, hp, T.cl_Form, T.n_Form_bound, rfl, ?_⟩
    have bd : b ≠ d := fun z => by rw [z, hd0] at hb; cases hb
    refine RD.goL (sq hb) (fun i σ H' => ∃ o2 o3, σ = [some (.ref p), some (.ref fp), o2, o3] ∧ Sx d H H' ∧ NamesAt A H' p sl (ds ++ [d]) (sc ++ [s ++ l.take i])) ⟨none, none, rfl, Sx.refl, by rw [List.take_zero, List.append_nil]; exact hn⟩ (fun i σ H' _ ⟨_, _, _, sx, _⟩ => sq (sx _ _ hb bd)) ?_ ?_
    · rintro i y σ H1 hy ⟨o2, o3, rfl, sx, hn1⟩
      rw [List.getElem?_map] at hy
      cases hd : bs[i]? with
      | none => rw [hd] at hy; cases hy
      | some c =>
        rw [hd] at hy
        cases hy
        have hi : i < l.length := by
          have := (List.getElem?_eq_some_iff.mp hd).1
          omega
        have hf : l[i]? = some l[i] := List.getElem?_eq_getElem hi
        have tk1 := RD.take_one hf
        refine RD.gtup2 ((Sx.kpD hd0 sx).sq (paired_at hb2 hd hf)) ?_
        walk_at "rd"
        obtain ⟨dx, ob⟩ := hn1.ob
        refine ⟨p, A.c_Names, dx, _, _, rfl, ob, T.cl_Names, T.n_Names_scopes, rfl, ?_⟩
        walk_at "rd"
        refine RD.ixL (sq hn1.ls) (show atI ((ds ++ [d]).map V.ref) (-1) = some (.ref d) by rw [List.map_append]; exact atI_last _ _) ?_
        walk_at "rd"
        have hd1 : H1 d = some (.dK ((s ++ l.take i).map kvT)) := (paired_split hn1.pr).2
        refine ⟨d, _, rfl, .inl ⟨_, Sum.inr (S l[i].1), hd1, rfl, by rw [List.length_map, List.length_append, List.length_take]; exact szt (by omega), rfl⟩, ?_⟩
        have hnew : l[i].1 ∉ (s ++ l.take i).map Prod.fst := by
          rw [List.map_append, List.mem_append]
          rintro (z | z)
          · exact nw _ (List.mem_map_of_mem (List.getElem_mem hi)) z
          · have hn2 : ((l.take (i + 1)).map Prod.fst).Nodup := nd.sublist ((List.take_sublist _ _).map _)
            rw [tk1, List.map_append, List.nodup_append] at hn2
            exact hn2.2.2 _ z _ (by simp) rfl
        rw [putK_new _ (new_kvT hnew)]
        have ek : (s ++ l.take i).map kvT ++ [(Sum.inr (S l[i].1), vst l[i].2)] = (s ++ l.take (i + 1)).map kvT := by
          rw [tk1, ← List.append_assoc, List.map_append (l₂ := [l[i]])]
          rfl
        rw [ek]
        have hds : ∀ x ∈ ds, x ≠ d := fun x hx z => by
          have := (List.nodup_append.mp hn1.nd).2.2 x hx d (by simp)
          exact this z
        refine ⟨_, _, rfl, sx.trans Sx.put, ⟨dx, ?_⟩, ?_, hn1.nd, pr_app ?_ (.cons upd_same .nil)⟩
        · rw [upd_ne (fun z => by rw [z, hd1] at ob; cases ob)]
          exact ob
        · have := hn1.ls
          rw [upd_ne (fun z => by rw [z, hd1] at this; cases this)]
          exact this
        · refine pairs_keep (paired_split hn1.pr).1 fun x hx o e => ?_
          rw [upd_ne (hds x hx)]
          exact e
    · rintro σ H1 ⟨o2, o3, rfl, sx, hn1⟩
      rw [List.length_map, lb, List.take_length] at hn1
      exact q _ hn1 sx
end
end Pf

namespace Pf
open PySem PySem.Spec PyProof.Rows L2 SX RD PR
def rfl_ (la sl bl : Addr) (off : Nat) (lab : Bool) : List (Str × V) := [("lines", .ref la), ("offset", vn off), ("statements", .ref sl), ("blocks", .ref bl), ("has_labels", .bl lab)]
def BlAt (H : Hp) (q : Addr) (b : Nat × Bool) : Prop := H q = some (.lst [vn b.1, .bl b.2])
/-- the reader -/
structure RdrAt (A : Ad) (K : PySem.W.Frag) (H : Hp) (p la sl bl : Addr) (bs : List Addr) (lines : List Tx) (off : Nat) (stms : List Stm) (blocks : List (Nat × Bool)) (lab : Bool) : Prop where
  ob : ∃ dx, H p = some (.ins A.c_RoutineReader dx (rfl_ la sl bl off lab))
  li : H la = some (.lst (vsts lines))
  st : ∃ svs, H sl = some (.lst svs) ∧ Paired (StmAt K H) svs stms
  bk : H bl = some (.lst (bs.map V.ref))
  nd : bs.Nodup
  pr : Paired (BlAt H) bs blocks
theorem RdrAt.same {A : Ad} {K : PySem.W.Frag} {H H' : Hp} {p la sl bl : Addr} {bs : List Addr} {lines : List Tx} {off : Nat} {stms : List Stm} {blocks : List (Nat × Bool)} {lab : Bool} (s : Same H H') (r : RdrAt A K H p la sl bl bs lines off stms blocks lab) : RdrAt A K H' p la sl bl bs lines off stms blocks lab :=
  ⟨r.ob.imp fun _ h => s _ _ h, s _ _ r.li, r.st.imp fun svs h => ⟨s _ _ h.1, paired_imp (fun _ _ z => (Kp.same s).stm z) h.2⟩, s _ _ r.bk, r.nd, paired_imp (fun _ _ h => s _ _ h) r.pr⟩
def sp_rinit (A : Ad) (K : PySem.W.Frag) : Sp := fun vs H Q _ => ∃ (p dx la : Addr) (lines : List Tx) (off : Nat), vs = [.ref p, .ref la, vn off] ∧ H p = some (.ins A.c_RoutineReader dx []) ∧ H la = some (.lst (vsts lines)) ∧
  ∀ (H' : Hp) (sl bl : Addr), H sl = none → H bl = none → RdrAt A K H' p la sl bl [] lines off [.rout] [] false → Sx p H H' → Q .non H'
def sp_resolved (A : Ad) (K : PySem.W.Frag) : Sp := fun vs H Q _ => ∃ (p kn sl : Addr) (ds : List Addr) (sc : List PR.Scope) (sv : V) (s : Stm), vs = [.ref p, sv, .ref kn] ∧ NamesAt A H kn sl ds sc ∧ StmAt K H sv s ∧ 
  (∀ x, s = .drop x none → (kindOf sc x).isSome = true) ∧ (∀ x v, s = .some_ x none v → (kindOf sc x).isSome = true) ∧ (∀ x k, s ≠ .drop x (some k)) ∧ (∀ x k v, s ≠ .some_ x (some k) v) ∧ ∀ H' v, Same H H' → StmAt K H' v (resolve sc s) → Q v H'
section
variable {P : Program} {w : World} {K : PySem.W.Frag} {mg : Str → Option Value} {base : Heap} {A : Ad}
theorem ok_RoutineReader_d_initd_ (T : Txt K mg A) : FnOk P w K mg base CX0 1 A.f_RoutineReader_d_initd_ A.d_RoutineReader_d_initd_ ["self", "lines", "offset"] (sp_rinit A K) := by
  refine T.F_RoutineReader_d_initd_.ok sc_RoutineReader_d_initd_ (fun vs H Q E h => ?_) (fun cdv Ar outer s H vs Q E hr h => ?_)
  · obtain ⟨p, dx, la, lines, off, rfl, _⟩ := h
    rfl
  · obtain ⟨p, dx, la, lines, off, rfl, hp, hla, q⟩ := h
    refine ⟨_, (pss_cons (RD.k_sfld (K := K) rfl (pv 0) (pv 1) rfl)
      (pss_cons (RD.k_sfld (K := K) rfl (pv 0) (pv 2) rfl)
      (pss_cons (RD.k_sfld (K := K) rfl (pv 0) (pe_lst (pa_cons (pe_tup (pa_cons pe_str pa_nil)) pa_nil)) rfl)
      (pss_cons (RD.k_sfld (K := K) rfl (pv 0) (pe_lst pa_nil) rfl)
      (pss_one (RD.k_sfld (K := K) rfl (pv 0) pe_bl rfl)))))), ?_⟩
    show tSeq _ _ _ [some (.ref p), some (.ref la), some (vn off)] H
    walk_at "rd"
    refine ⟨p, A.c_RoutineReader, dx, [], rfl, hp, T.cl_RoutineReader, T.n_RoutineReader_lines, by decide, ?_⟩
    walk_at "rd"
    refine ⟨p, A.c_RoutineReader, dx, _, rfl, upd_same, T.cl_RoutineReader, T.n_RoutineReader_offset, (show (1 : Nat) < 1000 by decide), ?_⟩
    have x1 := (Sx.put (p := p) (H := H) (o := .ins A.c_RoutineReader dx (putF "lines" (.ref la) []))).trans (Sx.put (p := p) (o := .ins A.c_RoutineReader dx (putF "offset" (vn off) (putF "lines" (.ref la) []))))
    revert x1
    have hp1 := upd_same (H := upd H p (.ins A.c_RoutineReader dx (putF "lines" (.ref la) []))) (a := p) (o := .ins A.c_RoutineReader dx (putF "offset" (vn off) (putF "lines" (.ref la) [])))
    revert hp1
    generalize upd (upd H p (.ins A.c_RoutineReader dx (putF "lines" (.ref la) []))) p (.ins A.c_RoutineReader dx (putF "offset" (vn off) (putF "lines" (.ref la) []))) = H1
    intro hp1 x1
    walk_at "rd"
    refine ⟨few, fun q1 n1 => ?_⟩
    have t1 := same_new (o := .tup [vst (tx "routine")]) n1
    walk_at "rd"
    refine ⟨few, fun sl nsl => ?_⟩
    have t2 := same_new (o := .lst [V.ref q1]) nsl
    walk_at "rd"
    refine ⟨p, A.c_RoutineReader, dx, _, rfl, (t1.trans t2) _ _ hp1, T.cl_RoutineReader, T.n_RoutineReader_statements, (show (2 : Nat) < 1000 by decide), ?_⟩
    have nsl1 : H1 sl = none := t1.free nsl
    have hsl : _ = _ := upd_same (H := upd H1 q1 (.tup [vst (tx "routine")])) (a := sl) (o := .lst [V.ref q1])
    have hq1 : _ = _ := t2 _ _ (upd_same (H := H1) (a := q1) (o := .tup [vst (tx "routine")]))
    have x2 := x1.trans (Sx.same (p := p) (t1.trans t2))
    have psl : sl ≠ p := fun z => by rw [z, hp1] at nsl1; cases nsl1
    have pq1 : q1 ≠ p := fun z => by rw [z, hp1] at n1; cases n1
    walk_at "rd"
    refine ⟨few, fun bl nbl => ?_⟩
    have t3 := same_new (o := .lst []) nbl
    walk_at "rd"
    have e3 := x2.trans (Sx.put (p := p) (o := .ins A.c_RoutineReader dx (putF "statements" (.ref sl) (putF "offset" (vn off) (putF "lines" (.ref la) [])))))
    refine ⟨p, A.c_RoutineReader, dx, _, rfl, t3 _ _ upd_same, T.cl_RoutineReader, T.n_RoutineReader_blocks, (show (3 : Nat) < 1000 by decide), ?_⟩
    walk_at "rd"
    refine ⟨p, A.c_RoutineReader, dx, _, rfl, upd_same, T.cl_RoutineReader, T.n_RoutineReader_has_labels, (show (4 : Nat) < 1000 by decide), ?_⟩
    have nbl1 : H1 bl = none := by
      have y := (Sx.same (p := p) (t1.trans t2)).trans (Sx.put (p := p) (o := .ins A.c_RoutineReader dx (putF "statements" (.ref sl) (putF "offset" (vn off) (putF "lines" (.ref la) [])))))
      exact y.free upd_same nbl
    have pbl : bl ≠ p := fun z => by rw [z, hp1] at nbl1; cases nbl1
    have x5 := (((e3.trans (Sx.same (p := p) t3)).trans (Sx.put (p := p) (o := .ins A.c_RoutineReader dx (putF "blocks" (.ref bl) (putF "statements" (.ref sl) (putF "offset" (vn off) (putF "lines" (.ref la) []))))))).trans (Sx.put (p := p) (o := .ins A.c_RoutineReader dx (putF "has_labels" (.bl false) (putF "blocks" (.ref bl) (putF "statements" (.ref sl) (putF "offset" (vn off) (putF "lines" (.ref la) []))))))))
    have lap : la ≠ p := fun z => by rw [z, hp] at hla; cases hla
    refine q _ sl bl (x1.free hp1 nsl1) (x1.free hp1 nbl1) ⟨⟨dx, upd_same⟩, x5 _ _ hla lap, ⟨[.ref q1], ?_, .cons ⟨q1, rfl, Pf.st ?_⟩ .nil⟩, ?_, .nil, .nil⟩ x5
    · rw [upd_ne psl, upd_ne psl]
      refine t3 _ _ ?_
      rw [upd_ne psl]
      exact hsl
    · rw [upd_ne pq1, upd_ne pq1]
      refine t3 _ _ ?_
      rw [upd_ne pq1]
      exact hq1
    · rw [upd_ne pbl, upd_ne pbl]
      exact upd_same
end
end Pf

namespace Pf
open PySem PySem.Spec PyProof.Rows L2 SX RD PR
theorem StmAt.head {K : PySem.W.Frag} {H : Hp} {v : V} {s : Stm} (h : StmAt K H v s) : ∃ a xs, v = .ref a ∧ SqT K H a (vst (tx (headS s)) :: xs) := by
  obtain ⟨a, e, h⟩ := h
  match s, h with
  | .rout, h => exact ⟨a, _, e, h⟩
  | .given c, ⟨cv, h, h2⟩ => exact ⟨a, _, e, h⟩
  | .iff c none, ⟨cv, h, h2⟩ => exact ⟨a, _, e, h⟩
  | .iff c (some n), ⟨cv, h, h2⟩ => exact ⟨a, _, e, h⟩
  | .els none, h => exact ⟨a, _, e, h⟩
  | .els (some n), h => exact ⟨a, _, e, h⟩
  | .fin, h => exact ⟨a, _, e, h⟩
  | .let_ x p, ⟨pv, h, h2⟩ => exact ⟨a, _, e, h⟩
  | .take x kk p, ⟨pv, h, h2⟩ => exact ⟨a, _, e, h⟩
  | .make x y, h => exact ⟨a, _, e, h⟩
  | .drop x none, h => exact ⟨a, _, e, h⟩
  | .drop x (some kk), h => exact ⟨a, _, e, h⟩
  | .new kk x, h => exact ⟨a, _, e, h⟩
  | .link x f v, h => exact ⟨a, _, e, h⟩
  | .bear x f v, h => exact ⟨a, _, e, h⟩
  | .round x f v, h => exact ⟨a, _, e, h⟩
  | .some_ x none v, h => exact ⟨a, _, e, h⟩
  | .some_ x (some kk) v, h => exact ⟨a, _, e, h⟩
  | .tell xs, ⟨b, h, h2⟩ => exact ⟨a, _, e, h⟩
theorem tx_inj {s t : String} (h : tx s = tx t) : s = t := by
  unfold tx at h
  have : s.toList = t.toList := by
    have inj : ∀ l m : List Char, l.map Char.toNat = m.map Char.toNat → l = m := by
      intro l
      induction l with
      | nil => intro m h; cases m with
        | nil => rfl
        | cons _ _ => cases h
      | cons a l ih => intro m h; cases m with
        | nil => cases h
        | cons b m =>
          rw [List.map_cons, List.map_cons] at h
          injection h with h1 h2
          rw [ih m h2, Char.toNat_inj.mp h1]
    exact inj _ _ h
  exact String.toList_inj.mp this
section
variable {P : Program} {w : World} {K : PySem.W.Frag} {mg : Str → Option Value} {base : Heap} {A : Ad}
theorem ok_RoutineReader_resolved (T : Txt K mg A) : FnOk P w K mg base CX0 2 A.f_RoutineReader_resolved A.d_RoutineReader_resolved ["self", "statement", "known"] (sp_resolved A K) := by
  have G_Names_kind_of := ok_Names_kind_of (P := P) (w := w) (base := base) T
  refine T.F_RoutineReader_resolved.ok sc_RoutineReader_resolved (fun vs H Q E h => ?_) (fun cdv Ar outer s H vs Q E hr h => ?_)
  · obtain ⟨p, kn, sl, ds, sc, sv, s, rfl, _⟩ := h
    rfl
  · obtain ⟨p, kn, sl, ds, sc, sv, s, rfl, hn, hs, hd1, hd2, hd3, hd4, q⟩ := h
    refine ⟨_, (pss_cons (ps_if (pt_cmpR op_eq (pe_ix (RD.k_ixT (K := K) rfl) (pv 1) pe_int (fun _ _ => rfl)) pe_str (nomark _))
      (pss_one (ps_ret (pe_tup (pa_cons pe_str (pa_cons (pe_ix (RD.k_ixT (K := K) rfl) (pv 1) pe_int (fun _ _ => rfl)) (pa_cons (pe_meth (pv 2) T.cl_Names T.m_Names_kind_of G_Names_kind_of (hr.mono (by decide)) T.b_Names_kind_of .nil pass0 (pa_cons (pe_ix (RD.k_ixT (K := K) rfl) (pv 1) pe_int (fun _ _ => rfl)) pa_nil)) pa_nil))))))
      pss_nil)
      (pss_cons (ps_if (pt_cmpR op_eq (pe_ix (RD.k_ixT (K := K) rfl) (pv 1) pe_int (fun _ _ => rfl)) pe_str (nomark _))
      (pss_one (ps_ret (pe_tup (pa_cons pe_str (pa_cons (pe_ix (RD.k_ixT (K := K) rfl) (pv 1) pe_int (fun _ _ => rfl)) (pa_cons (pe_meth (pv 2) T.cl_Names T.m_Names_kind_of G_Names_kind_of (hr.mono (by decide)) T.b_Names_kind_of .nil pass0 (pa_cons (pe_ix (RD.k_ixT (K := K) rfl) (pv 1) pe_int (fun _ _ => rfl)) pa_nil)) (pa_cons (pe_ix (RD.k_ixT (K := K) rfl) (pv 1) pe_int (fun _ _ => rfl)) pa_nil)))))))
      pss_nil)
      (pss_one (ps_ret (pv 1))))), ?_⟩
    show tSeq _ _ _ [some (.ref p), some (sv), some (.ref kn)] H
    obtain ⟨a, xs, rfl, ha⟩ := hs.head
    obtain ⟨dx, ob⟩ := hn.ob
    walk_at "rd"
    refine RD.ixT ha (show atI _ ((0 : Nat) : Int) = some (vst (tx (headS s))) from at_n rfl) ?_
    walk_at "rd"
    refine RD.dec (fun h1 => ?_) (fun h1 => ?_)
    · have h1 := tx_inj h1
      obtain ⟨x, rfl⟩ : ∃ x, s = .drop x none := by
        cases s with
        | drop x k =>
          cases k with
          | none => exact ⟨x, rfl⟩
          | some k => exact absurd rfl (hd3 x k)
        | _ => exact absurd h1 (by simp [headS])
      obtain ⟨a2, e2, h2⟩ := hs
      cases e2
      have h2 : SqT K H a [vst (tx "drop"), vst x] := h2
      obtain ⟨k, hk⟩ := Option.isSome_iff_exists.mp (hd1 x rfl)
      walk_at "rd"
      refine RD.ixT h2 (show atI _ ((1 : Nat) : Int) = some (vst x) from at_n rfl) ?_
      walk_at "rd"
      refine ⟨kn, dx, _, rfl, ob, rfl, ?_⟩
      walk_at "rd"
      refine RD.ixT h2 (show atI _ ((1 : Nat) : Int) = some (vst x) from at_n rfl) ?_
      walk_at "rd"
      refine ⟨kn, sl, ds, sc, x, rfl, hn, ?_⟩
      rw [hk]
      walk_at "rd"
      refine ⟨few, fun c nc => ?_⟩
      refine q _ _ (same_new nc) ?_
      show StmAt K _ _ (.drop x (kindOf sc x))
      rw [hk]
      exact ⟨c, rfl, st upd_same⟩
    · walk_at "rd"
      refine RD.ixT ha (show atI _ ((0 : Nat) : Int) = some (vst (tx (headS s))) from at_n rfl) ?_
      walk_at "rd"
      refine RD.dec (fun h3 => ?_) (fun h3 => ?_)
      · have h3 := tx_inj h3
        obtain ⟨x, v, rfl⟩ : ∃ x v, s = .some_ x none v := by
          cases s with
          | some_ x k v =>
            cases k with
            | none => exact ⟨x, v, rfl⟩
            | some k => exact absurd rfl (hd4 x k v)
          | _ => exact absurd h3 (by simp [headS])
        obtain ⟨a2, e2, h2⟩ := hs
        cases e2
        have h2 : SqT K H a [vst (tx "some"), vst x, vst v] := h2
        obtain ⟨k, hk⟩ := Option.isSome_iff_exists.mp (hd2 x v rfl)
        walk_at "rd"
        refine RD.ixT h2 (show atI _ ((1 : Nat) : Int) = some (vst x) from at_n rfl) ?_
        walk_at "rd"
        refine ⟨kn, dx, _, rfl, ob, rfl, ?_⟩
        walk_at "rd"
        refine RD.ixT h2 (show atI _ ((1 : Nat) : Int) = some (vst x) from at_n rfl) ?_
        walk_at "rd"
        refine ⟨kn, sl, ds, sc, x, rfl, hn, ?_⟩
        rw [hk]
        walk_at "rd"
        refine RD.ixT h2 (show atI _ ((2 : Nat) : Int) = some (vst v) from at_n rfl) ?_
        walk_at "rd"
        refine ⟨few, fun c nc => ?_⟩
        refine q _ _ (same_new nc) ?_
        show StmAt K _ _ (.some_ x (kindOf sc x) v)
        rw [hk]
        exact ⟨c, rfl, st upd_same⟩
      · walk_at "rd"
        refine q _ _ (Same.refl _) ?_
        have e : resolve sc s = s := by
          cases s with
          | drop x k => exact absurd rfl h1
          | some_ x k v => exact absurd rfl h3
          | _ => rfl
        rw [e]
        exact hs
end
end Pf

namespace Pf
open PySem PySem.Spec PyProof.Rows L2 SX RD PR
def sp_may (A : Ad) (K : PySem.W.Frag) : Sp := fun vs H Q _ => ∃ (p la sl bl : Addr) (bs : List Addr) (lines : List Tx) (off : Nat) (r : Rdr) (sv : V) (s : Stm) (n : Nat), vs = [.ref p, sv, vn n] ∧ RdrAt A K H p la sl bl bs lines off r.stms r.blocks r.lab ∧ StmAt K H sv s ∧ r.stms ≠ [] ∧ (∀ c k, s ≠ .iff c (some k)) ∧
  ∀ H', Same H H' → Q (.bl (mayStand r lines.length n s)) H'
section
variable {P : Program} {w : World} {K : PySem.W.Frag} {mg : Str → Option Value} {base : Heap} {A : Ad}
theorem ok_RoutineReader_may_stand (T : Txt K mg A) : FnOk P w K mg base CX0 1 A.f_RoutineReader_may_stand A.d_RoutineReader_may_stand ["self", "statement", "at"] (sp_may A K) := by
  refine T.F_RoutineReader_may_stand.ok sc_RoutineReader_may_stand (fun vs H Q E h => ?_) (fun cdv Ar outer s H vs Q E hr h => ?_)
  · obtain ⟨p, la, sl, bl, bs, lines, off, r, sv, s, n, rfl, _⟩ := h
    rfl
  · obtain ⟨p, la, sl, bl, bs, lines, off, r, sv, s, n, rfl, hr0, hs, hne, hif, q⟩ := h
    refine ⟨_, (pss_cons (ps_set (i := 3) sc_RoutineReader_may_stand.nd rfl (Or.inl rfl) (pe_ix (RD.k_ixT (K := K) rfl) (pv 1) pe_int (fun _ _ => rfl)))
      (RD.pss_cut (ps_if (pt_cmpR op_eq (pv 3) pe_str (nomark _))
      (pss_one (ps_ret (pe_cmpR (RD.k_in (K := K) rfl) (pe_ix (RD.k_ixT (K := K) rfl) (pe_ix (RD.k_ixL (K := K) rfl) (RD.k_fld (K := K) rfl (pv 0) rfl) (pe_un un_neg pe_int) (fun _ _ => rfl)) pe_int (fun _ _ => rfl)) (pe_tup (pa_cons pe_str (pa_cons pe_str pa_nil))) (by rfl))))
      pss_nil)
      (RD.pss_cut (ps_if (pt_cmpR op_eq (pv 3) pe_str (nomark _))
      (pss_one (ps_ret (pe_and (pe_cmpR op_eq (pv 2) (pe_op op_sub (pe_callB (RD.k_len (K := K) rfl) (by rfl) T.z_len (by decide +kernel) (pa_cons (RD.k_fld (K := K) rfl (pv 0) rfl) pa_nil)) pe_int) (nomark _)) (pe_one (RD.k_notT (K := K) rfl (RD.k_fld (K := K) rfl (pv 0) rfl))))))
      pss_nil)
      (RD.pss_cut (ps_if (pt_cmpR op_eq (pv 3) pe_str (nomark _))
      (pss_one (ps_ret (pe_and (pe_callTy (RD.k_boolL (K := K) rfl) (by rfl) T.z_bool (by decide +kernel) (pa_cons (RD.k_fld (K := K) rfl (pv 0) rfl) pa_nil)) (pe_one (RD.k_notT (K := K) rfl (pe_ix (RD.k_ixL (K := K) rfl) (pe_ix (RD.k_ixL (K := K) rfl) (RD.k_fld (K := K) rfl (pv 0) rfl) (pe_un un_neg pe_int) (fun _ _ => rfl)) pe_int (fun _ _ => rfl)))))))
      pss_nil)
      (RD.pss_cut (ps_if (pt_cmpR op_eq (pv 3) pe_str (nomark _))
      (pss_one (ps_ret (pe_callTy (RD.k_boolL (K := K) rfl) (by rfl) T.z_bool (by decide +kernel) (pa_cons (RD.k_fld (K := K) rfl (pv 0) rfl) pa_nil))))
      pss_nil)
      (RD.pss_cut (ps_if (pt_cmpR op_eq (pv 3) pe_str (nomark _))
      (pss_cons (ps_asg (pe_ix (RD.k_ixT (K := K) rfl) (pv 1) pe_int (fun _ _ => rfl)) (RD.k_gtup (K := K) (n := 4) rfl rfl (pgs_cons (pg_name (i := 4) sc_RoutineReader_may_stand.nd rfl (Or.inl rfl)) (pgs_cons (pg_name (i := 5) sc_RoutineReader_may_stand.nd rfl (Or.inl rfl)) (pgs_cons (pg_name (i := 6) sc_RoutineReader_may_stand.nd rfl (Or.inl rfl)) (pgs_cons (pg_name (i := 7) sc_RoutineReader_may_stand.nd rfl (Or.inl rfl)) pgs_nil))))))
      (RD.pss_cut (ps_set (i := 8) sc_RoutineReader_may_stand.nd rfl (Or.inl rfl) (pe_and (pe_cmpR op_eq (pv 4) pe_str (nomark _)) (pe_and (RD.k_notT (K := K) rfl (pe_ix (RD.k_ixT (K := K) rfl) (pv 5) pe_int (fun _ _ => rfl))) (pe_one (RD.k_notT (K := K) rfl (pe_ix (RD.k_ixT (K := K) rfl) (pv 6) pe_int (fun _ _ => rfl)))))))
      (pss_one (ps_ret (pe_and (pe_cmpR op_lt (pe_callB (RD.k_len (K := K) rfl) (by rfl) T.z_len (by decide +kernel) (pa_cons (RD.k_fld (K := K) rfl (pv 0) rfl) pa_nil)) (RD.pe_glI (by rfl) T.k_MOST_BLOCKS) (nomark _)) (pe_one (pe_or (pv 8) (pe_one (pe_not (RD.k_fld (K := K) rfl (pv 0) rfl))))))))))
      pss_nil)
      (pss_one (ps_ret (pe_or (pe_cmpR (RD.k_in (K := K) rfl) (pv 3) (pe_glob (v := .ref A.k_LABEL_LINES) rfl T.k_LABEL_LINES rfl) (by rfl)) (pe_or (pe_cmpR op_eq (pv 3) pe_str (nomark _)) (pe_one (pe_not (RD.k_fld (K := K) rfl (pv 0) rfl))))))))))))), ?_⟩
    show tSeq _ _ _ [some (.ref p), some (sv), some (vn n), none, none, none, none, none, none] H
    obtain ⟨a, xs, rfl, ha⟩ := hs.head
    obtain ⟨⟨dx, ob⟩, li, ⟨svs, hsl, hsp⟩, bk, nd, pr⟩ := hr0
    have lbb := paired_len pr
    have emp : (bs.map V.ref).isEmpty = r.blocks.isEmpty := by
      cases bs with
      | nil =>
        cases hb : r.blocks with
        | nil => rfl
        | cons _ _ => rw [hb] at lbb; cases lbb
      | cons _ _ =>
        cases hb : r.blocks with
        | nil => rw [hb] at lbb; cases lbb
        | cons _ _ => rfl
    walk_at "rd"
    refine RD.ixT ha (show atI _ ((0 : Nat) : Int) = some (vst (tx (headS s))) from at_n rfl) ?_
    walk_at "rd"
    refine RD.cut (fun σ H' => σ = [some (.ref p), some (.ref a), some (vn n), some (vst (tx (headS s))), none, none, none, none, none] ∧ H' = H ∧ headS s ≠ "given") ?_ ?_
    · walk_at "rd"
      refine RD.dec (fun h1 => ?_) (fun h1 => ?_)
      · have h1 := tx_inj h1
        obtain ⟨c, rfl⟩ : ∃ c, s = .given c := by
          cases s with
          | given c => exact ⟨c, rfl⟩
          | _ => exact absurd h1 (by simp [headS])
        walk_at "rd"
        refine ⟨p, A.c_RoutineReader, dx, _, _, rfl, ob, T.cl_RoutineReader, T.n_RoutineReader_statements, rfl, ?_⟩
        walk_at "rd"
        obtain ⟨s0, lst, es⟩ : ∃ s0 lst, r.stms = s0 ++ [lst] := by
          rcases List.eq_nil_or_concat r.stms with z | ⟨a, b, z⟩
          · exact absurd z hne
          · exact ⟨a, b, by rw [z, List.concat_eq_append]⟩
        rw [es] at hsp
        obtain ⟨v0, vl, rfl⟩ : ∃ v0 vl, svs = v0 ++ [vl] := by
          rcases List.eq_nil_or_concat svs with z | ⟨a, b, z⟩
          · rw [z] at hsp
            exact absurd (paired_len hsp) (by simp)
          · exact ⟨a, b, by rw [z, List.concat_eq_append]⟩
        have hl := (paired_split hsp).2
        obtain ⟨al, xl, rfl, hal⟩ := hl.head
        refine RD.ixL (sq hsl) (atI_last _ _) ?_
        walk_at "rd"
        refine RD.ixT hal (show atI _ ((0 : Nat) : Int) = some (vst (tx (headS lst))) from at_n rfl) ?_
        walk_at "rd"
        refine ⟨few, fun c1 n1 => ?_⟩
        refine RD.inT (ls := [tx "routine", tx "given"]) (st upd_same) ?_
        have e : mayStand r lines.length n (.given c) = decide (tx (headS lst) ∈ [tx "routine", tx "given"]) := by
          show (match r.stms.getLast? with | some .rout => true | some (.given _) => true | _ => false) = _
          rw [es, List.getLast?_concat]
          cases lst <;> (simp only [headS, List.mem_cons, List.not_mem_nil, or_false]; first | (exact (decide_eq_true (by simp)).symm) | (refine (decide_eq_false ?_).symm; rintro (z | z) <;> exact absurd (tx_inj z) (by decide)))
        rw [← e]
        exact q _ (same_new n1)
      · walk_at "rd"
        exact ⟨rfl, rfl, fun z => h1 (by rw [z])⟩
    rintro σ H1 ⟨rfl, rfl, g1⟩
    refine RD.cut (fun σ H' => σ = [some (.ref p), some (.ref a), some (vn n), some (vst (tx (headS s))), none, none, none, none, none] ∧ H' = H1 ∧ headS s ≠ "tell") ?_ ?_
    · walk_at "rd"
      refine RD.dec (fun h1 => ?_) (fun h1 => ?_)
      · have h1 := tx_inj h1
        obtain ⟨ts, rfl⟩ : ∃ ts, s = .tell ts := by
          cases s with
          | tell c => exact ⟨c, rfl⟩
          | _ => exact absurd h1 (by simp [headS])
        walk_at "rd"
        refine ⟨p, A.c_RoutineReader, dx, _, _, rfl, ob, T.cl_RoutineReader, T.n_RoutineReader_lines, rfl, ?_⟩
        walk_at "rd"
        refine RD.len (sq li) ?_
        rw [vsts_len]
        walk_at "rd"
        have e : mayStand r lines.length n (.tell ts) = (decide (n + 1 = lines.length) && r.blocks.isEmpty) := rfl
        refine RD.dec (fun h2 => ?_) (fun h2 => ?_)
        · walk_at "rd"
          refine ⟨p, A.c_RoutineReader, dx, _, _, rfl, ob, T.cl_RoutineReader, T.n_RoutineReader_blocks, rfl, ?_⟩
          refine RD.truL (sq bk) ?_
          rw [decide_eq_true (by omega), Bool.true_and] at e
          rw [Bool.not_not, emp, ← e]
          exact q _ (Same.refl _)
        · walk_at "rd"
          rw [decide_eq_false (by omega), Bool.false_and] at e
          rw [← e]
          exact q _ (Same.refl _)
      · walk_at "rd"
        exact ⟨rfl, rfl, fun z => h1 (by rw [z])⟩
    rintro σ H1 ⟨rfl, rfl, g2⟩
    refine RD.cut (fun σ H' => σ = [some (.ref p), some (.ref a), some (vn n), some (vst (tx (headS s))), none, none, none, none, none] ∧ H' = H1 ∧ headS s ≠ "else") ?_ ?_
    · walk_at "rd"
      refine RD.dec (fun h1 => ?_) (fun h1 => ?_)
      · have h1 := tx_inj h1
        obtain ⟨to, rfl⟩ : ∃ to, s = .els to := by
          cases s with
          | els c => exact ⟨c, rfl⟩
          | _ => exact absurd h1 (by simp [headS])
        have e : mayStand r lines.length n (.els to) = match r.blocks.getLast? with | some b => !b.2 | none => false := rfl
        walk_at "rd"
        refine ⟨p, A.c_RoutineReader, dx, _, _, rfl, ob, T.cl_RoutineReader, T.n_RoutineReader_blocks, rfl, ?_⟩
        walk_at "rd"
        refine RD.boolL (sq bk) ?_
        walk_at "rd"
        rcases List.eq_nil_or_concat r.blocks with z | ⟨b0, b1, z⟩
        · rw [emp, z]
          rw [z] at e
          walk_at "rn"
          have e : mayStand r lines.length n (.els to) = false := e
          rw [← e]
          exact q _ (Same.refl _)
        · rw [List.concat_eq_append] at z
          rw [emp, z, show (!(b0 ++ [b1]).isEmpty) = true by simp]
          rw [z, List.getLast?_concat] at e
          rw [z] at pr
          obtain ⟨c0, c1, rfl⟩ : ∃ v0 vl, bs = v0 ++ [vl] := by
            rcases List.eq_nil_or_concat bs with z | ⟨a, b, z⟩
            · rw [z] at pr
              exact absurd (paired_len pr) (by simp)
            · exact ⟨a, b, by rw [z, List.concat_eq_append]⟩
          have hb : H1 c1 = some (.lst [vn b1.1, .bl b1.2]) := (paired_split pr).2
          walk_at "rn"
          refine ⟨p, A.c_RoutineReader, dx, _, _, rfl, ob, T.cl_RoutineReader, T.n_RoutineReader_blocks, rfl, ?_⟩
          walk_at "rd"
          refine RD.ixL (sq bk) (show atI ((c0 ++ [c1]).map V.ref) (-1) = some (.ref c1) by rw [List.map_append]; exact atI_last _ _) ?_
          walk_at "rd"
          refine RD.ixL (sq hb) (show atI _ ((1 : Nat) : Int) = some (.bl b1.2) from at_n rfl) ?_
          refine ⟨b1.2, rfl, ?_⟩
          have e : mayStand r lines.length n (.els to) = !b1.2 := e
          rw [← e]
          exact q _ (Same.refl _)
      · walk_at "rd"
        exact ⟨rfl, rfl, fun z => h1 (by rw [z])⟩
    rintro σ H1 ⟨rfl, rfl, g3⟩
    refine RD.cut (fun σ H' => σ = [some (.ref p), some (.ref a), some (vn n), some (vst (tx (headS s))), none, none, none, none, none] ∧ H' = H1 ∧ headS s ≠ "end") ?_ ?_
    · walk_at "rd"
      refine RD.dec (fun h1 => ?_) (fun h1 => ?_)
      · have h1 := tx_inj h1
        obtain rfl : s = .fin := by
          cases s with
          | fin => rfl
          | _ => exact absurd h1 (by simp [headS])
        walk_at "rd"
        refine ⟨p, A.c_RoutineReader, dx, _, _, rfl, ob, T.cl_RoutineReader, T.n_RoutineReader_blocks, rfl, ?_⟩
        walk_at "rd"
        refine RD.boolL (sq bk) ?_
        rw [emp]
        exact q _ (Same.refl _)
      · walk_at "rd"
        exact ⟨rfl, rfl, fun z => h1 (by rw [z])⟩
    rintro σ H1 ⟨rfl, rfl, g4⟩
    refine RD.cut (fun σ H' => σ = [some (.ref p), some (.ref a), some (vn n), some (vst (tx (headS s))), none, none, none, none, none] ∧ H' = H1 ∧ headS s ≠ "if") ?_ ?_
    · walk_at "rd"
      refine RD.dec (fun h1 => ?_) (fun h1 => ?_)
      · have h1 := tx_inj h1
        obtain ⟨c, rfl⟩ : ∃ c, s = .iff c none := by
          cases s with
          | iff c to =>
            cases to with
            | none => exact ⟨c, rfl⟩
            | some k => exact absurd rfl (hif c k)
          | _ => exact absurd h1 (by simp [headS])
        obtain ⟨a2, e2, cv, h2, hc⟩ := hs
        cases e2
        obtain ⟨ca, lv, rv, rfl, hc1, ⟨al, bl1, rfl, hl1, hl2⟩, ⟨ar, br, rfl, hr1, hr2⟩⟩ := hc
        have e : mayStand r lines.length n (.iff c none) = (decide (r.blocks.length < 3) && ((decide (c.kind = []) && (c.left.2.isEmpty && c.right.2.isEmpty)) || !r.lab)) := rfl
        walk_at "rd"
        refine RD.ixT h2 (show atI _ ((1 : Nat) : Int) = some (.ref ca) from at_n rfl) ?_
        walk_at "rd"
        refine RD.gtup4 hc1 ?_
        walk_at "rd"
        refine RD.cut (fun σ H' => σ = [some (.ref p), some (.ref a), some (vn n), some (vst (tx (headS (.iff c none)))), some (vst c.kind), some (.ref al), some (.ref ar), some (.bl c.eq), some (.bl (decide (c.kind = []) && (c.left.2.isEmpty && c.right.2.isEmpty)))] ∧ H' = H1) ?_ ?_
        · walk_at "rd"
          rw [temp]
          refine RD.dec (fun hk => ?_) (fun hk => ?_)
          · walk_at "rd"
            refine RD.ixT hl1 (show atI _ ((1 : Nat) : Int) = some (.ref bl1) from at_n rfl) ?_
            refine RD.truTs hl2 ?_
            rw [isEmpty_txs, Bool.not_not, decide_eq_true hk, Bool.true_and]
            walk_at "rd"
            cases hle : c.left.2.isEmpty with
            | true =>
              walk_at "rn"
              refine RD.ixT hr1 (show atI _ ((1 : Nat) : Int) = some (.ref br) from at_n rfl) ?_
              refine RD.truTs hr2 ?_
              rw [isEmpty_txs, Bool.not_not]
              walk_at "rd"
              exact ⟨rfl, rfl⟩
            | false =>
              walk_at "rn"
              exact ⟨rfl, rfl⟩
          · walk_at "rd"
            rw [decide_eq_false hk]
            exact ⟨rfl, rfl⟩
        · rintro σ H2 ⟨rfl, rfl⟩
          walk_at "rd"
          refine ⟨p, A.c_RoutineReader, dx, _, _, rfl, ob, T.cl_RoutineReader, T.n_RoutineReader_blocks, rfl, ?_⟩
          walk_at "rd"
          refine RD.len (sq bk) ?_
          rw [List.length_map, lbb]
          walk_at "rd"
          refine RD.dec (fun h3 => ?_) (fun h3 => ?_)
          · rw [decide_eq_true (show r.blocks.length < 3 by omega), Bool.true_and] at e
            revert e
            generalize (decide (c.kind = []) && (c.left.2.isEmpty && c.right.2.isEmpty)) = pl
            intro e
            walk_at "rd"
            cases pl with
            | true =>
              walk_at "rn"
              have e : mayStand r lines.length n (.iff c none) = true := e
              rw [← e]
              exact q _ (Same.refl _)
            | false =>
              walk_at "rn"
              refine ⟨p, A.c_RoutineReader, dx, _, _, rfl, ob, T.cl_RoutineReader, T.n_RoutineReader_has_labels, rfl, ?_⟩
              walk_at "rd"
              have e : mayStand r lines.length n (.iff c none) = !r.lab := e
              rw [← e]
              exact q _ (Same.refl _)
          · rw [decide_eq_false (show ¬ r.blocks.length < 3 by omega), Bool.false_and] at e
            walk_at "rd"
            rw [← e]
            exact q _ (Same.refl _)
      · walk_at "rd"
        exact ⟨rfl, rfl, fun z => h1 (by rw [z])⟩
    rintro σ H1 ⟨rfl, rfl, g5⟩
    have el : mayStand r lines.length n s = ((decide (tx (headS s) ∈ labL)) || (decide (tx (headS s) = tx "drop") || !r.lab)) := by
      have lab : ∀ h : String, decide (tx h ∈ labL) = decide (h ∈ ["new", "bear", "round", "some"]) := fun h => by
        rw [decide_eq_decide]
        unfold labL
        rw [List.mem_map]
        exact ⟨fun ⟨x, hx, ex⟩ => by rw [← tx_inj ex]; exact hx, fun z => ⟨h, z, rfl⟩⟩
      have drp : ∀ h : String, decide (tx h = tx "drop") = decide (h = "drop") := fun h => by
        rw [decide_eq_decide]
        exact ⟨fun z => tx_inj z, fun z => by rw [z]⟩
      rw [lab, drp]
      cases s with
      | given c => exact absurd rfl g1
      | tell c => exact absurd rfl g2
      | els c => exact absurd rfl g3
      | fin => exact absurd rfl g4
      | iff c t => exact absurd rfl g5
      | _ => rfl
    walk_at "rd"
    refine RD.inT (ls := labL) (by rw [← vsts_labL]; exact T.kt_LABEL_LINES _) ?_
    walk_at "rd"
    refine RD.dec (fun h1 => ?_) (fun h1 => ?_)
    · rw [decide_eq_true h1, Bool.true_or] at el
      rw [← el]
      exact q _ (Same.refl _)
    · rw [decide_eq_false h1, Bool.false_or] at el
      walk_at "rd"
      refine RD.dec (fun h2 => ?_) (fun h2 => ?_)
      · rw [decide_eq_true h2, Bool.true_or] at el
        rw [← el]
        exact q _ (Same.refl _)
      · rw [decide_eq_false h2, Bool.false_or] at el
        walk_at "rd"
        refine ⟨p, A.c_RoutineReader, dx, _, _, rfl, ob, T.cl_RoutineReader, T.n_RoutineReader_has_labels, rfl, ?_⟩
        walk_at "rd"
        rw [← el]
        exact q _ (Same.refl _)
end
end Pf

namespace Pf
open PySem PySem.Spec PyProof.Rows L2 SX RD PR
def tfl (n : Tx) (h : Addr) (tv lv sv : V) : List (Str × V) := [("name", vst n), ("halves", .ref h), ("told", tv), ("lines", lv), ("statements", sv)]
def sp_rt (A : Ad) (K : PySem.W.Frag) : Sp := fun vs H Q _ => ∃ (p dx nm : Addr) (n : Tx) (hs : List Tx) (tv lv sv : V), vs = [.ref p, .ref nm, tv, lv, sv] ∧ H p = some (.ins A.c_Routine dx []) ∧ SqT K H nm (vsts (n :: hs)) ∧
  ∀ (H' : Hp) (h : Addr), H h = none → H' p = some (.ins A.c_Routine dx (tfl n h tv lv sv)) → H' h = some (.tup (vsts hs)) → Sx p H H' → Q .non H'
section
variable {P : Program} {w : World} {K : PySem.W.Frag} {mg : Str → Option Value} {base : Heap} {A : Ad}
theorem ok_Routine_d_initd_ (T : Txt K mg A) : FnOk P w K mg base CX0 1 A.f_Routine_d_initd_ A.d_Routine_d_initd_ ["self", "names", "told", "lines", "statements"] (sp_rt A K) := by
  refine T.F_Routine_d_initd_.ok sc_Routine_d_initd_ (fun vs H Q E h => ?_) (fun cdv Ar outer s H vs Q E hr h => ?_)
  · obtain ⟨p, dx, nm, n, hs, tv, lv, sv, rfl, _⟩ := h
    rfl
  · obtain ⟨p, dx, nm, n, hs, tv, lv, sv, rfl, hp, hn, q⟩ := h
    refine ⟨_, (pss_cons (RD.k_sfld (K := K) rfl (pv 0) (pe_ix (RD.k_ixT (K := K) rfl) (pv 1) pe_int (fun _ _ => rfl)) rfl)
      (pss_cons (RD.k_sfld (K := K) rfl (pv 0) (pe_slice (RD.k_slT (K := K) rfl) (pv 1) (po_some pe_int) po_none) rfl)
      (pss_cons (RD.k_sfld (K := K) rfl (pv 0) (pv 2) rfl)
      (pss_cons (RD.k_sfld (K := K) rfl (pv 0) (pv 3) rfl)
      (pss_one (RD.k_sfld (K := K) rfl (pv 0) (pv 4) rfl)))))), ?_⟩
    show tSeq _ _ _ [some (.ref p), some (.ref nm), some (tv), some (lv), some (sv)] H
    walk_at "rd"
    refine RD.ixT hn (show atI _ ((0 : Nat) : Int) = some (vst n) from at_n rfl) ?_
    walk_at "rd"
    refine ⟨p, A.c_Routine, dx, [], rfl, hp, T.cl_Routine, T.n_Routine_name, by decide, ?_⟩
    have x1 := Sx.put (p := p) (H := H) (o := .ins A.c_Routine dx (putF "name" (vst n) []))
    walk_at "rd"
    refine RD.slT (x1.stp hp hn) (fun z => by
      have z1 : HT.sIx (vsts (n :: hs)).length 0 (some ((1 : Nat) : Int)) = 0 := z.1
      rw [HT.sIx_nat, vsts_len, List.length_cons] at z1
      omega) fun h nh => ?_
    have ec : cutV (vsts (n :: hs)) (some ((1 : Nat) : Int)) none = vsts hs := by
      rw [cut_from]
      rfl
    have ec' : cutV (vsts (n :: hs)) (some 1) none = vsts hs := ec
    rw [ec']
    have t1 := same_new (o := .tup (vsts hs)) nh
    have nh0 : H h = none := x1.free upd_same nh
    have ph : h ≠ p := fun z => by rw [z, hp] at nh0; cases nh0
    walk_at "rd"
    refine ⟨p, A.c_Routine, dx, _, rfl, t1 _ _ upd_same, T.cl_Routine, T.n_Routine_halves, (show (1 : Nat) < 1000 by decide), ?_⟩
    walk_at "rd"
    refine ⟨p, A.c_Routine, dx, _, rfl, upd_same, T.cl_Routine, T.n_Routine_told, (show (2 : Nat) < 1000 by decide), ?_⟩
    walk_at "rd"
    refine ⟨p, A.c_Routine, dx, _, rfl, upd_same, T.cl_Routine, T.n_Routine_lines, (show (3 : Nat) < 1000 by decide), ?_⟩
    walk_at "rd"
    refine ⟨p, A.c_Routine, dx, _, rfl, upd_same, T.cl_Routine, T.n_Routine_statements, (show (4 : Nat) < 1000 by decide), ?_⟩
    refine q _ h nh0 (by rw [upd_same]; rfl) ?_ ?_
    · rw [upd_ne ph, upd_ne ph, upd_ne ph, upd_ne ph]
      exact upd_same
    · exact ((((x1.trans (Sx.same t1)).trans Sx.put).trans Sx.put).trans Sx.put).trans Sx.put
end
end Pf

namespace Pf
open PySem PySem.Spec PyProof.Rows L2 SX RD PR
section
variable {A : Ad} {K : PySem.W.Frag} {H : Hp} {p la sl bl : Addr} {bs : List Addr} {lines : List Tx} {off : Nat} {stms : List Stm} {blocks : List (Nat × Bool)} {lab : Bool}
/-- an object changes that is none of the reader's -/
theorem RdrAt.keep {H' : Hp} (r : RdrAt A K H p la sl bl bs lines off stms blocks lab) (k : Kp H H') (h1 : ∀ o, H p = some o → H' p = some o) (h2 : ∀ o, H la = some o → H' la = some o) (h3 : ∀ o, H sl = some o → H' sl = some o) (h4 : ∀ o, H bl = some o → H' bl = some o) (h5 : ∀ q ∈ bs, ∀ o, H q = some o → H' q = some o) :
    RdrAt A K H' p la sl bl bs lines off stms blocks lab where
  ob := r.ob.imp fun _ h => h1 _ h
  li := h2 _ r.li
  st := r.st.imp fun _ h => ⟨h3 _ h.1, paired_imp (fun _ _ z => k.stm z) h.2⟩
  bk := h4 _ r.bk
  nd := r.nd
  pr := by
    have : ∀ {bs : List Addr} {blocks : List (Nat × Bool)}, Paired (BlAt H) bs blocks → (∀ q ∈ bs, ∀ o, H q = some o → H' q = some o) → Paired (BlAt H') bs blocks := by
      intro bs blocks h
      induction h with
      | nil => intro _; exact .nil
      | cons e t ih => intro k; exact .cons (k _ List.mem_cons_self _ e) (ih fun q hq => k q (List.mem_cons_of_mem _ hq))
    exact this r.pr h5
theorem RdrAt.bne (r : RdrAt A K H p la sl bl bs lines off stms blocks lab) {C dx : Addr} {fs : List (Str × V)} {x : Addr} (h : H x = some (.ins C dx fs)) : la ≠ x ∧ sl ≠ x ∧ bl ≠ x ∧ ∀ q ∈ bs, q ≠ x := by
  refine ⟨fun z => ?_, fun z => ?_, fun z => ?_, fun q hq z => ?_⟩
  · have := r.li; rw [z, h] at this; cases this
  · obtain ⟨_, this, _⟩ := r.st; rw [z, h] at this; cases this
  · have := r.bk; rw [z, h] at this; cases this
  · obtain ⟨b, _, this⟩ := paired_mem r.pr q hq
    have this : H q = some (.lst [vn b.1, .bl b.2]) := this
    rw [z, h] at this; cases this
/-- self.has_labels = True -/
theorem RdrAt.labd (r : RdrAt A K H p la sl bl bs lines off stms blocks lab) {dx : Addr} (h : H p = some (.ins A.c_RoutineReader dx (rfl_ la sl bl off lab))) (l2 : Bool) :
    RdrAt A K (upd H p (.ins A.c_RoutineReader dx (rfl_ la sl bl off l2))) p la sl bl bs lines off stms blocks l2 := by
  obtain ⟨n1, n2, n3, n4⟩ := r.bne h
  have k : Kp H (upd H p (.ins A.c_RoutineReader dx (rfl_ la sl bl off l2))) := Kp.ins h
  refine ⟨⟨dx, upd_same⟩, by rw [upd_ne n1]; exact r.li, r.st.imp fun _ z => ⟨by rw [upd_ne n2]; exact z.1, paired_imp (fun _ _ y => k.stm y) z.2⟩, by rw [upd_ne n3]; exact r.bk, r.nd, ?_⟩
  have : ∀ {bs : List Addr} {blocks : List (Nat × Bool)}, Paired (BlAt H) bs blocks → (∀ q ∈ bs, q ≠ p) → Paired (BlAt (upd H p (.ins A.c_RoutineReader dx (rfl_ la sl bl off l2)))) bs blocks := by
    intro bs blocks h
    induction h with
    | nil => intro _; exact .nil
    | cons e t ih => intro k; exact .cons (by show upd _ _ _ _ = _; rw [upd_ne (k _ List.mem_cons_self)]; exact e) (ih fun q hq => k q (List.mem_cons_of_mem _ hq))
  exact this r.pr n4
/-- another statement list -/
theorem RdrAt.stmd (r : RdrAt A K H p la sl bl bs lines off stms blocks lab) (nd : (la :: sl :: bl :: bs).Nodup) {svs : List V} {stms2 : List Stm} (h : Paired (StmAt K H) svs stms2) :
    RdrAt A K (upd H sl (.lst svs)) p la sl bl bs lines off stms2 blocks lab := by
  obtain ⟨s0, hs0, _⟩ := r.st
  obtain ⟨dx, ob⟩ := r.ob
  have k : Kp H (upd H sl (.lst svs)) := Kp.lst hs0
  rw [List.nodup_cons, List.nodup_cons] at nd
  obtain ⟨n1, n2, n3⟩ := nd
  have e1 : la ≠ sl := fun z => n1 (by rw [z]; exact List.mem_cons_self)
  have e2 : bl ≠ sl := fun z => n2 (by rw [z]; exact List.mem_cons_self)
  have e3 : ∀ q ∈ bs, q ≠ sl := fun q hq z => n2 (by rw [← z]; exact List.mem_cons_of_mem _ hq)
  have e4 : p ≠ sl := fun z => by rw [z, hs0] at ob; cases ob
  refine ⟨⟨dx, by rw [upd_ne e4]; exact ob⟩, by rw [upd_ne e1]; exact r.li, ⟨svs, upd_same, paired_imp (fun _ _ y => k.stm y) h⟩, by rw [upd_ne e2]; exact r.bk, r.nd, ?_⟩
  have : ∀ {bs : List Addr} {blocks : List (Nat × Bool)}, Paired (BlAt H) bs blocks → (∀ q ∈ bs, q ≠ sl) → Paired (BlAt (upd H sl (.lst svs))) bs blocks := by
    intro bs blocks h
    induction h with
    | nil => intro _; exact .nil
    | cons e t ih => intro k; exact .cons (by show upd _ _ _ _ = _; rw [upd_ne (k _ List.mem_cons_self)]; exact e) (ih fun q hq => k q (List.mem_cons_of_mem _ hq))
  exact this r.pr e3
theorem RdrAt.blkd {H' : Hp} {bs2 : List Addr} {blocks2 : List (Nat × Bool)} (r : RdrAt A K H p la sl bl bs lines off stms blocks lab) (k : Kp H H') (h1 : ∀ o, H p = some o → H' p = some o) (h2 : ∀ o, H la = some o → H' la = some o) (h3 : ∀ o, H sl = some o → H' sl = some o)
    (h4 : H' bl = some (.lst (bs2.map V.ref))) (h5 : bs2.Nodup) (h6 : Paired (BlAt H') bs2 blocks2) : RdrAt A K H' p la sl bl bs2 lines off stms blocks2 lab where
  ob := r.ob.imp fun _ h => h1 _ h
  li := h2 _ r.li
  st := r.st.imp fun _ h => ⟨h3 _ h.1, paired_imp (fun _ _ z => k.stm z) h.2⟩
  bk := h4
  nd := h5
  pr := h6
theorem bl_keep {H' : Hp} : ∀ {bs : List Addr} {blocks : List (Nat × Bool)}, Paired (BlAt H) bs blocks → (∀ q ∈ bs, ∀ o, H q = some o → H' q = some o) → Paired (BlAt H') bs blocks
  | _, _, .nil, _ => .nil
  | _, _, .cons e t, k => .cons (k _ List.mem_cons_self _ e) (bl_keep t fun q hq => k q (List.mem_cons_of_mem _ hq))
end
theorem NamesAt.keep {A : Ad} {H H' : Hp} {p sl : Addr} {ds : List Addr} {sc : List PR.Scope} (n : NamesAt A H p sl ds sc) (h1 : ∀ o, H p = some o → H' p = some o) (h2 : ∀ o, H sl = some o → H' sl = some o) (h3 : ∀ q ∈ ds, ∀ o, H q = some o → H' q = some o) : NamesAt A H' p sl ds sc :=
  ⟨n.ob.imp fun _ h => h1 _ h, h2 _ n.ls, n.nd, pairs_keep n.pr h3⟩
end Pf

namespace RD
open PySem PySem.Spec PyProof.Rows L2
theorem cutV_whole {xs : List V} {lo hi : Option Int} (h : HT.sIx xs.length 0 lo = 0 ∧ HT.sIx xs.length xs.length hi = xs.length) : cutV xs lo hi = xs := by
  unfold cutV
  rw [h.1, h.2]
  simp
theorem slA {K : PySem.W.Frag} {H : Hp} {Q : VK} {a : Addr} {xs : List V} {lo hi : Option Int} (h : SqT K H a xs) (q : ∀ H' p, Same H H' → SqT K H' p (cutV xs lo hi) → Q (.ref p) H') : rSlA K (.ref a) lo hi H Q :=
  ⟨a, xs, rfl, h, fun e => q H a (Same.refl _) (by rw [cutV_whole e]; exact h), fun _ p np => q _ p (same_new np) (.inl (.inl upd_same))⟩
theorem ixN_n {n j : Nat} (h : j < n) : ixN n (j : Int) = some j := by
  unfold ixN
  rw [if_pos (by omega), if_pos (by omega)]
  simp
theorem setLe {H : Hp} {v : V} {a : Addr} {xs ys : List V} {k : Int} {j : Nat} {QH : Hp → Prop} (h : H a = some (.lst xs)) (hk : ixN xs.length k = some j) (e : xs.set j v = ys) (q : QH (upd H a (.lst ys))) : rSetL (.ref a) (.int k) v H QH := setL h hk (by rw [e]; exact q)
theorem unl2p {σ : L2.St} {H : Hp} {K : PySem.W.Frag} {i j : Nat} {T : Addr} {x y : V} {QG : L2.St → Hp → Prop} (h : SqL K H T [x, y]) (q : gName i x σ H fun σ1 H1 => gName j y σ1 H1 QG) : gUnl K 2 (gCons (gName i) (gCons (gName j) gNil)) (.ref T) σ H QG := ⟨T, [x, y], rfl, h, rfl, x, [y], rfl, y, [], rfl, rfl, q⟩
end RD
namespace Pf
open PySem PySem.Spec PyProof.Rows L2 SX RD PR
/-- all but the reader's and the scopes' own objects is kept -/
def Off (M : List Addr) (H H' : Hp) : Prop := ∀ a o, H a = some o → a ∉ M → H' a = some o
theorem Off.refl {M : List Addr} {H : Hp} : Off M H H := fun _ _ e _ => e
theorem Off.trans {M : List Addr} {H1 H2 H3 : Hp} (a : Off M H1 H2) (b : Off M H2 H3) : Off M H1 H3 := fun x o e n => b x o (a x o e n) n
theorem Off.put {M : List Addr} {H : Hp} {x : Addr} {o : HO} (h : x ∈ M) : Off M H (upd H x o) := fun a u e n => by rw [upd_ne (fun z => n (by rw [z]; exact h))]; exact e
theorem Off.same {M : List Addr} {H H' : Hp} (s : Same H H') : Off M H H' := fun a o e _ => s a o e
/-- the reader and the names, beside an earlier heap -/
structure Both (A : Ad) (K : PySem.W.Frag) (H0 : Hp) (M : List Addr) (H : Hp) (p la sl bl kn ssl : Addr) (bs ds : List Addr) (lines : List Tx) (off : Nat) (stms : List Stm) (blocks : List (Nat × Bool)) (lab : Bool) (sc : List PR.Scope) : Prop where
  rd : RdrAt A K H p la sl bl bs lines off stms blocks lab
  nm : NamesAt A H kn ssl ds sc
  nd : (la :: sl :: bl :: ssl :: bs).Nodup
  of : Off M H0 H
  fr : ∀ x, H x = none → H0 x = none
section
variable {A : Ad} {K : PySem.W.Frag} {H0 H H' : Hp} {M : List Addr} {p la sl bl kn ssl : Addr} {bs ds : List Addr} {lines : List Tx} {off : Nat} {stms : List Stm} {blocks : List (Nat × Bool)} {lab : Bool} {sc : List PR.Scope}
theorem Both.same (s : Same H H') (h : Both A K H0 M H p la sl bl kn ssl bs ds lines off stms blocks lab sc) : Both A K H0 M H' p la sl bl kn ssl bs ds lines off stms blocks lab sc :=
  ⟨h.rd.same s, h.nm.same s, h.nd, h.of.trans (Off.same s), fun x e => h.fr x (s.free e)⟩
theorem Both.put {bs2 : List Addr} {stms2 : List Stm} {blocks2 : List (Nat × Bool)} {lab2 : Bool} {x : Addr} {zs : List V} {o : HO} (h : Both A K H0 M H p la sl bl kn ssl bs ds lines off stms blocks lab sc) (hx : H x = some (.lst zs)) (hm : x ∈ M) (hn : ssl ≠ x)
    (hr : RdrAt A K (upd H x o) p la sl bl bs2 lines off stms2 blocks2 lab2) (nd : (la :: sl :: bl :: ssl :: bs2).Nodup) : Both A K H0 M (upd H x o) p la sl bl kn ssl bs2 ds lines off stms2 blocks2 lab2 sc := by
  obtain ⟨dxn, obn⟩ := h.nm.ob
  refine ⟨hr, h.nm.keep (fun o e => by rw [upd_ne (fun z => by rw [z, hx] at obn; cases obn)]; exact e) (fun o e => by rw [upd_ne hn]; exact e) (fun d hd o e => ?_), nd, h.of.trans (Off.put hm), fun y hy => ?_⟩
  · obtain ⟨sc, _, hsc⟩ := paired_mem h.nm.pr d hd
    have hsc : H d = some (.dK (sc.map kvT)) := hsc
    rw [upd_ne (fun z => by rw [z, hx] at hsc; cases hsc)]
    exact e
  · by_cases z : y = x
    · rw [z, upd_same] at hy; cases hy
    · rw [upd_ne z] at hy; exact h.fr y hy
/-- the last block's entry -/
theorem Both.blk {bi : List Addr} {b : Addr} {bk : List (Nat × Bool)} {e : Nat × Bool} (h : Both A K H0 M H p la sl bl kn ssl (bi ++ [b]) ds lines off stms (bk ++ [e]) lab sc) (hm : b ∈ M) (e2 : Nat × Bool) :
    Both A K H0 M (upd H b (.lst [vn e2.1, .bl e2.2])) p la sl bl kn ssl (bi ++ [b]) ds lines off stms (bk ++ [e2]) lab sc := by
  have hb : H b = some (.lst [vn e.1, .bl e.2]) := (paired_split h.rd.pr).2
  have nd := h.nd
  rw [List.nodup_cons, List.nodup_cons, List.nodup_cons, List.nodup_cons] at nd
  obtain ⟨m1, m2, m3, m4, m5⟩ := nd
  obtain ⟨dx, ob⟩ := h.rd.ob
  have bm : b ∈ bi ++ [b] := by simp
  refine h.put hb hm (fun z => m4 (by rw [z]; exact bm)) (h.rd.blkd (Kp.lst hb) (fun o e => by rw [upd_ne (fun z => by rw [z, hb] at ob; cases ob)]; exact e) (fun o e => by rw [upd_ne (fun z => m1 (by rw [z]; simp))]; exact e) (fun o e => by rw [upd_ne (fun z => m2 (by rw [z]; simp))]; exact e)
    (by rw [upd_ne (fun z => m3 (by rw [z]; simp))]; exact h.rd.bk) h.rd.nd (pr_app (bl_keep (paired_split h.rd.pr).1 fun q hq o e => ?_) (.cons upd_same .nil))) h.nd
  rw [upd_ne (fun z => ?_)]
  · exact e
  · rw [List.nodup_append] at m5
    exact m5.2.2 q hq b (by simp) z
/-- a statement is put anew -/
theorem Both.stm {svs : List V} {stms2 : List Stm} (h : Both A K H0 M H p la sl bl kn ssl bs ds lines off stms blocks lab sc) (hm : sl ∈ M) (hs : Paired (StmAt K H) svs stms2) : Both A K H0 M (upd H sl (.lst svs)) p la sl bl kn ssl bs ds lines off stms2 blocks lab sc := by
  have nd := h.nd
  have nd3 : (la :: sl :: bl :: bs).Nodup := nd.sublist (((List.Sublist.refl bs).cons ssl).cons₂ bl |>.cons₂ sl |>.cons₂ la)
  rw [List.nodup_cons, List.nodup_cons] at nd
  obtain ⟨sv0, e0, _⟩ := h.rd.st
  exact h.put e0 hm (fun z => nd.2.1 (by rw [← z]; simp)) (h.rd.stmd nd3 hs) h.nd
/-- the last block is dropped -/
theorem Both.pop {bi : List Addr} {b : Addr} {bk : List (Nat × Bool)} {e : Nat × Bool} (h : Both A K H0 M H p la sl bl kn ssl (bi ++ [b]) ds lines off stms (bk ++ [e]) lab sc) (hm : bl ∈ M) :
    Both A K H0 M (upd H bl (.lst (bi.map V.ref))) p la sl bl kn ssl bi ds lines off stms bk lab sc := by
  have nd := h.nd
  have nd2 : (la :: sl :: bl :: ssl :: bi).Nodup := nd.sublist ((List.sublist_append_left bi [b]).cons₂ ssl |>.cons₂ bl |>.cons₂ sl |>.cons₂ la)
  rw [List.nodup_cons, List.nodup_cons, List.nodup_cons, List.nodup_cons] at nd
  obtain ⟨m1, m2, m3, m4, m5⟩ := nd
  obtain ⟨dx, ob⟩ := h.rd.ob
  have hb := h.rd.bk
  refine h.put hb hm (fun z => m3 (by rw [← z]; simp)) (h.rd.blkd (Kp.lst hb) (fun o e => by rw [upd_ne (fun z => by rw [z, hb] at ob; cases ob)]; exact e) (fun o e => by rw [upd_ne (fun z => m1 (by rw [z]; simp))]; exact e) (fun o e => by rw [upd_ne (fun z => m2 (by rw [z]; simp))]; exact e)
    upd_same ((List.nodup_append.mp m5).1) (bl_keep (paired_split h.rd.pr).1 fun q hq o e => ?_)) nd2
  rw [upd_ne (fun z => m3 (by rw [← z]; simp [hq]))]
  exact e
/-- the scopes alone change -/
theorem Both.scp {ds2 : List Addr} {sc2 : List PR.Scope} (h : Both A K H0 M H p la sl bl kn ssl bs ds lines off stms blocks lab sc) (hm : ssl ∈ M) (hn : NamesAt A H' kn ssl ds2 sc2) (sx : Sx ssl H H') : Both A K H0 M H' p la sl bl kn ssl bs ds2 lines off stms blocks lab sc2 := by
  have nd := h.nd
  rw [List.nodup_cons, List.nodup_cons, List.nodup_cons, List.nodup_cons] at nd
  obtain ⟨m1, m2, m3, m4, m5⟩ := nd
  have hls := h.nm.ls
  have fr : ∀ x, H' x = none → H x = none := fun x e => by
    cases hh : H x with
    | none => rfl
    | some o =>
      by_cases z : x = ssl
      · rw [z, hn.ls] at e; cases e
      · rw [sx x o hh z] at e; cases e
  obtain ⟨dx, ob⟩ := h.rd.ob
  refine ⟨h.rd.keep ?_ (fun o e => sx _ _ e ?_) (fun o e => sx _ _ e ?_) (fun o e => sx _ _ e ?_) (fun o e => sx _ _ e ?_) (fun q hq o e => sx _ _ e ?_), hn, h.nd, h.of.trans fun x o e n => sx x o e fun z => n (by rw [z]; exact hm), fun x e => h.fr x (fr x e)⟩
  · intro x xs e
    rcases e with e | ⟨o, e⟩
    · exact .inl (sx x _ e fun z => by rw [z, hls] at e; cases e)
    · exact .inr ⟨o, sx x _ e fun z => by rw [z, hls] at e; cases e⟩
  · intro z; rw [z, hls] at ob; cases ob
  · intro z; exact m1 (by rw [z]; simp)
  · intro z; exact m2 (by rw [z]; simp)
  · intro z; exact m3 (by rw [z]; simp)
  · intro z; exact m4 (by rw [← z]; exact hq)
end
/-- the first statement of a block, cut and retargeted -/
theorem head_cut {K : PySem.W.Frag} {H : Hp} {v : V} {s : Stm} {b : Bool} (ho : opens b s = true) (h : StmAt K H v s) : ∃ a xs, v = .ref a ∧ SqT K H a xs ∧ (cutV xs none (some (2 - (if b = true then 1 else 0)))).length ≤ 2 ∧
    ∀ (n : Nat) (H' : Hp) (q : Addr), Kp H H' → H' q = some (.tup (cutV xs none (some (2 - (if b = true then 1 else 0))) ++ [vn n])) → StmAt K H' (.ref q) (retarget n s) := by
  obtain ⟨a, rfl, h⟩ := h
  cases b with
  | false =>
    cases s with
    | iff c to =>
      cases to with
      | none =>
        obtain ⟨cv, h1, h2⟩ := h
        exact ⟨a, _, rfl, h1, by show (2 : Nat) ≤ 2; decide, fun n H' q k e => ⟨q, rfl, cv, .inl (.inl e), k.cond h2⟩⟩
      | some m =>
        obtain ⟨cv, h1, h2⟩ := h
        exact ⟨a, _, rfl, h1, by show (2 : Nat) ≤ 2; decide, fun n H' q k e => ⟨q, rfl, cv, .inl (.inl e), k.cond h2⟩⟩
    | _ => exact absurd ho (by simp [opens, isIf])
  | true =>
    cases s with
    | els to =>
      cases to with
      | none => exact ⟨a, _, rfl, h, by show (1 : Nat) ≤ 2; decide, fun n H' q k e => ⟨q, rfl, .inl (.inl e)⟩⟩
      | some m => exact ⟨a, _, rfl, h, by show (1 : Nat) ≤ 2; decide, fun n H' q k e => ⟨q, rfl, .inl (.inl e)⟩⟩
    | _ => exact absurd ho (by simp [opens, isEls])
theorem paired_set {α β : Type} {R : α → β → Prop} {f : β → β} : ∀ {l : List α} {m : List β} {i : Nat} {a : α} {b : β}, Paired R l m → m[i]? = some b → R a (f b) → Paired R (l.set i a) (m.modify i f)
  | _, _, _, _, _, .nil, h, _ => by simp at h
  | _, _, 0, _, _, .cons e t, h, r => by
    cases (Option.some.inj h)
    exact .cons r t
  | _, _, i + 1, _, _, .cons e t, h, r => .cons e (paired_set t (by simpa using h) r)
end Pf

namespace Pf
open PySem PySem.Spec PyProof.Rows L2 SX RD PR
def sp_add (A : Ad) (K : PySem.W.Frag) : Sp := fun vs H Q _ => ∃ (p la sl bl kn ssl : Addr) (bs ds : List Addr) (lines : List Tx) (off : Nat) (r : Rdr) (sv : V) (s : Stm), vs = [.ref p, sv, vn r.stms.length, .ref kn] ∧
  RdrAt A K H p la sl bl bs lines off r.stms r.blocks r.lab ∧ NamesAt A H kn ssl ds r.scopes ∧ kn ≠ p ∧ (la :: sl :: bl :: ssl :: bs).Nodup ∧ StmAt K H sv s ∧ Rok r ∧ r.stms.length ≤ 1000 ∧ r.blocks.length ≤ 900 ∧
  ((isEls s = true ∨ s = .fin) → r.blocks ≠ []) ∧ (isEls s = true → (r.blocks.getLast?.getD (0, true)).2 = false) ∧ (∀ x, s ≠ .drop x none) ∧
  ∀ (H' : Hp) (bs' ds' : List Addr), RdrAt A K H' p la sl bl bs' lines off (add r r.stms.length s).stms (add r r.stms.length s).blocks (add r r.stms.length s).lab → NamesAt A H' kn ssl ds' (add r r.stms.length s).scopes →
    (la :: sl :: bl :: ssl :: bs').Nodup → (∀ x ∈ bs', x ∈ bs ∨ H x = none) → (∀ x ∈ ds', x ∈ ds ∨ H x = none) → Off (p :: sl :: bl :: ssl :: bs) H H' → Q .non H'
section
variable {P : Program} {w : World} {K : PySem.W.Frag} {mg : Str → Option Value} {base : Heap} {A : Ad}
theorem ok_RoutineReader_add (T : Txt K mg A) : FnOk P w K mg base CX0 2 A.f_RoutineReader_add A.d_RoutineReader_add ["self", "statement", "at", "known"] (sp_add A K) := by
  have G_Names_open_block := ok_Names_open_block (P := P) (w := w) (base := base) T
  have G_Names_close_block := ok_Names_close_block (P := P) (w := w) (base := base) T
  refine T.F_RoutineReader_add.ok sc_RoutineReader_add (fun vs H Q E h => ?_) (fun cdv Ar outer s H vs Q E hr h => ?_)
  · obtain ⟨p, la, sl, bl, kn, ssl, bs, ds, lines, off, r, sv, s, rfl, _⟩ := h
    rfl
  · obtain ⟨p, la, sl, bl, kn, ssl, bs, ds, lines, off, r, sv, s, rfl, hr0, hn, hkp, nd, hs, hok, hz1, hz2, hbl, hels, hdr, q⟩ := h
    refine ⟨_, (pss_cons (ps_set (i := 4) sc_RoutineReader_add.nd rfl (Or.inl rfl) (pe_ix (RD.k_ixT (K := K) rfl) (pv 1) pe_int (fun _ _ => rfl)))
      (RD.pss_cut (ps_if (PW.pt (pw_or (pt_cmpR (RD.k_in (K := K) rfl) (pv 4) (pe_glob (v := .ref A.k_LABEL_LINES) rfl T.k_LABEL_LINES rfl) (by rfl)) (pw_or1 (PW.pt (pw_and (pt_cmpR op_eq (pv 4) pe_str (nomark _)) (pw_and1 (pt_cmpR op_ne (pe_ix (RD.k_ixT (K := K) rfl) (pv 1) pe_int (fun _ _ => rfl)) (RD.pe_gl (by rfl) T.k_HALF) (nomark _))))))))
      (pss_one (RD.k_sfld (K := K) rfl (pv 0) pe_bl rfl))
      pss_nil)
      (pss_cons (ps_expr (RD.k_bm (K := K) rfl PySem.F.plainAttrs_list PySem.F.slot_list_append PySem.F.type_list_append mt_append (RD.k_fld (K := K) rfl (pv 0) rfl) (pa_cons (pv 1) pa_nil)))
      (RD.pss_cut (ps_if (pt_cmpR op_eq (pv 4) pe_str (nomark _))
      (pss_cons (ps_expr (RD.k_bm (K := K) rfl PySem.F.plainAttrs_list PySem.F.slot_list_append PySem.F.type_list_append mt_append (RD.k_fld (K := K) rfl (pv 0) rfl) (pa_cons (pe_lst (pa_cons (pv 2) (pa_cons pe_bl pa_nil))) pa_nil)))
      (pss_one (ps_expr (pe_meth0 (pv 3) T.cl_Names T.m_Names_open_block G_Names_open_block (hr.mono (by decide)) T.b_Names_open_block .nil pass0))))
      pss_nil)
      (RD.pss_cut (ps_if (pt_cmpR op_eq (pv 4) pe_str (nomark _))
      (pss_cons (ps_asg pe_bl (pg_sub (pe_ix (RD.k_ixL (K := K) rfl) (RD.k_fld (K := K) rfl (pv 0) rfl) (pe_un un_neg pe_int) (fun _ _ => rfl)) pe_int set_list))
      (pss_cons (ps_set (i := 5) sc_RoutineReader_add.nd rfl (Or.inl rfl) (pe_ix (RD.k_ixL (K := K) rfl) (pe_ix (RD.k_ixL (K := K) rfl) (RD.k_fld (K := K) rfl (pv 0) rfl) (pe_un un_neg pe_int) (fun _ _ => rfl)) pe_int (fun _ _ => rfl)))
      (pss_cons (ps_asg (pe_tup (StX.pa_star (pe_slice (RD.k_slA (K := K) rfl) (pe_ix (RD.k_ixL (K := K) rfl) (RD.k_fld (K := K) rfl (pv 0) rfl) (pv 5) (fun _ _ => rfl)) po_none (po_some pe_int)) (pa_cons (pe_op op_add (pv 2) pe_int) pa_nil))) (pg_sub (RD.k_fld (K := K) rfl (pv 0) rfl) (pv 5) set_list))
      (pss_cons (ps_asg (pv 2) (pg_sub (pe_ix (RD.k_ixL (K := K) rfl) (RD.k_fld (K := K) rfl (pv 0) rfl) (pe_un un_neg pe_int) (fun _ _ => rfl)) pe_int set_list))
      (pss_cons (ps_expr (pe_meth0 (pv 3) T.cl_Names T.m_Names_close_block G_Names_close_block (hr.mono (by decide)) T.b_Names_close_block .nil pass0))
      (pss_one (ps_expr (pe_meth0 (pv 3) T.cl_Names T.m_Names_open_block G_Names_open_block (hr.mono (by decide)) T.b_Names_open_block .nil pass0))))))))
      pss_nil)
      (pss_one (ps_if (pt_cmpR op_eq (pv 4) pe_str (nomark _))
      (pss_cons (ps_asg (RD.k_bm0 (K := K) rfl PySem.F.plainAttrs_list PySem.F.slot_list_pop PySem.F.type_list_pop mt_pop (RD.k_fld (K := K) rfl (pv 0) rfl)) (pg_unl rfl (pgs_cons (pg_name (i := 5) sc_RoutineReader_add.nd rfl (Or.inl rfl)) (pgs_cons (pg_name (i := 6) sc_RoutineReader_add.nd rfl (Or.inl rfl)) pgs_nil))))
      (pss_cons (ps_asg (pe_tup (StX.pa_star (pe_slice (RD.k_slA (K := K) rfl) (pe_ix (RD.k_ixL (K := K) rfl) (RD.k_fld (K := K) rfl (pv 0) rfl) (pv 5) (fun _ _ => rfl)) po_none (po_some (pe_op op_sub pe_int (pe_callTy RD.k_int (by rfl) T.z_int (by decide +kernel) (pa_cons (pv 6) pa_nil))))) (pa_cons (pv 2) pa_nil))) (pg_sub (RD.k_fld (K := K) rfl (pv 0) rfl) (pv 5) set_list))
      (pss_one (ps_expr (pe_meth0 (pv 3) T.cl_Names T.m_Names_close_block G_Names_close_block (hr.mono (by decide)) T.b_Names_close_block .nil pass0)))))
      pss_nil))))))), ?_⟩
    show tSeq _ _ _ [some (.ref p), some (sv), some (vn r.stms.length), some (.ref kn), none, none, none] H
    obtain ⟨a, xs, rfl, ha⟩ := hs.head
    obtain ⟨dx, ob⟩ := hr0.ob
    walk_at "rd"
    refine RD.ixT ha (show atI _ ((0 : Nat) : Int) = some (vst (tx (headS s))) from at_n rfl) ?_
    walk_at "rd"
    have no : labels s = false → RdrAt A K H p la sl bl bs lines off r.stms r.blocks (r.lab || labels s) ∧ NamesAt A H kn ssl ds r.scopes ∧ StmAt K H (.ref a) s ∧ Off (p :: sl :: bl :: ssl :: bs) H H ∧ ∀ x, H x = none → H x = none := fun e => by
      rw [e, Bool.or_false]
      exact ⟨hr0, hn, hs, Off.refl, fun _ z => z⟩
    have yes : labels s = true → RdrAt A K (upd H p (.ins A.c_RoutineReader dx (rfl_ la sl bl off true))) p la sl bl bs lines off r.stms r.blocks (r.lab || labels s) ∧ NamesAt A (upd H p (.ins A.c_RoutineReader dx (rfl_ la sl bl off true))) kn ssl ds r.scopes ∧ StmAt K (upd H p (.ins A.c_RoutineReader dx (rfl_ la sl bl off true))) (.ref a) s ∧
        Off (p :: sl :: bl :: ssl :: bs) H (upd H p (.ins A.c_RoutineReader dx (rfl_ la sl bl off true))) ∧ ∀ x, upd H p (.ins A.c_RoutineReader dx (rfl_ la sl bl off true)) x = none → H x = none := fun e => by
      rw [e, Bool.or_true]
      have hls := hn.ls
      refine ⟨hr0.labd ob true, hn.keep (fun o h => by rw [upd_ne hkp]; exact h) (fun o h => by rw [upd_ne (fun z => by rw [z, ob] at hls; cases hls)]; exact h) (fun d hd o h => ?_), (Kp.ins ob).stm hs, Off.put List.mem_cons_self, fun x hx => ?_⟩
      · obtain ⟨sc, _, hsc⟩ := paired_mem hn.pr d hd
        have hsc : H d = some (.dK (sc.map kvT)) := hsc
        rw [upd_ne (fun z => by rw [z, ob] at hsc; cases hsc)]
        exact h
      · by_cases z : x = p
        · rw [z, upd_same] at hx; cases hx
        · rw [upd_ne z] at hx; exact hx
    refine RD.cut (fun σ H' => σ = [some (.ref p), some (.ref a), some (vn r.stms.length), some (.ref kn), some (vst (tx (headS s))), none, none] ∧ RdrAt A K H' p la sl bl bs lines off r.stms r.blocks (r.lab || labels s) ∧ NamesAt A H' kn ssl ds r.scopes ∧ StmAt K H' (.ref a) s ∧ Off (p :: sl :: bl :: ssl :: bs) H H' ∧ ∀ x, H' x = none → H x = none) ?_ ?_
    · walk_at "rd"
      refine RD.inT (ls := labL) (by rw [← vsts_labL]; exact T.kt_LABEL_LINES _) ?_
      walk_at "rd"
      refine RD.dec (fun h1 => ?_) (fun h1 => ?_)
      · have el : labels s = true := by
          unfold labL at h1
          obtain ⟨x, hx, ex⟩ := List.mem_map.mp h1
          have ex := tx_inj ex
          subst ex
          cases s <;> first | rfl | (exact absurd hx (by simp [headS]))
        walk_at "rn"
        exact ⟨p, A.c_RoutineReader, dx, _, rfl, ob, T.cl_RoutineReader, T.n_RoutineReader_has_labels, (show (5 : Nat) < 1000 by decide), rfl, yes el⟩
      · walk_at "rd"
        refine RD.dec (fun h2 => ?_) (fun h2 => ?_)
        · have h2 := tx_inj h2
          obtain ⟨x, k, rfl⟩ : ∃ x k, s = .drop x (some k) := by
            cases s with
            | drop x k =>
              cases k with
              | none => exact absurd rfl (hdr x)
              | some k => exact ⟨x, k, rfl⟩
            | _ => exact absurd h2 (by simp [headS])
          obtain ⟨a2, e2, h3⟩ := id hs
          cases e2
          have h3 : SqT K H a [vst (tx "drop"), vst x, vst k] := h3
          have el : labels (.drop x (some k)) = !decide (k = half) := by
            show decide (some k ≠ some half) = _
            by_cases z : k = half
            · simp [z]
            · simp [z]
          walk_at "rd"
          refine RD.ixT h3 (show atI _ ((2 : Nat) : Int) = some (vst k) from at_n rfl) ?_
          walk_at "rd"
          refine RD.ndec (fun h4 => ?_) (fun h4 => ?_)
          · walk_at "rd"
            exact ⟨p, A.c_RoutineReader, dx, _, rfl, ob, T.cl_RoutineReader, T.n_RoutineReader_has_labels, (show (5 : Nat) < 1000 by decide), rfl, yes (by rw [el, decide_eq_false (show ¬ k = half from h4)]; rfl)⟩
          · walk_at "rd"
            exact ⟨rfl, no (by rw [el, decide_eq_true (show k = half from h4)]; rfl)⟩
        · walk_at "rn"
          refine ⟨rfl, no ?_⟩
          cases s with
          | drop x k => exact absurd rfl h2
          | new x k => exact absurd (by unfold labL; exact List.mem_map.mpr ⟨"new", by simp, rfl⟩) h1
          | bear x k v => exact absurd (by unfold labL; exact List.mem_map.mpr ⟨"bear", by simp, rfl⟩) h1
          | round x k v => exact absurd (by unfold labL; exact List.mem_map.mpr ⟨"round", by simp, rfl⟩) h1
          | some_ x k v => exact absurd (by unfold labL; exact List.mem_map.mpr ⟨"some", by simp, rfl⟩) h1
          | _ => rfl
    rintro σ H1 ⟨rfl, hr1, hn1, hs1, of1, fr1⟩
    clear yes no
    obtain ⟨svs, hsl, hsp⟩ := hr1.st
    obtain ⟨dx1, ob1⟩ := hr1.ob
    have lsv := paired_len hsp
    walk_at "rd"
    refine ⟨p, A.c_RoutineReader, dx1, _, _, rfl, ob1, T.cl_RoutineReader, T.n_RoutineReader_statements, rfl, RD.tyL (sq hsl), ?_⟩
    walk_at "rd"
    refine RD.app hsl (szt (by omega)) ?_
    have nd3 : (la :: sl :: bl :: bs).Nodup := nd.sublist (((List.Sublist.refl bs).cons ssl).cons₂ bl |>.cons₂ sl |>.cons₂ la)
    have ssln : ssl ≠ sl := fun z => by
      rw [List.nodup_cons, List.nodup_cons] at nd
      exact nd.2.1 (by rw [← z]; simp)
    have hr2 := hr1.stmd nd3 (svs := svs ++ [.ref a]) (stms2 := r.stms ++ [s]) (pr_app hsp (.cons hs1 .nil))
    have hn2 : NamesAt A (upd H1 sl (.lst (svs ++ [.ref a]))) kn ssl ds r.scopes := by
      obtain ⟨dxn, obn⟩ := hn1.ob
      refine hn1.keep (fun o h => by rw [upd_ne (fun z => by rw [z, hsl] at obn; cases obn)]; exact h) (fun o h => by rw [upd_ne ssln]; exact h) (fun d hd o h => ?_)
      obtain ⟨sc, _, hsc⟩ := paired_mem hn1.pr d hd
      have hsc : H1 d = some (.dK (sc.map kvT)) := hsc
      rw [upd_ne (fun z => by rw [z, hsl] at hsc; cases hsc)]
      exact h
    have of2 := of1.trans (Off.put (M := p :: sl :: bl :: ssl :: bs) (H := H1) (x := sl) (o := .lst (svs ++ [.ref a])) (by simp))
    have fr2 : ∀ x, upd H1 sl (.lst (svs ++ [.ref a])) x = none → H x = none := fun x hx => by
      by_cases z : x = sl
      · rw [z, upd_same] at hx; cases hx
      · rw [upd_ne z] at hx; exact fr1 x hx
    revert hr2 hn2 of2 fr2
    generalize upd H1 sl (.lst (svs ++ [.ref a])) = H2
    intro hr2 hn2 of2 fr2
    clear hr1 hn1 hs1 of1 fr1 hsl hsp ob1 lsv
    by_cases hi : headS s = "if"
    · obtain ⟨c, to, rfl⟩ : ∃ c to, s = .iff c to := by
        cases s with
        | iff c to => exact ⟨c, to, rfl⟩
        | _ => exact absurd hi (by simp [headS])
      refine RD.cut (fun σ H' => σ = [some (.ref p), some (.ref a), some (vn r.stms.length), some (.ref kn), some (vst (tx "if")), none, none] ∧ Q .non H') ?_ ?_
      · walk_at "rd"
        refine RD.decT rfl ?_
        obtain ⟨dx2, ob2⟩ := hr2.ob
        walk_at "rd"
        refine ⟨p, A.c_RoutineReader, dx2, _, _, rfl, ob2, T.cl_RoutineReader, T.n_RoutineReader_blocks, rfl, RD.tyL (sq hr2.bk), ?_⟩
        walk_at "rd"
        refine ⟨few, fun b nb => ?_⟩
        have t3 := same_new (o := .lst [vn r.stms.length, .bl false]) nb
        walk_at "rd"
        refine RD.app (t3 _ _ hr2.bk) (szt (by rw [List.length_map, paired_len hr2.pr]; omega)) ?_
        have hnt := hn2.same t3
        have hrt := hr2.same t3
        obtain ⟨dxn, obn⟩ := hnt.ob
        obtain ⟨dxt, obt⟩ := hrt.ob
        have hbk := hrt.bk
        have slbl : sl ≠ bl ∧ la ≠ bl ∧ ssl ≠ bl ∧ (∀ q ∈ bs, q ≠ bl) ∧ la ≠ ssl ∧ sl ≠ ssl ∧ ∀ q ∈ bs, q ≠ ssl := by
          rw [List.nodup_cons, List.nodup_cons, List.nodup_cons, List.nodup_cons] at nd
          obtain ⟨m1, m2, m3, m4, _⟩ := nd
          refine ⟨fun z => m2 (by rw [z]; simp), fun z => m1 (by rw [z]; simp), fun z => m3 (by rw [← z]; simp), fun q hq z => m3 (by rw [← z]; simp [hq]), fun z => m1 (by rw [z]; simp), fun z => m2 (by rw [z]; simp), fun q hq z => m4 (by rw [← z]; exact hq)⟩
        obtain ⟨z1, z2, z3, z4, z5, z6, z7⟩ := slbl
        have bne : ∀ q o, H2 q = some o → q ≠ b := fun q o e => ne_of_none e nb
        have b_bl : b ≠ bl := (bne _ _ hr2.bk).symm
        have b_ssl : b ≠ ssl := (bne _ _ hn2.ls).symm
        have hn3 : NamesAt A (upd (upd H2 b (.lst [vn r.stms.length, V.bl false])) bl (.lst (bs.map V.ref ++ [V.ref b]))) kn ssl ds r.scopes := by
          refine hnt.keep (fun o h => by rw [upd_ne (fun z => by rw [z, hbk] at obn; cases obn)]; exact h) (fun o h => by rw [upd_ne z3]; exact h) (fun d hd o h => ?_)
          obtain ⟨sc, _, hsc⟩ := paired_mem hnt.pr d hd
          have hsc : _ = some (HO.dK (sc.map kvT)) := hsc
          rw [upd_ne (fun z => by rw [z, hbk] at hsc; cases hsc)]
          exact h
        have bnb : b ∉ bs := fun z => by
          obtain ⟨e, _, he⟩ := paired_mem hr2.pr b z
          exact bne b _ he rfl
        have hr3 : RdrAt A K (upd (upd H2 b (.lst [vn r.stms.length, V.bl false])) bl (.lst (bs.map V.ref ++ [V.ref b]))) p la sl bl (bs ++ [b]) lines off (r.stms ++ [.iff c to]) (r.blocks ++ [(r.stms.length, false)]) (r.lab || labels (.iff c to)) := by
          refine hrt.blkd (Kp.lst hbk) (fun o h => by rw [upd_ne (fun z => by rw [z, hbk] at obt; cases obt)]; exact h) (fun o h => by rw [upd_ne z2]; exact h) (fun o h => by rw [upd_ne z1]; exact h) (by rw [upd_same, List.map_append]; rfl) ?_ ?_
          · exact List.nodup_append.mpr ⟨hr2.nd, by simp, fun x hx y hy e => bnb (by rw [← List.mem_singleton.mp hy, ← e]; exact hx)⟩
          · refine pr_app (bl_keep hrt.pr fun q hq o h => by rw [upd_ne (z4 q hq)]; exact h) (.cons ?_ .nil)
            show upd _ bl _ b = _
            rw [upd_ne b_bl]
            exact upd_same
        have of3 := (of2.trans (Off.same t3)).trans (Off.put (M := p :: sl :: bl :: ssl :: bs) (H := upd H2 b (.lst [vn r.stms.length, V.bl false])) (x := bl) (o := .lst (bs.map V.ref ++ [V.ref b])) (by simp))
        have fr3 : ∀ x, upd (upd H2 b (.lst [vn r.stms.length, V.bl false])) bl (.lst (bs.map V.ref ++ [V.ref b])) x = none → H x = none := fun x hx => by
          by_cases y : x = bl
          · rw [y, upd_same] at hx; cases hx
          · rw [upd_ne y] at hx
            exact fr2 x (t3.free hx)
        revert hr3 hn3 of3 fr3
        generalize upd (upd H2 b (.lst [vn r.stms.length, V.bl false])) bl (.lst (bs.map V.ref ++ [V.ref b])) = H3
        intro hn3 hr3 of3 fr3
        obtain ⟨dx3, ob3⟩ := hn3.ob
        obtain ⟨dxp, obp⟩ := hr3.ob
        walk_at "rd"
        refine ⟨kn, dx3, _, rfl, ob3, rfl, ?_⟩
        have hls3 := hn3.ls
        refine ⟨kn, ssl, ds, r.scopes, rfl, hn3, by rw [paired_len hn3.pr, hok.sc]; omega, fun H4 d ndd hn4 sx => ⟨rfl, ?_⟩⟩
        have k4 : Kp H3 H4 := fun x xs h => by
          rcases h with h | ⟨o, h⟩
          · exact .inl (sx x _ h fun z => by rw [z, hls3] at h; cases h)
          · exact .inr ⟨o, sx x _ h fun z => by rw [z, hls3] at h; cases h⟩
        refine q H4 (bs ++ [b]) (ds ++ [d]) (hr3.keep k4 (fun o h => sx _ _ h (fun z => by rw [z, hls3] at obp; cases obp)) (fun o h => sx _ _ h z5) (fun o h => sx _ _ h z6) (fun o h => sx _ _ h z3.symm) (fun q hq o h => sx _ _ h ?_)) hn4 ?_ ?_ ?_ (of3.trans fun x o e n => sx x o e fun z => n (by rw [z]; simp))
        · rcases List.mem_append.mp hq with hq | hq
          · exact z7 q hq
          · rw [List.mem_singleton.mp hq]; exact b_ssl
        · show ((la :: sl :: bl :: ssl :: bs) ++ [b]).Nodup
          refine List.nodup_append.mpr ⟨nd, by simp, fun x hx y hy e => ?_⟩
          rw [List.mem_singleton.mp hy] at e
          obtain ⟨sv2, hsl2, _⟩ := hr2.st
          rcases List.mem_cons.mp hx with hx | hx
          · exact bne _ _ hr2.li (hx.symm.trans e)
          rcases List.mem_cons.mp hx with hx | hx
          · exact bne _ _ hsl2 (hx.symm.trans e)
          rcases List.mem_cons.mp hx with hx | hx
          · exact bne _ _ hr2.bk (hx.symm.trans e)
          rcases List.mem_cons.mp hx with hx | hx
          · exact bne _ _ hn2.ls (hx.symm.trans e)
          · exact bnb (by rw [← e]; exact hx)
        · intro x hx
          rcases List.mem_append.mp hx with hx | hx
          · exact .inl hx
          · rw [List.mem_singleton.mp hx]; exact .inr (fr2 b nb)
        · intro x hx
          rcases List.mem_append.mp hx with hx | hx
          · exact .inl hx
          · rw [List.mem_singleton.mp hx]; exact .inr (fr3 d ndd)
      · rintro σ H3 ⟨rfl, hq⟩
        refine RD.cut (fun σ H' => σ = [some (.ref p), some (.ref a), some (vn r.stms.length), some (.ref kn), some (vst (tx "if")), none, none] ∧ Q .non H') ?_ ?_
        · walk_at "rd"
          refine RD.decF (fun z => absurd (tx_inj z) (by decide)) ?_
          walk_at "rd"
          exact ⟨rfl, hq⟩
        · rintro σ H4 ⟨rfl, hq⟩
          walk_at "rd"
          refine RD.decF (fun z => absurd (tx_inj z) (by decide)) ?_
          walk_at "rd"
          exact hq
    · refine RD.cut (fun σ H' => σ = [some (.ref p), some (.ref a), some (vn r.stms.length), some (.ref kn), some (vst (tx (headS s))), none, none] ∧ H' = H2) ?_ ?_
      · walk_at "rd"
        refine RD.decF (fun z => hi (tx_inj z)) ?_
        walk_at "rd"
        exact ⟨rfl, rfl⟩
      rintro σ H3 ⟨rfl, rfl⟩
      by_cases he : headS s = "else"
      · obtain ⟨to, rfl⟩ : ∃ to, s = .els to := by
          cases s with
          | els to => exact ⟨to, rfl⟩
          | _ => exact absurd he (by simp [headS])
        obtain ⟨bk, i, hbk⟩ : ∃ bk i, r.blocks = bk ++ [(i, false)] := by
          have z1 := hels rfl
          rcases List.eq_nil_or_concat r.blocks with z | ⟨b0, ⟨i, e⟩, z⟩
          · exact absurd z (hbl (.inl rfl))
          · rw [List.concat_eq_append] at z
            rw [z, List.getLast?_concat] at z1
            have z1 : e = false := z1
            exact ⟨b0, i, by rw [z, z1]⟩
        obtain ⟨t, ht, hto⟩ := hok.bl (i, false) (by rw [hbk]; simp)
        have ht := app_get (t := .els to) ht
        have B : Both A K H (p :: sl :: bl :: ssl :: bs) H3 p la sl bl kn ssl bs ds lines off (r.stms ++ [.els to]) r.blocks (r.lab || labels (.els to)) r.scopes := ⟨hr2, hn2, nd, of2, fr2⟩
        clear hr2 hn2 nd of2 fr2
        rw [hbk] at B
        obtain ⟨bi, b, rfl⟩ : ∃ v0 vl, bs = v0 ++ [vl] := by
          rcases List.eq_nil_or_concat bs with z | ⟨a, b, z⟩
          · have := paired_len B.rd.pr
            rw [z] at this
            exact absurd this (by simp)
          · exact ⟨a, b, by rw [z, List.concat_eq_append]⟩
        obtain ⟨si, sd, hsc⟩ : ∃ v0 vl, r.scopes = v0 ++ [vl] := by
          rcases List.eq_nil_or_concat r.scopes with z | ⟨a, b, z⟩
          · have := hok.sc
            rw [z] at this
            exact absurd this (by simp)
          · exact ⟨a, b, by rw [z, List.concat_eq_append]⟩
        rw [hsc] at B
        obtain ⟨dsi, d, rfl⟩ : ∃ v0 vl, ds = v0 ++ [vl] := by
          rcases List.eq_nil_or_concat ds with z | ⟨a, b, z⟩
          · have := paired_len B.nm.pr
            rw [z] at this
            exact absurd this (by simp)
          · exact ⟨a, b, by rw [z, List.concat_eq_append]⟩
        have ea : PR.add r r.stms.length (Stm.els to) = ⟨(r.stms ++ [Stm.els to]).modify i (retarget (r.stms.length + 1)), bk ++ [(r.stms.length, true)], r.lab || labels (Stm.els to), si ++ [[]]⟩ := by
          simp [PR.add, hbk, hsc]
        rw [ea] at q
        refine RD.cut (fun σ H' => σ = [some (.ref p), some (.ref a), some (vn r.stms.length), some (.ref kn), some (vst (tx "else")), some (vn i), none] ∧ Q .non H') ?_ ?_
        · walk_at "rd"
          refine RD.decT rfl ?_
          walk_at "rd"
          obtain ⟨dx2, ob2⟩ := B.rd.ob
          refine ⟨p, A.c_RoutineReader, dx2, _, _, rfl, ob2, T.cl_RoutineReader, T.n_RoutineReader_blocks, rfl, ?_⟩
          walk_at "rd"
          refine RD.ixL (sq B.rd.bk) (show atI ((bi ++ [b]).map V.ref) (-1) = some (.ref b) by rw [List.map_append]; exact atI_last _ _) ?_
          walk_at "rd"
          refine RD.setLe (ys := [vn i, .bl true]) (paired_split B.rd.pr).2 (show ixN 2 1 = some 1 by decide) rfl ?_
          have B2 := B.blk (by simp) (i, true)
          revert B2
          generalize upd H3 b (.lst [vn (i, true).1, .bl (i, true).2]) = H4
          intro B2
          clear B ob2
          obtain ⟨dx2, ob2⟩ := B2.rd.ob
          walk_at "rd"
          refine ⟨p, A.c_RoutineReader, dx2, _, _, rfl, ob2, T.cl_RoutineReader, T.n_RoutineReader_blocks, rfl, ?_⟩
          walk_at "rd"
          refine RD.ixL (sq B2.rd.bk) (show atI ((bi ++ [b]).map V.ref) (-1) = some (.ref b) by rw [List.map_append]; exact atI_last _ _) ?_
          walk_at "rd"
          refine RD.ixL (sq (paired_split B2.rd.pr).2) (show atI _ ((0 : Nat) : Int) = some (vn i) from at_n rfl) ?_
          walk_at "rd"
          refine ⟨p, A.c_RoutineReader, dx2, _, _, rfl, ob2, T.cl_RoutineReader, T.n_RoutineReader_statements, rfl, ?_⟩
          walk_at "rd"
          obtain ⟨svs, hsl, hsp⟩ := B2.rd.st
          obtain ⟨sv0, hsv⟩ : ∃ v, svs[i]? = some v := ⟨_, List.getElem?_eq_getElem (by rw [paired_len hsp]; exact (List.getElem?_eq_some_iff.mp ht).1)⟩
          obtain ⟨ta, txs, rfl, hta, hl2, hre⟩ := head_cut hto (paired_at hsp hsv ht)
          refine RD.ixL (sq hsl) (at_n hsv) ?_
          walk_at "rd"
          refine RD.slA hta fun H5 c s5 hc => ?_
          walk_at "rd"
          refine ⟨c, _, rfl, .inl hc, ?_⟩
          walk_at "rd"
          refine ⟨szl (by rw [List.length_append]; exact Nat.le_trans (Nat.add_le_add_right hl2 1) (by decide)), fun n5 nn => ?_⟩
          have s6 := same_new (o := .tup (cutV txs none (some 2) ++ [vn (r.stms.length + 1)])) nn
          have B6 := (B2.same s5).same s6
          obtain ⟨dx6, ob6⟩ := B6.rd.ob
          walk_at "rd"
          refine ⟨p, A.c_RoutineReader, dx6, _, _, rfl, ob6, T.cl_RoutineReader, T.n_RoutineReader_statements, rfl, ?_⟩
          walk_at "rd"
          have lis : i < svs.length := by rw [paired_len hsp]; exact (List.getElem?_eq_some_iff.mp ht).1
          refine RD.setLe (ys := svs.set i (.ref n5)) ((s5.trans s6) _ _ hsl) (RD.ixN_n lis) rfl ?_
          have B7 := B6.stm (by simp) (paired_set (paired_imp (fun _ _ z => (Kp.same (s5.trans s6)).stm z) hsp) ht (hre (r.stms.length + 1) _ n5 (Kp.same (s5.trans s6)) upd_same))
          obtain ⟨dx7, ob7⟩ := B7.rd.ob
          walk_at "rd"
          refine ⟨p, A.c_RoutineReader, dx7, _, _, rfl, ob7, T.cl_RoutineReader, T.n_RoutineReader_blocks, rfl, ?_⟩
          walk_at "rd"
          refine RD.ixL (sq B7.rd.bk) (show atI ((bi ++ [b]).map V.ref) (-1) = some (.ref b) by rw [List.map_append]; exact atI_last _ _) ?_
          walk_at "rd"
          refine RD.setLe (ys := [vn r.stms.length, .bl true]) (paired_split B7.rd.pr).2 (show ixN 2 0 = some 0 by decide) rfl ?_
          have B8 := B7.blk (by simp) (r.stms.length, true)
          obtain ⟨dx8, ob8⟩ := B8.nm.ob
          walk_at "rd"
          refine ⟨kn, dx8, _, rfl, ob8, rfl, ?_⟩
          refine ⟨kn, ssl, d, dsi, si, sd, rfl, B8.nm, fun H9 hn9 sx9 => ?_⟩
          have B9 := B8.scp (by simp) hn9 sx9
          obtain ⟨dx9, ob9⟩ := B9.nm.ob
          walk_at "rd"
          refine ⟨kn, dx9, _, rfl, ob9, rfl, ?_⟩
          refine ⟨kn, ssl, dsi, si, rfl, B9.nm, by have := hok.sc; rw [hsc, List.length_append] at this; rw [paired_len B9.nm.pr]; simp at this; omega, fun H10 dn ndn hn10 sx10 => ⟨rfl, ?_⟩⟩
          have B10 := B9.scp (by simp) hn10 sx10
          refine q H10 (bi ++ [b]) (dsi ++ [dn]) B10.rd B10.nm B10.nd (fun x hx => .inl hx) (fun x hx => ?_) B10.of
          rcases List.mem_append.mp hx with hx | hx
          · exact .inl (List.mem_append.mpr (.inl hx))
          · rw [List.mem_singleton.mp hx]; exact .inr (B9.fr _ ndn)
        · rintro σ H4 ⟨rfl, hq⟩
          walk_at "rd"
          refine RD.decF (fun z => absurd (tx_inj z) (by decide)) ?_
          walk_at "rd"
          exact hq
      · refine RD.cut (fun σ H' => σ = [some (.ref p), some (.ref a), some (vn r.stms.length), some (.ref kn), some (vst (tx (headS s))), none, none] ∧ H' = H3) ?_ ?_
        · walk_at "rd"
          refine RD.decF (fun z => he (tx_inj z)) ?_
          walk_at "rd"
          exact ⟨rfl, rfl⟩
        rintro σ H4 ⟨rfl, rfl⟩
        by_cases hf : headS s = "end"
        · obtain rfl : s = .fin := by
            cases s with
            | fin => rfl
            | _ => exact absurd hf (by simp [headS])
          obtain ⟨bk, i, e, hbk⟩ : ∃ bk i e, r.blocks = bk ++ [(i, e)] := by
            rcases List.eq_nil_or_concat r.blocks with z | ⟨b0, ⟨i, e⟩, z⟩
            · exact absurd z (hbl (.inr rfl))
            · exact ⟨b0, i, e, by rw [z, List.concat_eq_append]⟩
          obtain ⟨t, ht, hto⟩ := hok.bl (i, e) (by rw [hbk]; simp)
          have ht := app_get (t := .fin) ht
          have B : Both A K H (p :: sl :: bl :: ssl :: bs) H4 p la sl bl kn ssl bs ds lines off (r.stms ++ [.fin]) r.blocks (r.lab || labels .fin) r.scopes := ⟨hr2, hn2, nd, of2, fr2⟩
          clear hr2 hn2 nd of2 fr2
          rw [hbk] at B
          obtain ⟨bi, b, rfl⟩ : ∃ v0 vl, bs = v0 ++ [vl] := by
            rcases List.eq_nil_or_concat bs with z | ⟨a, b, z⟩
            · have := paired_len B.rd.pr
              rw [z] at this
              exact absurd this (by simp)
            · exact ⟨a, b, by rw [z, List.concat_eq_append]⟩
          obtain ⟨si, sd, hsc⟩ : ∃ v0 vl, r.scopes = v0 ++ [vl] := by
            rcases List.eq_nil_or_concat r.scopes with z | ⟨a, b, z⟩
            · have := hok.sc
              rw [z] at this
              exact absurd this (by simp)
            · exact ⟨a, b, by rw [z, List.concat_eq_append]⟩
          rw [hsc] at B
          obtain ⟨dsi, d, rfl⟩ : ∃ v0 vl, ds = v0 ++ [vl] := by
            rcases List.eq_nil_or_concat ds with z | ⟨a, b, z⟩
            · have := paired_len B.nm.pr
              rw [z] at this
              exact absurd this (by simp)
            · exact ⟨a, b, by rw [z, List.concat_eq_append]⟩
          have ea : PR.add r r.stms.length Stm.fin = ⟨(r.stms ++ [Stm.fin]).modify i (retarget r.stms.length), bk, r.lab || labels Stm.fin, si⟩ := by
            simp [PR.add, hbk, hsc]
          rw [ea] at q
          walk_at "rd"
          refine RD.decT rfl ?_
          walk_at "rd"
          obtain ⟨dx2, ob2⟩ := B.rd.ob
          refine ⟨p, A.c_RoutineReader, dx2, _, _, rfl, ob2, T.cl_RoutineReader, T.n_RoutineReader_blocks, rfl, RD.tyL (sq B.rd.bk), ?_⟩
          walk_at "rd"
          refine RD.pop (xs := bi.map V.ref) (y := .ref b) (by rw [B.rd.bk, List.map_append]; rfl) ?_
          have hb := (paired_split B.rd.pr).2
          have hbl2 : bl ≠ b := fun z => by
            have := B.nd
            rw [List.nodup_cons, List.nodup_cons, List.nodup_cons] at this
            exact this.2.2.1 (by rw [z]; simp)
          have B2 := B.pop (by simp)
          obtain ⟨dx2, ob2⟩ := B2.rd.ob
          refine RD.unl2p (sq (show upd H4 bl _ b = some (.lst [vn i, .bl e]) by rw [upd_ne hbl2.symm]; exact hb)) ?_
          walk_at "rd"
          refine ⟨p, A.c_RoutineReader, dx2, _, _, rfl, ob2, T.cl_RoutineReader, T.n_RoutineReader_statements, rfl, ?_⟩
          walk_at "rd"
          obtain ⟨svs, hsl, hsp⟩ := B2.rd.st
          obtain ⟨sv0, hsv⟩ : ∃ v, svs[i]? = some v := ⟨_, List.getElem?_eq_getElem (by rw [paired_len hsp]; exact (List.getElem?_eq_some_iff.mp ht).1)⟩
          obtain ⟨ta, txs, rfl, hta, hl2, hre⟩ := head_cut hto (paired_at hsp hsv ht)
          refine RD.ixL (sq hsl) (at_n hsv) ?_
          walk_at "rd"
          refine .inr ⟨e, rfl, ?_⟩
          walk_at "rd"
          refine RD.slA hta fun H5 c s5 hc => ?_
          walk_at "rd"
          refine ⟨c, _, rfl, .inl hc, ?_⟩
          walk_at "rd"
          refine ⟨szl (by rw [List.length_append]; exact Nat.le_trans (Nat.add_le_add_right hl2 1) (by decide)), fun n5 nn => ?_⟩
          have s6 := same_new (o := .tup (cutV txs none (some (2 - (if e = true then 1 else 0))) ++ [vn r.stms.length])) nn
          have B6 := (B2.same s5).same s6
          obtain ⟨dx6, ob6⟩ := B6.rd.ob
          walk_at "rd"
          refine ⟨p, A.c_RoutineReader, dx6, _, _, rfl, ob6, T.cl_RoutineReader, T.n_RoutineReader_statements, rfl, ?_⟩
          walk_at "rd"
          have lis : i < svs.length := by rw [paired_len hsp]; exact (List.getElem?_eq_some_iff.mp ht).1
          refine RD.setLe (ys := svs.set i (.ref n5)) ((s5.trans s6) _ _ hsl) (RD.ixN_n lis) rfl ?_
          have B7 := B6.stm (by simp) (paired_set (paired_imp (fun _ _ z => (Kp.same (s5.trans s6)).stm z) hsp) ht (hre r.stms.length _ n5 (Kp.same (s5.trans s6)) upd_same))
          obtain ⟨dx8, ob8⟩ := B7.nm.ob
          walk_at "rd"
          refine ⟨kn, dx8, _, rfl, ob8, rfl, ?_⟩
          refine ⟨kn, ssl, d, dsi, si, sd, rfl, B7.nm, fun H9 hn9 sx9 => ?_⟩
          have B9 := B7.scp (by simp) hn9 sx9
          exact q H9 bi dsi B9.rd B9.nm B9.nd (fun x hx => .inl (List.mem_append.mpr (.inl hx))) (fun x hx => .inl (List.mem_append.mpr (.inl hx))) B9.of
        · walk_at "rd"
          refine RD.decF (fun z => hf (tx_inj z)) ?_
          walk_at "rd"
          have ea : add r r.stms.length s = ⟨r.stms ++ [s], r.blocks, r.lab || labels s, r.scopes⟩ := by
            cases s with
            | iff c t => exact absurd rfl hi
            | els t => exact absurd rfl he
            | fin => exact absurd rfl hf
            | _ => rfl
          rw [ea] at q
          exact q H4 bs ds hr2 hn2 nd (fun x hx => .inl hx) (fun x hx => .inl hx) of2
end
end Pf

namespace Pf
open PySem PySem.Spec PyProof.Rows L2 SX RD PR
theorem Rz.past {A : Ad} {E : XK} {F G : Hp → Prop} (h : ∀ H', G H' → F H') : ∀ {e : Err}, Rz A E F e → Rz A E G e
  | .bad _, r => fun H' dd g => r H' dd (h H' g)
  | .unk _ _, r => fun H' dd g => r H' dd (h H' g)
  | .knd _ _, r => fun H' dd g => r H' dd (h H' g)
theorem Off.kp {M : List Addr} {H H' : Hp} (f : Off M H H') (h : ∀ x ∈ M, ∀ xs, ¬ L2.Rd H x (.tup xs)) : Kp H H' := fun a xs e => by
  have ne : a ∉ M := fun z => h a z xs e
  rcases e with e | ⟨o, e⟩
  · exact .inl (f a _ e ne)
  · exact .inr ⟨o, f a _ e ne⟩
theorem no_tup_lst {H : Hp} {a : Addr} {zs : List V} (h : H a = some (.lst zs)) (xs : List V) : ¬ L2.Rd H a (.tup xs) := fun e => by
  rcases e with e | ⟨o, e⟩
  · rw [h] at e; cases e
  · rw [h] at e; cases e
theorem no_tup_ins {H : Hp} {a C dx : Addr} {fs : List (Str × V)} (h : H a = some (.ins C dx fs)) (xs : List V) : ¬ L2.Rd H a (.tup xs) := fun e => by
  rcases e with e | ⟨o, e⟩
  · rw [h] at e; cases e
  · rw [h] at e; cases e
theorem isFree_scopes {sc sc2 : List PR.Scope} {f : Form} (h : isFree sc f = true) (h2 : ∀ x ∈ sc2, x = [] ∨ x ∈ sc) : ∀ s ∈ sc2, ∀ x ∈ f.bound.map Prod.fst, x ∉ s.map Prod.fst := by
  intro s hs x hx
  rcases h2 s hs with z | z
  · rw [z]; simp
  · unfold isFree at h
    rw [List.all_eq_true] at h
    obtain ⟨b, hb, eb⟩ := List.mem_map.mp hx
    have := h b hb
    rw [Option.isNone_iff_eq_none] at this
    rw [← eb]
    exact kind_none this s z
def sp_line (A : Ad) (K : PySem.W.Frag) : Sp := fun vs H Q E => ∃ (p la sl bl kn ssl : Addr) (bs ds : List Addr) (lines : List Tx) (off : Nat) (r : Rdr) (line : Tx), vs = [.ref p, vn r.stms.length, .ref kn] ∧
  RdrAt A K H p la sl bl bs lines off r.stms r.blocks r.lab ∧ NamesAt A H kn ssl ds r.scopes ∧ kn ≠ p ∧ (la :: sl :: bl :: ssl :: bs).Nodup ∧ Rin r ∧ lines[r.stms.length]? = some line ∧ line.length ≤ 10000 ∧ r.stms.length ≤ 1000 ∧
  (∀ r2, readLine r lines.length off r.stms.length line = .ok r2 → ∀ (H' : Hp) (bs' ds' : List Addr), RdrAt A K H' p la sl bl bs' lines off r2.stms r2.blocks r2.lab → NamesAt A H' kn ssl ds' r2.scopes →
    (la :: sl :: bl :: ssl :: bs').Nodup → (∀ x ∈ bs', x ∈ bs ∨ H x = none) → (∀ x ∈ ds', x ∈ ds ∨ H x = none) → Off (p :: sl :: bl :: ssl :: (bs ++ ds)) H H' → Q .non H') ∧
  ∀ e, readLine r lines.length off r.stms.length line = .error e → Rz A E (Same H) e
section
variable {P : Program} {w : World} {K : PySem.W.Frag} {mg : Str → Option Value} {base : Heap} {A : Ad}
theorem ok_RoutineReader_read_line (T : Txt K mg A) : FnOk P w K mg base (L2.CX P w) 7 A.f_RoutineReader_read_line A.d_RoutineReader_read_line ["self", "at", "known"] (sp_line A K) := by
  have G_form_of := ok_form_of (P := P) (w := w) (base := base) T
  have G_RoutineReader_may_stand := ok_RoutineReader_may_stand (P := P) (w := w) (base := base) T
  have G_Form_is_good := ok_Form_is_good (P := P) (w := w) (base := base) T
  have G_BadLine_d_initd_ := ok_BadLine_d_initd_ (P := P) (w := w) (base := base) T
  have G_Names_is_free := ok_Names_is_free (P := P) (w := w) (base := base) T
  have G_Names_check := ok_Names_check (P := P) (w := w) (base := base) T
  have G_RoutineReader_resolved := ok_RoutineReader_resolved (P := P) (w := w) (base := base) T
  have G_RoutineReader_add := ok_RoutineReader_add (P := P) (w := w) (base := base) T
  have G_Names_bind := ok_Names_bind (P := P) (w := w) (base := base) T
  refine T.F_RoutineReader_read_line.okX sc_RoutineReader_read_line (fun vs H Q E h => ?_) (fun cdv Ar outer s H vs Q E hr h => ?_)
  · obtain ⟨p, la, sl, bl, kn, ssl, bs, ds, lines, off, r, line, rfl, _⟩ := h
    rfl
  · obtain ⟨p, la, sl, bl, kn, ssl, bs, ds, lines, off, r, line, rfl, hr0, hn, hkp, nd, hin, hli, hll, hlz, qN, qE⟩ := h
    refine ⟨_, (pss_cons (ps_set (i := 3) sc_RoutineReader_read_line.nd rfl (Or.inl rfl) (pe_op op_add (pe_op op_add (RD.k_fld (K := K) rfl (pv 0) rfl) (pv 1)) pe_int))
      (pss_cons (ps_set (i := 4) sc_RoutineReader_read_line.nd rfl (Or.inl rfl) (pe_call G_form_of (hr.mono (by decide)) (by rfl) T.g_form_of T.F_form_of.kp T.b_form_of .nil pass0 (pa_cons (pe_ix (RD.k_ixL (K := K) rfl) (RD.k_fld (K := K) rfl (pv 0) rfl) (pv 1) (fun _ _ => rfl)) pa_nil)))
      (RD.pss_cut (ps_if (PW.pt (pw_or (pt_cmpR op_isN (pv 4) pe_non (nomark _)) (pw_or (pt_cmpR op_gt (pv 1) (RD.pe_glI (by rfl) T.k_MOST_LINES) (nomark _)) (pw_or (pt_not (pt_val (pe_meth0 (pv 4) T.cl_Form T.m_Form_is_good G_Form_is_good (hr.mono (by decide)) T.b_Form_is_good .nil pass0))) (pw_or1 (pt_not (pt_val (pe_meth (pv 0) T.cl_RoutineReader T.m_RoutineReader_may_stand G_RoutineReader_may_stand (hr.mono (by decide)) T.b_RoutineReader_may_stand .nil pass0 (pa_cons (RD.k_fld (K := K) rfl (pv 4) rfl) (pa_cons (pv 1) pa_nil))))))))))
      (pss_one (ps_raise rfl (takes_of rfl rfl rfl rfl) (pmk_oex T.oex_BadLine T.ini_BadLine T.tin_BadLine G_BadLine_d_initd_ (hr.mono (by decide)) T.b_BadLine_d_initd_ .nil pass0 (by rfl) T.g_BadLine (pa_cons (pv 3) pa_nil))))
      pss_nil)
      (RD.pss_cut (ps_if (pt_not (pt_val (pe_meth (pv 2) T.cl_Names T.m_Names_is_free G_Names_is_free (hr.mono (by decide)) T.b_Names_is_free .nil pass0 (pa_cons (pv 4) pa_nil))))
      (pss_one (ps_raise rfl (takes_of rfl rfl rfl rfl) (pmk_oex T.oex_BadLine T.ini_BadLine T.tin_BadLine G_BadLine_d_initd_ (hr.mono (by decide)) T.b_BadLine_d_initd_ .nil pass0 (by rfl) T.g_BadLine (pa_cons (pv 3) pa_nil))))
      pss_nil)
      (pss_cons (ps_expr (pe_meth (pv 2) T.cl_Names T.m_Names_check G_Names_check (hr.mono (by decide)) T.b_Names_check .nil (passes_call (takes_of rfl rfl rfl rfl) (fun _ _ _ _ h => h)) (pa_cons (pv 4) (pa_cons (pv 3) pa_nil))))
      (pss_cons (ps_set (i := 5) sc_RoutineReader_read_line.nd rfl (Or.inl rfl) (pe_meth (pv 0) T.cl_RoutineReader T.m_RoutineReader_resolved G_RoutineReader_resolved (hr.mono (by decide)) T.b_RoutineReader_resolved .nil pass0 (pa_cons (RD.k_fld (K := K) rfl (pv 4) rfl) (pa_cons (pv 2) pa_nil))))
      (RD.pss_cut (ps_if (PW.pt (pw_and (pt_cmpR op_eq (pe_ix (RD.k_ixT (K := K) rfl) (pv 5) pe_int (fun _ _ => rfl)) pe_str (nomark _)) (pw_and (pt_cmpR op_eq (pe_ix (RD.k_ixT (K := K) rfl) (pv 5) pe_int (fun _ _ => rfl)) (RD.pe_gl (by rfl) T.k_HALF) (nomark _)) (pw_and1 (pt_val (RD.k_fld (K := K) rfl (pv 0) rfl))))))
      (pss_one (ps_raise rfl (takes_of rfl rfl rfl rfl) (pmk_oex T.oex_BadLine T.ini_BadLine T.tin_BadLine G_BadLine_d_initd_ (hr.mono (by decide)) T.b_BadLine_d_initd_ .nil pass0 (by rfl) T.g_BadLine (pa_cons (pv 3) pa_nil))))
      pss_nil)
      (PSs.nox (pss_cons (ps_expr (pe_meth (pv 0) T.cl_RoutineReader T.m_RoutineReader_add G_RoutineReader_add (hr.mono (by decide)) T.b_RoutineReader_add .nil pass0 (pa_cons (pv 5) (pa_cons (pv 1) (pa_cons (pv 2) pa_nil)))))
      (pss_one (ps_expr (pe_meth (pv 2) T.cl_Names T.m_Names_bind G_Names_bind (hr.mono (by decide)) T.b_Names_bind .nil pass0 (pa_cons (pv 4) pa_nil))))))))))))), ?_⟩
    show tSeq _ _ _ [some (.ref p), some (vn r.stms.length), some (.ref kn), none, none, none] H
    obtain ⟨dx, ob⟩ := hr0.ob
    walk_at "rd"
    refine ⟨p, A.c_RoutineReader, dx, _, _, rfl, ob, T.cl_RoutineReader, T.n_RoutineReader_offset, rfl, ?_⟩
    walk_at "rd"
    refine ⟨p, A.c_RoutineReader, dx, _, _, rfl, ob, T.cl_RoutineReader, T.n_RoutineReader_lines, rfl, ?_⟩
    walk_at "rd"
    refine RD.ixL (sq hr0.li) (at_n (show (vsts lines)[r.stms.length]? = some (vst line) by unfold vsts; rw [List.getElem?_map, hli]; rfl)) ?_
    walk_at "rd"
    refine ⟨line, rfl, hll, fun H1 v s1 hf => ?_⟩
    walk_at "rd"
    refine RD.cut (fun σ H' => σ = [some (.ref p), some (vn r.stms.length), some (.ref kn), some (vn (off + r.stms.length + 1)), some v, none] ∧ Same H H' ∧ ∃ f, formOf line = some f ∧ FormAt A K H H' v f ∧ f.good = true ∧ mayStand r lines.length r.stms.length f.stm = true ∧ r.stms.length ≤ 60) ?_ ?_
    · walk_at "rd"
      refine ⟨rfl, ?_⟩
      walk_at "rd"
      cases hfo : formOf line with
      | none =>
        rw [hfo] at hf
        have hf : v = .non := hf
        subst hf
        refine RD.decT rfl ?_
        walk_at "rd"
        show tMkO A.c_BadLine (sp_exi1 A.c_BadLine "line") [] _ _ _ _
        show tCons _ _ _ _ _
        walk_at "rd"
        refine RD.mk1 fun dd ndd => ?_
        exact qE (.bad (off + r.stms.length + 1)) (by unfold readLine; rw [hfo]) _ dd (s1.trans (same_new ndd)) upd_same
      | some f =>
        rw [hfo] at hf
        have hf : FormAt A K H H1 v f := hf
        obtain ⟨fp, fdx, sv, fu, fb, rfl, z1, z2, z3, hfp, hfs, hfu, hfb⟩ := id hf
        have fo := formOf_ok hfo
        have sml : Sml f := ⟨fun u hu => Nat.le_trans (fo.us u hu) hll, fun b hb => Nat.le_trans (fo.bd b hb) hll, Nat.le_trans fo.lu (by decide), Nat.le_trans fo.lb (by decide)⟩
        have er : (decide (60 < r.stms.length) || (!f.good || (!mayStand r lines.length r.stms.length f.stm || !isFree r.scopes f))) = true → readLine r lines.length off r.stms.length line = .error (.bad (off + r.stms.length + 1)) := fun e => by
          unfold readLine
          rw [hfo]
          exact if_pos e
        refine RD.decF nofun ?_
        walk_at "rd"
        refine RD.dec (fun h1 => ?_) (fun h1 => ?_)
        · walk_at "rd"
          show tMkO A.c_BadLine (sp_exi1 A.c_BadLine "line") [] _ _ _ _
          show tCons _ _ _ _ _
          walk_at "rd"
          refine RD.mk1 fun dd ndd => ?_
          exact qE (.bad (off + r.stms.length + 1)) (er (by rw [decide_eq_true (show 60 < r.stms.length by omega)]; rfl)) _ dd (s1.trans (same_new ndd)) upd_same
        · have h60 : r.stms.length ≤ 60 := by omega
          walk_at "rd"
          refine ⟨fp, fdx, _, rfl, hfp, rfl, ?_⟩
          refine ⟨H, .ref fp, f, rfl, hf, sml, fun H2 s2 => ?_⟩
          walk_at "rd"
          cases hg : f.good with
          | false =>
            walk_at "rn"
            show tMkO A.c_BadLine (sp_exi1 A.c_BadLine "line") [] _ _ _ _
            show tCons _ _ _ _ _
            walk_at "rd"
            refine RD.mk1 fun dd ndd => ?_
            exact qE (.bad (off + r.stms.length + 1)) (er (by rw [hg]; simp)) _ dd ((s1.trans s2).trans (same_new ndd)) upd_same
          | true =>
            have hr2 := (hr0.same s1).same s2
            obtain ⟨dx2, ob2⟩ := hr2.ob
            walk_at "rn"
            refine ⟨p, dx2, _, rfl, ob2, rfl, ?_⟩
            walk_at "rd"
            refine ⟨fp, A.c_Form, fdx, _, _, rfl, s2 _ _ hfp, T.cl_Form, T.n_Form_statement, rfl, ?_⟩
            walk_at "rd"
            refine ⟨p, la, sl, bl, bs, lines, off, r, sv, f.stm, r.stms.length, rfl, hr2, (Kp.same s2).stm hfs, hin.ne, (fun c k z => by have := fo.fr; rw [z] at this; cases this), fun H3 s3 => ?_⟩
            walk_at "rd"
            cases hm : mayStand r lines.length r.stms.length f.stm with
            | false =>
              walk_at "rn"
              show tMkO A.c_BadLine (sp_exi1 A.c_BadLine "line") [] _ _ _ _
              show tCons _ _ _ _ _
              walk_at "rd"
              refine RD.mk1 fun dd ndd => ?_
              exact qE (.bad (off + r.stms.length + 1)) (er (by rw [hm]; simp)) _ dd (((s1.trans s2).trans s3).trans (same_new ndd)) upd_same
            | true =>
              walk_at "rn"
              exact ⟨rfl, (s1.trans s2).trans s3, f, rfl, (hf.same s2).same s3, hg, hm, h60⟩
    · rintro σ H2 ⟨rfl, s2, f, ef, hf2, hg, hm, h60⟩
      obtain ⟨fp, fdx, sv, fu, fb, rfl, z1, z2, z3, hfp, hfs, hfu, hfb⟩ := id hf2
      have fo := formOf_ok ef
      have sml : Sml f := ⟨fun u hu => Nat.le_trans (fo.us u hu) hll, fun b hb => Nat.le_trans (fo.bd b hb) hll, Nat.le_trans fo.lu (by decide), Nat.le_trans fo.lb (by decide)⟩
      have er : readLine r lines.length off r.stms.length line = if (!isFree r.scopes f) = true then .error (.bad (off + r.stms.length + 1)) else match check r.scopes (off + r.stms.length + 1) f.uses with
          | some e => .error e
          | none =>
            if isDropH r.lab (resolve r.scopes f.stm) = true then .error (.bad (off + r.stms.length + 1))
            else let r2 := PR.add r r.stms.length (resolve r.scopes f.stm); .ok { r2 with scopes := bindS r2.scopes f.bound } := by
        unfold readLine
        rw [ef]
        simp only [hg, hm, decide_eq_false (show ¬ 60 < r.stms.length by omega), Bool.not_true, Bool.false_or]
        all_goals rfl
      have hn2 := hn.same s2
      obtain ⟨dxn, obn⟩ := hn2.ob
      walk_at "rd"
      refine RD.cut (fun σ H' => σ = [some (.ref p), some (vn r.stms.length), some (.ref kn), some (vn (off + r.stms.length + 1)), some (.ref fp), none] ∧ Same H2 H' ∧ isFree r.scopes f = true) ?_ ?_
      · walk_at "rd"
        refine ⟨kn, dxn, _, rfl, obn, rfl, ?_⟩
        walk_at "rd"
        refine ⟨kn, ssl, ds, r.scopes, H, .ref fp, f, rfl, hn2, hf2, sml, fun H3 s3 => ?_⟩
        walk_at "rd"
        cases hfr : isFree r.scopes f with
        | false =>
          walk_at "rn"
          show tMkO A.c_BadLine (sp_exi1 A.c_BadLine "line") [] _ _ _ _
          show tCons _ _ _ _ _
          walk_at "rd"
          refine RD.mk1 fun dd ndd => ?_
          exact qE (.bad (off + r.stms.length + 1)) (er.trans (if_pos (by rw [hfr]; rfl))) _ dd ((s2.trans s3).trans (same_new ndd)) upd_same
        | true =>
          walk_at "rn"
          exact ⟨rfl, s3, rfl⟩
      rintro σ H3 ⟨rfl, s3, hfr⟩
      have er := er.trans (if_neg (by rw [hfr]; simp))
      have s23 := s2.trans s3
      have hf3 := hf2.same s3
      have hn3 := hn2.same s3
      obtain ⟨dxn, obn⟩ := hn3.ob
      walk_at "rd"
      refine ⟨kn, dxn, _, rfl, obn, rfl, ?_⟩
      walk_at "rd"
      refine ⟨kn, ssl, ds, r.scopes, H, .ref fp, f, off + r.stms.length + 1, rfl, hn3, hf3, sml, fun hc H4 s4 => ?_, fun e he => ?_⟩
      · have er : readLine r lines.length off r.stms.length line = if isDropH r.lab (resolve r.scopes f.stm) = true then .error (.bad (off + r.stms.length + 1))
            else let r2 := PR.add r r.stms.length (resolve r.scopes f.stm); .ok { r2 with scopes := bindS r2.scopes f.bound } := by
          rw [er, hc]
        have s4' := s23.trans s4
        have hr4 := hr0.same s4'
        have hn4 := hn.same s4'
        have s34 := s3.trans s4
        obtain ⟨dx4, ob4⟩ := hr4.ob
        walk_at "rd"
        refine ⟨p, dx4, _, rfl, ob4, rfl, ?_⟩
        walk_at "rd"
        refine ⟨fp, A.c_Form, fdx, _, _, rfl, s34 _ _ hfp, T.cl_Form, T.n_Form_statement, rfl, ?_⟩
        walk_at "rd"
        have hk : ∀ x, named f.stm = some x → (kindOf r.scopes x).isSome = true := fun x hx => check_some hc x (fo.nm x hx)
        refine ⟨p, kn, ssl, ds, r.scopes, sv, f.stm, rfl, hn4, (Kp.same s34).stm hfs, fun x e => hk x (by rw [e]; rfl), fun x v e => hk x (by rw [e]; rfl), fun x k z => (by have := fo.fr; rw [z] at this; cases this), fun x k v z => (by have := fo.fr; rw [z] at this; cases this), fun H5 v5 s5 hs5 => ?_⟩
        have hdr : ∀ x, resolve r.scopes f.stm ≠ .drop x none := fun x z => by
          cases hst : f.stm with
          | drop y k =>
            rw [hst] at z
            have := hk y (by rw [hst]; rfl)
            have z : Stm.drop y (kindOf r.scopes y) = .drop x none := z
            injection z with _ z
            rw [z] at this
            cases this
          | _ => rw [hst] at z; cases z
        have s45 := s4'.trans s5
        have hr5 := hr0.same s45
        have hn5 := hn.same s45
        obtain ⟨dx5, ob5⟩ := hr5.ob
        obtain ⟨dxn5, obn5⟩ := hn5.ob
        have hfb5 : PairsA K H5 fb f.bound := hfb.same (s34.trans s5)
        have hfp5 := (s34.trans s5) _ _ hfp
        have hls := resolve_els r.scopes f.stm
        have hfi := @resolve_fin r.scopes f.stm
        have nx := @Rin.next r lines.length line f hin ef hm
        have asc := add_scopes r r.stms.length (resolve r.scopes f.stm)
        have rok := hin.ok.add (resolve r.scopes f.stm) (fun e => may_ne hm (e.imp (fun e => by rwa [resolve_els] at e) resolve_fin))
        have hbl : (isEls (resolve r.scopes f.stm) = true ∨ resolve r.scopes f.stm = .fin) → r.blocks ≠ [] := fun e => may_ne hm (e.imp (fun e => by rwa [hls] at e) hfi)
        have hel : isEls (resolve r.scopes f.stm) = true → (r.blocks.getLast?.getD (0, true)).2 = false := fun e => may_els hm (by rwa [hls] at e)
        revert hs5 er hdr hbl hel nx asc rok
        generalize resolve r.scopes f.stm = rs
        intro er hs5 hdr nx asc rok hbl hel
        obtain ⟨a5, xs5, rfl, ha5⟩ := hs5.head
        walk_at "rd"
        refine RD.cut (fun σ H' => σ = [some (.ref p), some (vn r.stms.length), some (.ref kn), some (vn (off + r.stms.length + 1)), some (.ref fp), some (.ref a5)] ∧ H' = H5 ∧ isDropH r.lab rs = false) ?_ ?_
        · walk_at "rd"
          refine RD.ixT ha5 (show atI _ ((0 : Nat) : Int) = some (vst (tx (headS rs))) from at_n rfl) ?_
          walk_at "rd"
          refine RD.dec (fun h1 => ?_) (fun h1 => ?_)
          · have h1 := tx_inj h1
            obtain ⟨x, k, rfl⟩ : ∃ x k, rs = .drop x (some k) := by
              cases rs with
              | drop x k =>
                cases k with
                | none => exact absurd rfl (hdr x)
                | some k => exact ⟨x, k, rfl⟩
              | _ => exact absurd h1 (by simp [headS])
            obtain ⟨a6, e6, h6⟩ := id hs5
            cases e6
            have h6 : SqT K H5 a5 [vst (tx "drop"), vst x, vst k] := h6
            have ed : isDropH r.lab (.drop x (some k)) = (decide (k = half) && r.lab) := by
              show (decide (some k = some half) && r.lab) = _
              simp
            walk_at "rd"
            refine RD.ixT h6 (show atI _ ((2 : Nat) : Int) = some (vst k) from at_n rfl) ?_
            walk_at "rd"
            refine RD.dec (fun h2 => ?_) (fun h2 => ?_)
            · walk_at "rd"
              refine ⟨p, A.c_RoutineReader, dx5, _, _, rfl, ob5, T.cl_RoutineReader, T.n_RoutineReader_has_labels, rfl, ?_⟩
              walk_at "rd"
              cases hlab : r.lab with
              | true =>
                walk_at "rd"
                show tMkO A.c_BadLine (sp_exi1 A.c_BadLine "line") [] _ _ _ _
                show tCons _ _ _ _ _
                walk_at "rd"
                refine RD.mk1 fun dd ndd => ?_
                exact qE (.bad (off + r.stms.length + 1)) (er.trans (if_pos (by rw [hlab] at ed; rw [hlab, ed, decide_eq_true (show k = half from h2)]; rfl))) _ dd (s45.trans (same_new ndd)) upd_same
              | false =>
                walk_at "rd"
                exact ⟨rfl, rfl, by rw [hlab] at ed; rw [ed]; simp⟩
            · walk_at "rd"
              exact ⟨rfl, rfl, by rw [ed, decide_eq_false (show ¬ k = half from h2)]; rfl⟩
          · walk_at "rd"
            refine ⟨rfl, rfl, ?_⟩
            cases rs with
            | drop x k => exact absurd rfl h1
            | _ => rfl
        rintro σ H6 ⟨rfl, rfl, hnd⟩
        have er := er.trans (if_neg (by rw [hnd]; simp))
        walk_at "rd"
        refine ⟨p, dx5, _, rfl, ob5, rfl, ?_⟩
        walk_at "rd"
        refine ⟨p, la, sl, bl, kn, ssl, bs, ds, lines, off, r, .ref a5, rs, rfl, hr5, hn5, hkp, nd, hs5, hin.ok, hlz, Nat.le_trans hin.b3 (by decide), hbl, hel, hdr, fun H7 bs7 ds7 hr7 hn7 nd7 hb7 hd7 of7 => ?_⟩
        have qN := qN _ er
        revert nx asc rok qN hr7 hn7
        generalize PR.add r r.stms.length rs = r7
        intro nx asc rok hr7 hn7 qN
        obtain ⟨si, sd, hsc⟩ : ∃ v0 vl, r7.scopes = v0 ++ [vl] := by
          rcases List.eq_nil_or_concat r7.scopes with z | ⟨a, b, z⟩
          · have := rok.sc
            rw [z] at this
            exact absurd this (by simp)
          · exact ⟨a, b, by rw [z, List.concat_eq_append]⟩
        have hfree := isFree_scopes hfr asc
        have hn7' := hn7
        rw [hsc] at hn7'
        obtain ⟨dsi, d, rfl⟩ : ∃ v0 vl, ds7 = v0 ++ [vl] := by
          rcases List.eq_nil_or_concat ds7 with z | ⟨a, b, z⟩
          · have := paired_len hn7'.pr
            rw [z] at this
            exact absurd this (by simp)
          · exact ⟨a, b, by rw [z, List.concat_eq_append]⟩
        obtain ⟨svs0, hsl0, _⟩ := hr0.st
        have inM : ∀ x ∈ p :: sl :: bl :: ssl :: bs, H x ≠ none := fun x hx => by
          rcases List.mem_cons.mp hx with z | hx
          · rw [z, ob]; simp
          rcases List.mem_cons.mp hx with z | hx
          · rw [z, hsl0]; simp
          rcases List.mem_cons.mp hx with z | hx
          · rw [z, hr0.bk]; simp
          rcases List.mem_cons.mp hx with z | hx
          · rw [z, hn.ls]; simp
          · obtain ⟨e, _, he⟩ := paired_mem hr0.pr x hx
            rw [show H x = _ from he]; simp
        have tuM : ∀ x ∈ p :: sl :: bl :: ssl :: bs, ∀ xs, ¬ L2.Rd H6 x (.tup xs) := fun x hx => by
          rcases List.mem_cons.mp hx with z | hx
          · rw [z]; exact no_tup_ins ob5
          rcases List.mem_cons.mp hx with z | hx
          · rw [z]; exact no_tup_lst (s45 _ _ hsl0)
          rcases List.mem_cons.mp hx with z | hx
          · rw [z]; exact no_tup_lst hr5.bk
          rcases List.mem_cons.mp hx with z | hx
          · rw [z]; exact no_tup_lst hn5.ls
          · obtain ⟨e, _, he⟩ := paired_mem hr5.pr x hx
            exact no_tup_lst he
        have hfp7 := of7 _ _ hfp5 (fun z => inM _ z z1)
        obtain ⟨qs, hq1, hq2⟩ := hfb5
        have hfb7 : PairsA K H7 fb f.bound := ⟨qs, of7 _ _ hq1 (fun z => inM _ z z3), (of7.kp tuM).pairs hq2⟩
        obtain ⟨dxn7, obn7⟩ := hn7.ob
        walk_at "rd"
        refine ⟨kn, dxn7, _, rfl, obn7, rfl, ?_⟩
        walk_at "rd"
        have hgd : (∀ b ∈ f.bound, isName b.1 = true) ∧ (f.bound.map Prod.fst).Nodup ∧ ∀ u ∈ f.uses, isWord u.1 = true := of_decide_eq_true hg
        have hsz : sd.length + f.bound.length ≤ 10000 := by
          have e1 : sd.length ≤ 3 + 2 * r.stms.length := by
            rcases asc sd (by rw [hsc]; simp) with z | z
            · rw [z]; simp
            · exact hin.s3 sd z
          have := fo.lb
          omega
        refine ⟨kn, ssl, d, dsi, si, sd, .ref fp, f.bound, rfl, hn7', ⟨fp, fdx, sv, fu, fb, rfl, hfp7, hfb7⟩, hgd.2.1, hfree sd (by rw [hsc]; simp), hsz, fun H8 hn8 sx8 => ?_⟩
        have hd0 : H7 d = some (.dK (sd.map kvT)) := (paired_split hn7'.pr).2
        obtain ⟨dx7, ob7⟩ := hr7.ob
        obtain ⟨svs7, hsl7, _⟩ := hr7.st
        have hli7 := hr7.li
        have hbk7 := hr7.bk
        refine qN H8 bs7 (dsi ++ [d]) (hr7.keep (sx8.kpD hd0) (fun o e => sx8 _ _ e (fun z => by rw [z, hd0] at ob7; cases ob7)) (fun o e => sx8 _ _ e (fun z => by rw [z, hd0] at hli7; cases hli7)) (fun o e => sx8 _ _ e (fun z => by rw [z, hd0] at hsl7; cases hsl7)) (fun o e => sx8 _ _ e (fun z => by rw [z, hd0] at hbk7; cases hbk7)) (fun x hx o e => sx8 _ _ e (fun z => ?_))) ?_ nd7 (fun x hx => (hb7 x hx).imp id (fun z => s45.free z)) (fun x hx => (hd7 x hx).imp id (fun z => s45.free z)) ?_
        · obtain ⟨b, _, hb⟩ := paired_mem hr7.pr x hx
          have hb : H7 x = some (.lst [vn b.1, .bl b.2]) := hb
          rw [z, hd0] at hb
          cases hb
        · show NamesAt A H8 kn ssl (dsi ++ [d]) (bindS r7.scopes f.bound)
          unfold bindS
          rw [hsc, List.dropLast_concat, List.getLast?_concat]
          exact hn8
        · intro x o e hx
          have hx1 : x ∉ p :: sl :: bl :: ssl :: bs := fun z => hx (by
            rcases List.mem_cons.mp z with z | z
            · simp [z]
            rcases List.mem_cons.mp z with z | z
            · simp [z]
            rcases List.mem_cons.mp z with z | z
            · simp [z]
            rcases List.mem_cons.mp z with z | z
            · simp [z]
            · simp [z])
          refine sx8 _ _ (of7 _ _ (s45 _ _ e) hx1) fun z => ?_
          rcases hd7 d (by simp) with y | y
          · exact hx (by rw [z]; simp [y])
          · rw [← z, s45 _ _ e] at y; cases y
      · exact Rz.past (fun H' g => s23.trans g) (qE e (by rw [er, he]))
end
end Pf

namespace PR
theorem rl_app (n off : Nat) : ∀ (a b : List Tx) (k : Nat) (r : Rdr), readLines n off k r (a ++ b) = match readLines n off k r a with
    | .error e => .error e
    | .ok r2 => readLines n off (k + a.length) r2 b
  | [], b, k, r => rfl
  | l :: a, b, k, r => by
    rw [List.cons_append, readLines, readLines]
    cases readLine r n off k l with
    | error e => rfl
    | ok r2 =>
      simp only
      rw [rl_app n off a b (k + 1) r2, List.length_cons]
      rw [show k + 1 + a.length = k + (a.length + 1) by omega]
theorem rl_err {n off : Nat} {a b : List Tx} {k : Nat} {r : Rdr} {e : Err} (h : readLines n off k r a = .error e) : readLines n off k r (a ++ b) = .error e := by
  rw [rl_app, h]
theorem rl_one {n off k : Nat} {r : Rdr} {l : Tx} : readLines n off k r [l] = readLine r n off k l := by
  rw [readLines]
  cases readLine r n off k l <;> rfl
theorem readLine_in {r r2 : Rdr} {n off : Nat} {l : Tx} (h : Rin r) (e : readLine r n off r.stms.length l = .ok r2) : Rin r2 ∧ r2.stms.length = r.stms.length + 1 := by
  unfold readLine at e
  cases hf : formOf l with
  | none => rw [hf] at e; cases e
  | some f =>
    rw [hf] at e
    simp only at e
    split at e
    · cases e
    · rename_i hc
      split at e
      · cases e
      · split at e
        · cases e
        · cases e
          refine ⟨h.next (n := n) hf ?_, add_len r r.stms.length (resolve r.scopes f.stm)⟩
          cases hm : mayStand r n r.stms.length f.stm with
          | true => rfl
          | false => exact absurd (by rw [hm]; simp) hc
theorem firstL_some {l w : Tx} {ns : List Tx} (h : firstL l w = some ns) : 2 ≤ ns.length ∧ ns.length ≤ 4 ∧ (∀ n ∈ ns, isName n = true) ∧ (ns.drop 1).Nodup := by
  unfold firstL at h
  cases e : spc 32 l with
  | nil => rw [e] at h; cases h
  | cons a r =>
    rw [e] at h
    simp only at h
    split at h
    · rename_i hc
      cases h
      exact hc.2
    · cases h
def tellOf : Stm → List Tx
  | .tell xs => xs
  | _ => []
theorem told_last (l : List Stm) (s : Stm) : toldOf (l ++ [s]) = tellOf s := by
  unfold toldOf
  rw [List.getLast?_concat]
  cases s <;> rfl
theorem rin0 {hs : List Tx} (h : hs.length ≤ 3) : Rin ⟨[.rout], [], false, [hs.map fun x => (x, half)]⟩ :=
  ⟨⟨fun e he => absurd he (by simp), rfl⟩, by simp, fun s hx => by rw [List.mem_singleton.mp hx, List.length_map]; simp; omega, by simp⟩
theorem read_eq {l0 : Tx} {ls : List Tx} {off : Nat} {n0 : Tx} {hs : List Tx} (h : firstL l0 (tx "routine") = some (n0 :: hs)) : PR.read (l0 :: ls) off = match readLines (ls.length + 1) off 1 ⟨[.rout], [], false, [hs.map fun x => (x, half)]⟩ ls with
    | .error e => .error e
    | .ok r => if r.blocks.isEmpty = true then .ok ⟨n0 :: hs, toldOf r.stms, l0 :: ls, r.stms⟩ else .error (.bad (off + (ls.length + 1) + 1)) := by
  unfold PR.read
  simp only [h]
  rfl
end PR
namespace Pf
open PySem PySem.Spec PyProof.Rows L2 SX RD PR
/-- a Routine object -/
def RtAt (A : Ad) (K : PySem.W.Frag) (H : Hp) (v : V) (t : Rt) : Prop := ∃ (p dx h tb lb sb : Addr) (n : Tx) (hs : List Tx) (svs : List V), v = .ref p ∧ H p = some (.ins A.c_Routine dx (tfl n h (.ref tb) (.ref lb) (.ref sb))) ∧ t.names = n :: hs ∧
  SqT K H h (vsts hs) ∧ SqT K H tb (vsts t.told) ∧ SqT K H lb (vsts t.lines) ∧ H sb = some (.lst svs) ∧ Paired (StmAt K H) svs t.stms
def sp_read (A : Ad) (K : PySem.W.Frag) : Sp := fun vs H Q E => ∃ (H0 : Hp) (p la sl bl : Addr) (lines : List Tx) (off : Nat), vs = [.ref p] ∧ RdrAt A K H p la sl bl [] lines off [.rout] [] false ∧ [la, sl, bl].Nodup ∧ H0 p = none ∧ H0 sl = none ∧ H0 bl = none ∧ Same H0 H ∧
  lines ≠ [] ∧ (∀ l ∈ lines, l.length ≤ 10000) ∧ lines.length ≤ 1000 ∧
  (∀ t, PR.read lines off = .ok t → ∀ H' v, RtAt A K H' v t → Same H0 H' → Q v H') ∧ ∀ e, PR.read lines off = .error e → Rz A E (Same H0) e
section
variable {P : Program} {w : World} {K : PySem.W.Frag} {mg : Str → Option Value} {base : Heap} {A : Ad}
theorem ok_RoutineReader_read (T : Txt K mg A) : FnOk P w K mg base (L2.CX P w) 8 A.f_RoutineReader_read A.d_RoutineReader_read ["self"] (sp_read A K) := by
  have G_first_line := ok_first_line (P := P) (w := w) (base := base) T
  have G_BadLine_d_initd_ := ok_BadLine_d_initd_ (P := P) (w := w) (base := base) T
  have G_Names_d_initd_ := ok_Names_d_initd_ (P := P) (w := w) (base := base) T
  have G_RoutineReader_read_line := ok_RoutineReader_read_line (P := P) (w := w) (base := base) T
  have G_Routine_d_initd_ := ok_Routine_d_initd_ (P := P) (w := w) (base := base) T
  refine T.F_RoutineReader_read.okX sc_RoutineReader_read (fun vs H Q E h => ?_) (fun cdv Ar outer s H vs Q E hr h => ?_)
  · obtain ⟨H0, p, la, sl, bl, lines, off, rfl, _⟩ := h
    rfl
  · obtain ⟨H0, p, la, sl, bl, lines, off, rfl, hr0, nd, np, nsl, nbl, s0, hne, hll, hlz, qN, qE⟩ := h
    refine ⟨_, (pss_cons (ps_set (i := 1) sc_RoutineReader_read.nd rfl (Or.inl rfl) (pe_call G_first_line (hr.mono (by decide)) (by rfl) T.g_first_line T.F_first_line.kp T.b_first_line .nil pass0 (pa_cons (pe_ix (RD.k_ixL (K := K) rfl) (RD.k_fld (K := K) rfl (pv 0) rfl) pe_int (fun _ _ => rfl)) (pa_cons pe_str pa_nil))))
      (pss_cons (ps_if (pt_cmpR op_isN (pv 1) pe_non (nomark _))
      (pss_one (ps_raise rfl (takes_of rfl rfl rfl rfl) (pmk_oex T.oex_BadLine T.ini_BadLine T.tin_BadLine G_BadLine_d_initd_ (hr.mono (by decide)) T.b_BadLine_d_initd_ .nil pass0 (by rfl) T.g_BadLine (pa_cons (pe_op op_add (RD.k_fld (K := K) rfl (pv 0) rfl) pe_int) pa_nil))))
      pss_nil)
      (pss_cons (ps_set (i := 2) sc_RoutineReader_read.nd rfl (Or.inl rfl) (pe_make T.mk_Names G_Names_d_initd_ (hr.mono (by decide)) (by rfl) T.g_Names T.b_Names_d_initd_ .nil pass0 (pa_cons (pe_slice (RD.k_slL (K := K) rfl) (pv 1) (po_some pe_int) po_none) pa_nil)))
      (pss_cons (ps_for PassesOwn.leaving rfl (pi_range2 (by rfl) T.z_range (pa_cons pe_int (pa_cons (pe_callB (RD.k_len (K := K) rfl) (by rfl) T.z_len (by decide +kernel) (pa_cons (RD.k_fld (K := K) rfl (pv 0) rfl) pa_nil)) pa_nil))) (pg_name (i := 3) sc_RoutineReader_read.nd rfl (Or.inl rfl))
      (pss_one (ps_expr (pe_meth (pv 0) T.cl_RoutineReader T.m_RoutineReader_read_line G_RoutineReader_read_line (hr.mono (by decide)) T.b_RoutineReader_read_line .nil (passes_call (takes_of rfl rfl rfl rfl) (fun _ _ _ _ h => h)) (pa_cons (pv 3) (pa_cons (pv 2) pa_nil))))))
      (RD.pss_cut (ps_if (RD.k_tru (K := K) rfl (RD.k_fld (K := K) rfl (pv 0) rfl) (by intro _; rfl))
      (pss_one (ps_raise rfl (takes_of rfl rfl rfl rfl) (pmk_oex T.oex_BadLine T.ini_BadLine T.tin_BadLine G_BadLine_d_initd_ (hr.mono (by decide)) T.b_BadLine_d_initd_ .nil pass0 (by rfl) T.g_BadLine (pa_cons (pe_op op_add (pe_op op_add (RD.k_fld (K := K) rfl (pv 0) rfl) (pe_callB (RD.k_len (K := K) rfl) (by rfl) T.z_len (by decide +kernel) (pa_cons (RD.k_fld (K := K) rfl (pv 0) rfl) pa_nil))) pe_int) pa_nil))))
      pss_nil)
      (PSs.nox (pss_cons (ps_set (i := 4) sc_RoutineReader_read.nd rfl (Or.inl rfl) (pe_ix (RD.k_ixL (K := K) rfl) (RD.k_fld (K := K) rfl (pv 0) rfl) (pe_un un_neg pe_int) (fun _ _ => rfl)))
      (RD.pss_cut (ps_set (i := 5) sc_RoutineReader_read.nd rfl (Or.inl rfl) (pe_ifExp (pt_cmpR op_eq (pe_ix (RD.k_ixT (K := K) rfl) (pv 4) pe_int (fun _ _ => rfl)) pe_str (nomark _)) (pe_ix (RD.k_ixT (K := K) rfl) (pv 4) pe_int (fun _ _ => rfl)) (pe_tup pa_nil)))
      (pss_one (ps_ret (pe_make T.mk_Routine G_Routine_d_initd_ (hr.mono (by decide)) (by rfl) T.g_Routine T.b_Routine_d_initd_ .nil pass0 (pa_cons (pe_callTy (RD.k_tupOf (K := K) rfl) (by rfl) T.z_tuple (by decide +kernel) (pa_cons (pv 1) pa_nil)) (pa_cons (pv 5) (pa_cons (pe_callTy (RD.k_tupOf (K := K) rfl) (by rfl) T.z_tuple (by decide +kernel) (pa_cons (RD.k_fld (K := K) rfl (pv 0) rfl) pa_nil)) (pa_cons (RD.k_fld (K := K) rfl (pv 0) rfl) pa_nil))))))))))))))), ?_⟩
    show tSeq _ _ _ [some (.ref p), none, none, none, none, none] H
    obtain ⟨dx, ob⟩ := hr0.ob
    obtain ⟨l0, ls, rfl⟩ : ∃ l ls, lines = l :: ls := by
      cases lines with
      | nil => exact absurd rfl hne
      | cons l ls => exact ⟨l, ls, rfl⟩
    walk_at "rd"
    refine ⟨p, A.c_RoutineReader, dx, _, _, rfl, ob, T.cl_RoutineReader, T.n_RoutineReader_lines, rfl, ?_⟩
    walk_at "rd"
    refine RD.ixL (sq hr0.li) (show atI _ ((0 : Nat) : Int) = some (vst l0) from at_n rfl) ?_
    walk_at "rd"
    refine ⟨l0, tx "routine", rfl, hll l0 (by simp), fun H1 v s1 hv => ?_⟩
    walk_at "rd"
    refine ⟨rfl, ?_⟩
    walk_at "rd"
    cases hfl : firstL l0 (tx "routine") with
    | none =>
      rw [hfl] at hv
      have hv : v = .non := hv
      subst hv
      refine RD.decT rfl ?_
      walk_at "rd"
      show tMkO A.c_BadLine (sp_exi1 A.c_BadLine "line") [] _ _ _ _
      show tCons _ _ _ _ _
      walk_at "rd"
      refine ⟨p, A.c_RoutineReader, dx, _, _, rfl, s1 _ _ ob, T.cl_RoutineReader, T.n_RoutineReader_offset, rfl, ?_⟩
      walk_at "rd"
      refine RD.mk1 fun dd ndd => ?_
      exact qE (.bad (off + 1)) (by unfold PR.read; simp only [hfl]) _ dd ((s0.trans s1).trans (same_new ndd)) upd_same
    | some names =>
      rw [hfl] at hv
      obtain ⟨na, rfl, nna, hna⟩ := hv
      refine RD.decF nofun ?_
      walk_at "rd"
      obtain ⟨f1, f2, f3, f4⟩ := firstL_some hfl
      obtain ⟨n0, hs, rfl⟩ : ∃ n hs, names = n :: hs := by
        cases names with
        | nil => exact absurd f1 (by simp)
        | cons n hs => exact ⟨n, hs, rfl⟩
      have f2 : hs.length ≤ 3 := by rw [List.length_cons] at f2; omega
      have f4 : hs.Nodup := f4
      have eR := @read_eq l0 ls off n0 hs hfl
      refine RD.slL (sq hna) fun c nc => ?_
      have ec : cutV (vsts (n0 :: hs)) (some 1) none = vsts hs := cut_from (vsts (n0 :: hs)) 1
      rw [ec]
      have t1 := same_new (o := .lst (vsts hs)) nc
      walk_at "rd"
      refine mk_names (sq upd_same) f4 (by omega) fun H2 kn ssl d nkn nssl nd0 s2 hn2 => ?_
      have sA := (s1.trans t1).trans s2
      have hr2 := hr0.same sA
      have sB := s0.trans sA
      obtain ⟨dx2, ob2⟩ := hr2.ob
      have hna2 := (t1.trans s2) _ _ hna
      have knp : kn ≠ p := (ne_of_none ((s1.trans t1) _ _ ob) nkn).symm
      obtain ⟨svs0, hsl0, _⟩ := hr0.st
      have nssl0 : H0 ssl = none := ((s0.trans s1).trans t1).free nssl
      have nax : na ≠ p ∧ na ≠ sl ∧ na ≠ bl ∧ na ≠ ssl := ⟨(ne_of_none ob nna).symm, (ne_of_none hsl0 nna).symm, (ne_of_none hr0.bk nna).symm, ne_of_none (t1 _ _ hna) nssl⟩
      have nd4 : [la, sl, bl, ssl].Nodup := by
        show ([la, sl, bl] ++ [ssl]).Nodup
        refine List.nodup_append.mpr ⟨nd, by simp, fun x hx y hy e => ?_⟩
        rw [List.mem_singleton.mp hy] at e
        have ex : (upd H1 c (.lst (vsts hs))) x ≠ none := by
          rcases List.mem_cons.mp hx with z | hx
          · rw [z, (s1.trans t1) _ _ hr0.li]; simp
          rcases List.mem_cons.mp hx with z | hx
          · rw [z, (s1.trans t1) _ _ hsl0]; simp
          · rw [List.mem_singleton.mp hx, (s1.trans t1) _ _ hr0.bk]; simp
        exact ex (by rw [e]; exact nssl)
      walk_at "rd"
      refine ⟨p, A.c_RoutineReader, dx2, _, _, rfl, ob2, T.cl_RoutineReader, T.n_RoutineReader_lines, rfl, ?_⟩
      walk_at "rd"
      refine RD.len (sq hr2.li) ?_
      rw [vsts_len, List.length_cons]
      walk_at "rd"
      rw [List.length_cons] at hlz
      refine RD.goR2 (n := ls.length) (by omega) (by omega) (fun i σ G => ∃ (o3 : Option V) (r : Rdr) (bs ds : List Addr), σ = [some (.ref p), some (.ref na), some (.ref kn), o3, none, none] ∧ readLines (ls.length + 1) off 1 ⟨[.rout], [], false, [hs.map fun x => (x, half)]⟩ (ls.take i) = .ok r ∧ r.stms.length = i + 1 ∧ Rin r ∧
        RdrAt A K G p la sl bl bs (l0 :: ls) off r.stms r.blocks r.lab ∧ NamesAt A G kn ssl ds r.scopes ∧ (la :: sl :: bl :: ssl :: bs).Nodup ∧ (∀ x ∈ bs, H0 x = none) ∧ (∀ x ∈ ds, H0 x = none) ∧ Same H0 G ∧ G na = some (.lst (vsts (n0 :: hs))) ∧ na ∉ bs) ?_ ?_ ?_
      · exact ⟨none, _, [], [d], rfl, rfl, rfl, rin0 f2, hr2, hn2, nd4, fun x hx => absurd hx (by simp), fun x hx => by rw [List.mem_singleton.mp hx]; exact ((s0.trans s1).trans t1).free nd0, sB, hna2, by simp⟩
      · rintro i σ G hi ⟨o3, r, bs, ds, rfl, hrl, hlen, hrin, hr, hn, ndb, fb, fd, sG, hnaG, hnb⟩
        have ei : ((1 : Int) + (i : Int)) = ((r.stms.length : Nat) : Int) := by rw [hlen]; omega
        rw [ei]
        obtain ⟨dxg, obg⟩ := hr.ob
        have tk1 := RD.take_one (List.getElem?_eq_getElem hi)
        have e1 : readLines (ls.length + 1) off 1 ⟨[.rout], [], false, [hs.map fun x => (x, half)]⟩ (ls.take (i + 1)) = readLine r (l0 :: ls).length off r.stms.length ls[i] := by
          rw [tk1, rl_app, hrl]
          simp only
          rw [rl_one, List.length_take, Nat.min_eq_left (by omega), hlen, Nat.add_comm 1 i]
          rfl
        walk_at "rd"
        refine ⟨p, dxg, _, rfl, obg, rfl, ?_⟩
        walk_at "rd"
        refine ⟨p, la, sl, bl, kn, ssl, bs, ds, l0 :: ls, off, r, ls[i], rfl, hr, hn, knp, ndb, hrin, by rw [hlen, List.getElem?_cons_succ]; exact List.getElem?_eq_getElem hi, hll _ (by simp), by omega, fun r2 he G2 bs2 ds2 hr3 hn3 nd3 hb3 hd3 of3 => ?_, fun e he => ?_⟩
        · have fM : ∀ x ∈ p :: sl :: bl :: ssl :: (bs ++ ds), H0 x = none := fun x hx => by
            rcases List.mem_cons.mp hx with z | hx
            · rw [z]; exact np
            rcases List.mem_cons.mp hx with z | hx
            · rw [z]; exact nsl
            rcases List.mem_cons.mp hx with z | hx
            · rw [z]; exact nbl
            rcases List.mem_cons.mp hx with z | hx
            · rw [z]; exact nssl0
            rcases List.mem_append.mp hx with z | z
            · exact fb x z
            · exact fd x z
          have naM : na ∉ p :: sl :: bl :: ssl :: (bs ++ ds) := fun hx => by
            rcases List.mem_cons.mp hx with z | hx
            · exact nax.1 z
            rcases List.mem_cons.mp hx with z | hx
            · exact nax.2.1 z
            rcases List.mem_cons.mp hx with z | hx
            · exact nax.2.2.1 z
            rcases List.mem_cons.mp hx with z | hx
            · exact nax.2.2.2 z
            rcases List.mem_append.mp hx with z | z
            · exact hnb z
            · obtain ⟨s, _, hs⟩ := paired_mem hn.pr na z
              have hs : G na = some (.dK (s.map kvT)) := hs
              rw [hnaG] at hs
              cases hs
          obtain ⟨i2, l2⟩ := readLine_in hrin he
          exact ⟨_, r2, bs2, ds2, rfl, e1.trans he, by rw [l2, hlen], i2, hr3, hn3, nd3, fun x hx => (hb3 x hx).elim (fb x) (fun z => sG.free z), fun x hx => (hd3 x hx).elim (fd x) (fun z => sG.free z),
            fun a o e => of3 a o (sG a o e) (fun z => by rw [fM a z] at e; cases e), of3 _ _ hnaG naM, fun z => (hb3 na z).elim hnb (fun y => by rw [hnaG] at y; cases y)⟩
        · refine Rz.past (fun H' g => sG.trans g) (qE e ?_)
          have e2 := rl_err (b := ls.drop (i + 1)) (e1.trans he)
          rw [List.take_append_drop] at e2
          rw [eR, e2]
      · rintro σ G ⟨o3, r, bs, ds, rfl, hrl, hlen, hrin, hr, hn, ndb, fb, fd, sG, hnaG, hnb⟩
        rw [List.take_length] at hrl
        rw [hrl] at eR
        have eR : PR.read (l0 :: ls) off = if r.blocks.isEmpty = true then .ok ⟨n0 :: hs, toldOf r.stms, l0 :: ls, r.stms⟩ else .error (.bad (off + (ls.length + 1) + 1)) := eR
        obtain ⟨dxg, obg⟩ := hr.ob
        refine RD.cut (fun σ G' => σ = [some (.ref p), some (.ref na), some (.ref kn), o3, none, none] ∧ G' = G ∧ r.blocks.isEmpty = true) ?_ ?_
        · walk_at "rd"
          refine ⟨p, A.c_RoutineReader, dxg, _, _, rfl, obg, T.cl_RoutineReader, T.n_RoutineReader_blocks, rfl, ?_⟩
          refine RD.truL (sq hr.bk) ?_
          have emp : (bs.map V.ref).isEmpty = r.blocks.isEmpty := by
            have := paired_len hr.pr
            cases bs with
            | nil => rw [List.length_nil] at this; rw [List.length_eq_zero_iff.mp this.symm]; rfl
            | cons x y =>
              cases hb : r.blocks with
              | nil => rw [hb] at this; cases this
              | cons _ _ => rfl
          rw [emp]
          cases hb : r.blocks.isEmpty with
          | true =>
            walk_at "rn"
            exact ⟨rfl, rfl, rfl⟩
          | false =>
            walk_at "rn"
            show tMkO A.c_BadLine (sp_exi1 A.c_BadLine "line") [] _ _ _ _
            show tCons _ _ _ _ _
            walk_at "rd"
            refine ⟨p, A.c_RoutineReader, dxg, _, _, rfl, obg, T.cl_RoutineReader, T.n_RoutineReader_offset, rfl, ?_⟩
            walk_at "rd"
            refine ⟨p, A.c_RoutineReader, dxg, _, _, rfl, obg, T.cl_RoutineReader, T.n_RoutineReader_lines, rfl, ?_⟩
            walk_at "rd"
            refine RD.len (sq hr.li) ?_
            rw [vsts_len, List.length_cons]
            walk_at "rd"
            refine RD.mk1 fun dd ndd => ?_
            exact qE (.bad (off + (ls.length + 1) + 1)) (eR.trans (if_neg (by rw [hb]; simp))) _ dd (sG.trans (same_new ndd)) upd_same
        rintro σ G' ⟨rfl, rfl, hbe⟩
        have eR := eR.trans (if_pos hbe)
        walk_at "rd"
        refine ⟨p, A.c_RoutineReader, dxg, _, _, rfl, obg, T.cl_RoutineReader, T.n_RoutineReader_statements, rfl, ?_⟩
        walk_at "rd"
        obtain ⟨svs, hsl, hsp⟩ := hr.st
        obtain ⟨st0, st1, hst⟩ : ∃ v0 vl, r.stms = v0 ++ [vl] := by
          rcases List.eq_nil_or_concat r.stms with z | ⟨a, b, z⟩
          · exact absurd z hrin.ne
          · exact ⟨a, b, by rw [z, List.concat_eq_append]⟩
        obtain ⟨sv0, sv1, rfl⟩ : ∃ v0 vl, svs = v0 ++ [vl] := by
          rcases List.eq_nil_or_concat svs with z | ⟨a, b, z⟩
          · have := paired_len hsp
            rw [z, hst] at this
            exact absurd this (by simp)
          · exact ⟨a, b, by rw [z, List.concat_eq_append]⟩
        have hlast : StmAt K G' sv1 st1 := by
          rw [hst] at hsp
          exact (paired_split hsp).2
        have etold : toldOf r.stms = tellOf st1 := by rw [hst, told_last]
        refine RD.ixL (sq hsl) (atI_last _ _) ?_
        walk_at "rd"
        obtain ⟨la1, lx1, rfl, hla1⟩ := hlast.head
        refine RD.cut (fun σ G2 => ∃ tb, σ = [some (.ref p), some (.ref na), some (.ref kn), o3, some (.ref la1), some (.ref tb)] ∧ Same G' G2 ∧ SqT K G2 tb (vsts (toldOf r.stms))) ?_ ?_
        · walk_at "rd"
          refine RD.ixT hla1 (show atI _ ((0 : Nat) : Int) = some (vst (tx (headS st1))) from at_n rfl) ?_
          walk_at "rd"
          refine RD.dec (fun h1 => ?_) (fun h1 => ?_)
          · have h1 := tx_inj h1
            obtain ⟨xs, rfl⟩ : ∃ xs, st1 = .tell xs := by
              cases st1 with
              | tell xs => exact ⟨xs, rfl⟩
              | _ => exact absurd h1 (by simp [headS])
            obtain ⟨a2, e2, b2, h2, h3⟩ := hlast
            cases e2
            walk_at "rd"
            refine RD.ixT h2 (show atI _ ((1 : Nat) : Int) = some (.ref b2) from at_n rfl) ?_
            walk_at "rd"
            exact ⟨b2, rfl, Same.refl _, by rw [etold]; exact h3⟩
          · walk_at "rd"
            refine ⟨few, fun tb ntb => ?_⟩
            walk_at "rd"
            refine ⟨tb, rfl, same_new ntb, ?_⟩
            have : toldOf r.stms = [] := by
              rw [etold]
              cases st1 with
              | tell xs => exact absurd rfl h1
              | _ => rfl
            rw [this]
            exact st upd_same
        rintro σ G2 ⟨tb, rfl, sg2, htb⟩
        walk_at "rd"
        refine RD.tupL (sq (sg2 _ _ hnaG)) fun q1 nq1 => ?_
        have t3 := same_new (o := .tup (vsts (n0 :: hs))) nq1
        have hq1 := upd_same (H := G2) (a := q1) (o := .tup (vsts (n0 :: hs)))
        walk_at "rd"
        refine ⟨p, A.c_RoutineReader, dxg, _, _, rfl, (sg2.trans t3) _ _ obg, T.cl_RoutineReader, T.n_RoutineReader_lines, rfl, ?_⟩
        walk_at "rd"
        refine RD.tupL (sq ((sg2.trans t3) _ _ hr.li)) fun q2 nq2 => ?_
        have t4 := same_new (o := .tup (vsts (l0 :: ls))) nq2
        have hq2 := upd_same (H := upd G2 q1 (.tup (vsts (n0 :: hs)))) (a := q2) (o := .tup (vsts (l0 :: ls)))
        have t34 := (sg2.trans t3).trans t4
        walk_at "rd"
        refine ⟨p, A.c_RoutineReader, dxg, _, _, rfl, t34 _ _ obg, T.cl_RoutineReader, T.n_RoutineReader_statements, rfl, ?_⟩
        walk_at "rd"
        intro x dx nx ndx ne
        have s9 := RD.same_mut (o := .ins A.c_Routine dx []) (RD.same_new (o := .own x) ndx) nx
        refine ⟨x, dx, q1, n0, hs, .ref tb, .ref q2, .ref sl, rfl, upd_same, st (s9 _ _ (t4 _ _ hq1)), fun H9 h nh hp9 hh9 sx9 => ⟨rfl, ?_⟩⟩
        have s10 : Same (upd (upd G2 q1 (.tup (vsts (n0 :: hs)))) q2 (.tup (vsts (l0 :: ls)))) H9 := fun c o e => sx9 c o (s9 c o e) (ne_of_none e nx)
        have s11 := t34.trans s10
        refine qN _ eR H9 (.ref x) ⟨x, dx, h, tb, q2, sl, n0, hs, _, rfl, hp9, rfl, st hh9, (Kp.same ((t3.trans t4).trans s10)).sq htb, st (s10 _ _ hq2), s11 _ _ hsl, paired_imp (fun _ _ z => (Kp.same s11).stm z) hsp⟩ (sG.trans s11)
end
end Pf

namespace Pf
open PySem PySem.Spec PyProof.Rows L2 SX RD PR
def sp_read_routine (A : Ad) (K : PySem.W.Frag) : Sp := fun vs H Q E => ∃ t : Tx, vs = [vst t] ∧ t.length ≤ 10000 ∧ (spc 10 t).length ≤ 1000 ∧
  (∀ z, readRoutine t = .ok z → ∀ H' v, RtAt A K H' v z → Same H H' → Q v H') ∧ ∀ e, readRoutine t = .error e → Rz A E (Same H) e
section
variable {P : Program} {w : World} {K : PySem.W.Frag} {mg : Str → Option Value} {base : Heap} {A : Ad}
theorem mk_reader {H : Hp} {la : Addr} {lines : List Tx} {off : Nat} {Q : VK} {E : XK} (hla : H la = some (.lst (vsts lines)))
    (q : ∀ (H' : Hp) (p sl bl : Addr), H p = none → H sl = none → H bl = none → Same H H' → RdrAt A K H' p la sl bl [] lines off [.rout] [] false → [la, sl, bl].Nodup → Q (.ref p) H') : RD.MKE A.c_RoutineReader (sp_rinit A K) [] E [.ref la, vn off] H Q := by
  intro x dx nx ndx ne
  have s0 : Same H (upd (upd H dx (.own x)) x (.ins A.c_RoutineReader dx [])) := RD.same_mut (RD.same_new ndx) nx
  refine ⟨x, dx, la, lines, off, rfl, upd_same, s0 _ _ hla, fun H' sl bl n1 n2 hr sx => ⟨rfl, ?_⟩⟩
  have m1 := s0.free n1
  have m2 := s0.free n2
  refine q H' x sl bl nx m1 m2 (fun c o e => sx c o (s0 c o e) (ne_of_none e nx)) hr ?_
  have z1 : la ≠ sl := ne_of_none hla m1
  have z2 : la ≠ bl := ne_of_none hla m2
  have z3 : sl ≠ bl := fun z => by
    obtain ⟨svs, h1, h2⟩ := hr.st
    have h3 := hr.bk
    rw [← z, h1] at h3
    cases h3
    cases h2
  simp [z1, z2, z3]
theorem ok_read_routine (T : Txt K mg A) : FnOk P w K mg base (L2.CX P w) 9 A.f_read_routine A.d_read_routine ["text"] (sp_read_routine A K) := by
  have G_RoutineReader_read := ok_RoutineReader_read (P := P) (w := w) (base := base) T
  have G_RoutineReader_d_initd_ := ok_RoutineReader_d_initd_ (P := P) (w := w) (base := base) T
  refine T.F_read_routine.okX sc_read_routine (fun vs H Q E h => ?_) (fun cdv Ar outer s H vs Q E hr h => ?_)
  · obtain ⟨t, rfl, _⟩ := h
    rfl
  · obtain ⟨t, rfl, hl, hz, qN, qE⟩ := h
    refine ⟨_, (pss_one (ps_ret (pe_meth0 (pe_make T.mk_RoutineReader G_RoutineReader_d_initd_ (hr.mono (by decide)) (by rfl) T.g_RoutineReader T.b_RoutineReader_d_initd_ .nil pass0 (pa_cons (RD.k_split (pv 0) pe_str) (pa_cons pe_int pa_nil))) T.cl_RoutineReader T.m_RoutineReader_read G_RoutineReader_read (hr.mono (by decide)) T.b_RoutineReader_read .nil (passes_call (takes_of rfl rfl rfl rfl) (fun _ _ _ _ h => h))))), ?_⟩
    show tRet _ _ [some (vst t)] H
    walk_at "rd"
    refine ⟨⟨_, rfl⟩, ?_⟩
    walk_at "rd"
    rw [tnl]
    refine RD.splt (by decide) (by omega) fun la nla => ?_
    have t1 := same_new (o := .lst (vsts (spc 10 t))) nla
    walk_at "rd"
    refine mk_reader (off := 0) upd_same fun H2 p sl bl np nsl nbl s2 hr nd => ?_
    obtain ⟨dx, ob⟩ := hr.ob
    walk_at "rd"
    refine ⟨p, dx, _, rfl, ob, rfl, ?_⟩
    walk_at "rd"
    exact ⟨H, p, la, sl, bl, spc 10 t, 0, rfl, hr, nd, t1.free np, t1.free nsl, t1.free nbl, t1.trans s2, spc_ne 10 t, fun l hl2 => Nat.le_trans (spc_len 10 t l hl2) hl, hz, qN, qE⟩
end
end Pf

namespace PR
open RD
theorem pre_hd (c x : Nat) (r : Tx) : TL.pre [c] (x :: r) = decide (x = c) := by
  have := pre1 (c := c) (l := x :: r) (i := 0)
  rw [List.drop_zero, List.getElem?_cons_zero] at this
  by_cases h : x = c
  · rw [decide_eq_true h]; exact this.mpr (by rw [h])
  · rw [decide_eq_false h]
    cases e : TL.pre [c] (x :: r) with
    | false => rfl
    | true => exact absurd (Option.some.inj (this.mp e)) h
theorem spl_no {c : Nat} : ∀ (l acc : Tx), c ∉ l → TL.spl [c] 0 acc l = [acc ++ l]
  | [], acc, _ => by rw [TL.spl_nil, List.append_nil]
  | x :: r, acc, h => by
    have hp : TL.pre [c] (x :: r) = false := by
      rw [pre_hd]
      exact decide_eq_false fun e => h (by rw [e]; exact List.mem_cons_self)
    rw [TL.spl_miss hp, spl_no r (acc ++ [x]) (fun z => h (List.mem_cons_of_mem _ z)), List.append_assoc]
    rfl
theorem spl_sep {c : Nat} : ∀ (l acc r : Tx), c ∉ l → TL.spl [c] 0 acc (l ++ c :: r) = (acc ++ l) :: TL.spl [c] 0 [] r
  | [], acc, r, _ => by
    have hp : TL.pre [c] (c :: r) = true := by rw [pre_hd]; exact decide_eq_true rfl
    rw [List.nil_append, TL.spl_hit hp, List.append_nil]
    rfl
  | x :: l, acc, r, h => by
    have hp : TL.pre [c] (x :: (l ++ c :: r)) = false := by
      rw [pre_hd]
      exact decide_eq_false fun e => h (by rw [e]; exact List.mem_cons_self)
    rw [List.cons_append, TL.spl_miss hp, spl_sep l (acc ++ [x]) r (fun z => h (List.mem_cons_of_mem _ z)), List.append_assoc]
    rfl
theorem spc_no {c : Nat} {l : Tx} (h : c ∉ l) : spc c l = [l] := spl_no l [] h
theorem spc_sep {c : Nat} {l r : Tx} (h : c ∉ l) : spc c (l ++ c :: r) = l :: spc c r := spl_sep l [] r h
def okC : Tx := charC ++ tx "A_-Z"
def Cln (t : Tx) : Prop := ∀ c ∈ t, c ∈ okC
theorem Cln.sp {t : Tx} (h : Cln t) : 32 ∉ t := fun z => absurd (h 32 z) (by decide +kernel)
theorem Cln.nl {t : Tx} (h : Cln t) : 10 ∉ t := fun z => absurd (h 10 z) (by decide +kernel)
def r33 (o : Tx) : Rdr := ⟨[.rout], [], false, [[(o, half)]]⟩
def h33 (o : Tx) : Tx := tx "routine r " ++ o ++ tx "\n"
def Oth (o : Tx) : Prop := o = tx "x" ∨ o = tx "y"
def Sec (s : Tx) : Prop := s = tx "z9" ∨ s = tx "z8"
theorem read33 {o L : Tx} (ho : Oth o) (hL : 10 ∉ L) : readRoutine (h33 o ++ L) = match readLine (r33 o) 2 0 1 L with
    | .error e => .error e
    | .ok r => if r.blocks.isEmpty = true then .ok ⟨[tx "r", o], toldOf r.stms, [tx "routine r " ++ o, L], r.stms⟩ else .error (.bad 3) := by
  have h1 : 10 ∉ tx "routine r " ++ o := by rcases ho with rfl | rfl <;> decide +kernel
  have h2 : spc 10 (h33 o ++ L) = [tx "routine r " ++ o, L] := by
    have : h33 o ++ L = (tx "routine r " ++ o) ++ 10 :: L := by
      unfold h33
      rw [tnl, List.append_assoc, List.singleton_append]
    rw [this, spc_sep h1, spc_no hL]
  have h3 : firstL (tx "routine r " ++ o) (tx "routine") = some [tx "r", o] := by rcases ho with rfl | rfl <;> decide +kernel
  unfold readRoutine
  rw [h2]
  unfold PR.read
  simp only [h3]
  show (match readLines 2 0 1 (r33 o) [L] with | .error e => _ | .ok r => _) = _
  rw [readLines]
  cases readLine (r33 o) 2 0 1 L with
  | error e => rfl
  | ok r => rfl
theorem line33 {o L : Tx} {f : Form} (ho : Oth o) (hL : 10 ∉ L) (hf : formOf L = some f) (hm : mayStand (r33 o) 2 1 f.stm = true) (hfr : f.good = true → isFree (r33 o).scopes f = true) (hc : check (r33 o).scopes 2 f.uses = none)
    (hd : isDropH false (resolve (r33 o).scopes f.stm) = false) (hb : (add (r33 o) 1 (resolve (r33 o).scopes f.stm)).blocks = []) :
    (f.good = true → ∃ z, readRoutine (h33 o ++ L) = .ok z) ∧ (f.good = false → readRoutine (h33 o ++ L) = .error (.bad 2)) := by
  rw [read33 ho hL]
  constructor
  · intro hg
    have : readLine (r33 o) 2 0 1 L = .ok { add (r33 o) 1 (resolve (r33 o).scopes f.stm) with scopes := bindS (add (r33 o) 1 (resolve (r33 o).scopes f.stm)).scopes f.bound } := by
      unfold readLine
      rw [hf]
      simp only [hg, hm, hfr hg, hc, decide_eq_false (show ¬ 60 < 1 by decide), Bool.not_true, Bool.false_or]
      rw [if_neg (by simp)]
      show (if isDropH false (resolve (r33 o).scopes f.stm) = true then _ else _) = _
      rw [if_neg (by rw [hd]; simp)]
    rw [this]
    simp only
    rw [if_pos (by rw [hb]; rfl)]
    exact ⟨_, rfl⟩
  · intro hg
    have : readLine (r33 o) 2 0 1 L = .error (.bad 2) := by
      unfold readLine
      rw [hf]
      simp only [hg]
      rw [if_pos (by simp)]
    rw [this]
theorem kind33 {o t : Tx} (h : t ≠ o) : kindOf (r33 o).scopes t = none := by
  show (match kindIn [(o, half)] t with | some k => some k | none => none) = none
  unfold kindIn
  rw [List.find?_cons_of_neg (by simpa using fun e : o = t => h e.symm)]
  rfl
theorem kind33' {o : Tx} : kindOf (r33 o).scopes o = some half := by
  show (match kindIn [(o, half)] o with | some k => some k | none => none) = _
  unfold kindIn
  rw [List.find?_cons_of_pos (by simp)]
  rfl
theorem oth_word {o : Tx} (h : Oth o) : isWord o = true := by rcases h with rfl | rfl <;> decide +kernel
theorem sec_name {s : Tx} (h : Sec s) : isName s = true := by rcases h with rfl | rfl <;> decide +kernel
theorem sec_ne {o s : Tx} (ho : Oth o) (h : Sec s) : s ≠ o := by rcases h with rfl | rfl <;> rcases ho with rfl | rfl <;> decide +kernel
theorem check33 {o : Tx} : check (r33 o).scopes 2 [(o, half)] = none := by
  unfold check
  rw [kind33']
  simp only
  rw [if_pos (by decide +kernel)]
  rfl
theorem good1 {t k o : Tx} {st : Stm} (ho : Oth o) : Form.good ⟨st, [(o, half)], [(t, k)]⟩ = isName t := by
  unfold Form.good
  cases h : isName t with
  | true => exact decide_eq_true ⟨by simpa using h, by simp, by simpa using oth_word ho⟩
  | false => exact decide_eq_false fun z => by have := z.1 (t, k) (by simp); rw [h] at this; cases this
theorem good0 {t k : Tx} {st : Stm} : Form.good ⟨st, [], [(t, k)]⟩ = isName t := by
  unfold Form.good
  cases h : isName t with
  | true => exact decide_eq_true ⟨by simpa using h, by simp, by simp⟩
  | false => exact decide_eq_false fun z => by have := z.1 (t, k) (by simp); rw [h] at this; cases this
theorem good2 {a b : Tx} {st : Stm} (h : isName a = true) (ne : a ≠ b) : Form.good ⟨st, [], [(a, half), (b, half)]⟩ = isName b := by
  unfold Form.good
  cases h2 : isName b with
  | true => exact decide_eq_true ⟨by simpa using ⟨h, h2⟩, by simpa using ne, by simp⟩
  | false => exact decide_eq_false fun z => by have := z.1 (b, half) (by simp); rw [h2] at this; cases this
theorem good2' {a b : Tx} {st : Stm} (h : isName b = true) (ne : a ≠ b) : Form.good ⟨st, [], [(a, half), (b, half)]⟩ = isName a := by
  unfold Form.good
  cases h2 : isName a with
  | true => exact decide_eq_true ⟨by simpa using ⟨h2, h⟩, by simpa using ne, by simp⟩
  | false => exact decide_eq_false fun z => by have := z.1 (a, half) (by simp); rw [h2] at this; cases this
theorem tx_app (a b : String) : tx (a ++ b) = tx a ++ tx b := by
  unfold tx
  rw [String.toList_append, List.map_append]
theorem w1 {a b : Tx} (ha : 32 ∉ a) (hb : 32 ∉ b) : spc 32 (a ++ 32 :: b) = [a, b] := by rw [spc_sep ha, spc_no hb]
def letL (t o : Tx) (e : Tx) : Tx := tx "let " ++ t ++ tx " = " ++ o ++ e
theorem let_words {t o e : Tx} (ht : Cln t) (hoe : 32 ∉ o ++ e) : spc 32 (letL t o e) = [tx "let", t, tx "=", o ++ e] := by
  have : letL t o e = tx "let" ++ 32 :: (t ++ 32 :: (tx "=" ++ 32 :: (o ++ e))) := by
    unfold letL
    rw [show tx "let " = tx "let" ++ [32] by decide +kernel, show tx " = " = [32] ++ (tx "=" ++ [32]) by decide +kernel]
    simp
  rw [this, spc_sep (by decide +kernel), spc_sep ht.sp, spc_sep (by decide +kernel), spc_no hoe]
theorem let_form {t o e : Tx} {k : Tx} {p : Path} (ht : Cln t) (hoe : 32 ∉ o ++ e) (hs : sideOf (o ++ e) = some (k, p)) : formOf (letL t o e) = some (if k = [] then ⟨.let_ t p, [(p.1, half)], [(t, half)]⟩ else ⟨.take t k p, [(p.1, half)], [(t, k)]⟩) := by
  unfold formOf
  rw [let_words ht hoe]
  show fw0 _ (tx "let") _ = _
  unfold fw0
  rw [if_neg (by decide +kernel)]
  unfold fw1
  rw [if_pos rfl]
  show (if tx "=" = tx "=" then (sideOf (o ++ e)).map _ else none) = _
  rw [if_pos rfl, hs]
  rfl
theorem letL_nl {t o e : Tx} (ht : Cln t) (ho : Oth o) (he : 10 ∉ e) : 10 ∉ letL t o e := by
  unfold letL
  rw [List.mem_append, List.mem_append, List.mem_append, List.mem_append]
  rintro ((((z | z) | z) | z) | z)
  · exact absurd z (by decide +kernel)
  · exact ht.nl z
  · exact absurd z (by decide +kernel)
  · rcases ho with rfl | rfl <;> exact absurd z (by decide +kernel)
  · exact he z
theorem nam_let {t o : Tx} (ht : Cln t) (ho : Oth o) (hne : t ≠ o) : (isName t = true → ∃ z, readRoutine (h33 o ++ letL t o (tx ".next")) = .ok z) ∧ (isName t = false → readRoutine (h33 o ++ letL t o (tx ".next")) = .error (.bad 2)) := by
  have hs : sideOf (o ++ tx ".next") = some ([], (o, [tx "next"])) := by rcases ho with rfl | rfl <;> decide +kernel
  have h32 : 32 ∉ o ++ tx ".next" := by rcases ho with rfl | rfl <;> decide +kernel
  have hf := let_form ht h32 hs
  rw [if_pos rfl] at hf
  have := line33 ho (letL_nl ht ho (by decide +kernel)) hf rfl (fun _ => by show ([(t, half)].all fun b => (kindOf (r33 o).scopes b.1).isNone) = true; simp [kind33 hne]) check33 rfl rfl
  rwa [good1 ho] at this
theorem nam_take {t o : Tx} (ht : Cln t) (ho : Oth o) (hne : t ≠ o) : (isName t = true → ∃ z, readRoutine (h33 o ++ letL t o (tx ".corner")) = .ok z) ∧ (isName t = false → readRoutine (h33 o ++ letL t o (tx ".corner")) = .error (.bad 2)) := by
  have hs : sideOf (o ++ tx ".corner") = some (tx "corner", (o, [])) := by rcases ho with rfl | rfl <;> decide +kernel
  have h32 : 32 ∉ o ++ tx ".corner" := by rcases ho with rfl | rfl <;> decide +kernel
  have hf := let_form ht h32 hs
  rw [if_neg (by decide +kernel)] at hf
  have := line33 ho (letL_nl ht ho (by decide +kernel)) hf rfl (fun _ => by show ([(t, tx "corner")].all fun b => (kindOf (r33 o).scopes b.1).isNone) = true; simp [kind33 hne]) check33 rfl rfl
  rwa [good1 ho] at this
def mkL (a b : Tx) : Tx := tx "make " ++ a ++ tx " " ++ b
theorem make_form {a b : Tx} (ha : 32 ∉ a) (hb : 32 ∉ b) : formOf (mkL a b) = some ⟨.make a b, [], [(a, half), (b, half)]⟩ := by
  have : mkL a b = tx "make" ++ 32 :: (a ++ 32 :: b) := by
    unfold mkL
    rw [show tx "make " = tx "make" ++ [32] by decide +kernel, show tx " " = [32] by decide +kernel]
    simp
  unfold formOf
  rw [this, spc_sep (by decide +kernel), w1 ha hb]
  show fw0 _ (tx "make") _ = _
  unfold fw0
  rw [if_neg (by decide +kernel)]
  unfold fw1
  rw [if_neg (by decide +kernel)]
  unfold fw2
  rw [if_neg (by decide +kernel)]
  unfold fw3
  rw [if_neg (by decide +kernel)]
  unfold fw4
  rw [if_pos ⟨rfl, rfl⟩]
  rfl
theorem mkL_nl {a b : Tx} (ha : 10 ∉ a) (hb : 10 ∉ b) : 10 ∉ mkL a b := by
  unfold mkL
  rw [List.mem_append, List.mem_append, List.mem_append]
  rintro (((z | z) | z) | z)
  · exact absurd z (by decide +kernel)
  · exact ha z
  · exact absurd z (by decide +kernel)
  · exact hb z
theorem sec_sp {s : Tx} (h : Sec s) : 32 ∉ s ∧ 10 ∉ s := by rcases h with rfl | rfl <;> decide +kernel
theorem nam_make1 {t o s : Tx} (ht : Cln t) (ho : Oth o) (hne : t ≠ o) (hs : Sec s) (hts : t ≠ s) : (isName t = true → ∃ z, readRoutine (h33 o ++ mkL t s) = .ok z) ∧ (isName t = false → readRoutine (h33 o ++ mkL t s) = .error (.bad 2)) := by
  have := line33 ho (mkL_nl ht.nl (sec_sp hs).2) (make_form ht.sp (sec_sp hs).1) rfl (fun _ => by show ([(t, half), (s, half)].all fun b => (kindOf (r33 o).scopes b.1).isNone) = true; simp [kind33 hne, kind33 (sec_ne ho hs)]) rfl rfl rfl
  rwa [good2' (sec_name hs) hts] at this
theorem nam_make2 {t o s : Tx} (ht : Cln t) (ho : Oth o) (hne : t ≠ o) (hs : Sec s) (hts : t ≠ s) : (isName t = true → ∃ z, readRoutine (h33 o ++ mkL s t) = .ok z) ∧ (isName t = false → readRoutine (h33 o ++ mkL s t) = .error (.bad 2)) := by
  have := line33 ho (mkL_nl (sec_sp hs).2 ht.nl) (make_form (sec_sp hs).1 ht.sp) rfl (fun _ => by show ([(s, half), (t, half)].all fun b => (kindOf (r33 o).scopes b.1).isNone) = true; simp [kind33 hne, kind33 (sec_ne ho hs)]) rfl rfl rfl
  rwa [good2 (sec_name hs) hts.symm] at this
theorem nam_make3 {o s : Tx} (ho : Oth o) (hs : Sec s) : readRoutine (h33 o ++ mkL s s) = .error (.bad 2) := by
  have hg : Form.good ⟨.make s s, [], [(s, half), (s, half)]⟩ = false := by
    unfold Form.good
    exact decide_eq_false fun z => by have := z.2.1; simp at this
  exact (line33 ho (mkL_nl (sec_sp hs).2 (sec_sp hs).2) (make_form (sec_sp hs).1 (sec_sp hs).1) rfl (fun h => by rw [hg] at h; cases h) rfl rfl rfl).2 hg
theorem new_form {k t : Tx} (hk : k = tx "face" ∨ k = tx "corner") (ht : 32 ∉ t) : formOf (tx "new " ++ k ++ tx " " ++ t) = some ⟨.new k t, [], [(t, k)]⟩ := by
  have : tx "new " ++ k ++ tx " " ++ t = tx "new" ++ 32 :: (k ++ 32 :: t) := by
    rw [show tx "new " = tx "new" ++ [32] by decide +kernel, show tx " " = [32] by decide +kernel]
    simp
  have hk32 : 32 ∉ k := by rcases hk with rfl | rfl <;> decide +kernel
  have hkk : k ∈ kinds := by rcases hk with rfl | rfl <;> decide +kernel
  unfold formOf
  rw [this, spc_sep (by decide +kernel), w1 hk32 ht]
  show fw0 _ (tx "new") _ = _
  unfold fw0
  rw [if_neg (by decide +kernel)]
  unfold fw1
  rw [if_neg (by decide +kernel)]
  unfold fw2
  rw [if_neg (by decide +kernel)]
  unfold fw3
  rw [if_neg (by decide +kernel)]
  unfold fw4
  rw [if_neg (fun z => absurd z.1 (by decide +kernel))]
  unfold fw5
  rw [if_neg (fun z => absurd z.1 (by decide +kernel))]
  unfold fw6
  rw [if_pos ⟨rfl, rfl, hkk⟩]
  rfl
theorem nam_new {k t o : Tx} (hk : k = tx "face" ∨ k = tx "corner") (ht : Cln t) (ho : Oth o) (hne : t ≠ o) : (isName t = true → ∃ z, readRoutine (h33 o ++ (tx "new " ++ k ++ tx " " ++ t)) = .ok z) ∧ (isName t = false → readRoutine (h33 o ++ (tx "new " ++ k ++ tx " " ++ t)) = .error (.bad 2)) := by
  have h10 : 10 ∉ tx "new " ++ k ++ tx " " ++ t := by
    rw [List.mem_append, List.mem_append, List.mem_append]
    rintro (((z | z) | z) | z)
    · exact absurd z (by decide +kernel)
    · rcases hk with rfl | rfl <;> exact absurd z (by decide +kernel)
    · exact absurd z (by decide +kernel)
    · exact ht.nl z
  have := line33 ho h10 (new_form hk ht.sp) rfl (fun _ => by show ([(t, k)].all fun b => (kindOf (r33 o).scopes b.1).isNone) = true; simp [kind33 hne]) rfl rfl rfl
  rwa [good0] at this
theorem first33 {a t : Tx} (ha : 32 ∉ a) (ht : 32 ∉ t) : firstL (tx "routine " ++ a ++ tx " " ++ t) (tx "routine") = if isName a = true ∧ isName t = true then some [a, t] else none := by
  have : tx "routine " ++ a ++ tx " " ++ t = tx "routine" ++ 32 :: (a ++ 32 :: t) := by
    rw [show tx "routine " = tx "routine" ++ [32] by decide +kernel, show tx " " = [32] by decide +kernel]
    simp
  unfold firstL
  rw [this, spc_sep (by decide +kernel), w1 ha ht]
  simp only
  by_cases h : isName a = true ∧ isName t = true
  · rw [if_pos h, if_pos ⟨by trivial, by simp, by simp, by simpa using h, by simp⟩]
  · rw [if_neg h, if_neg (fun z => h ⟨z.2.2.2.1 a (by simp), z.2.2.2.1 t (by simp)⟩)]
theorem nam_head {t o : Tx} (ht : Cln t) (ho : Oth o) : (isName t = true → ∃ z, readRoutine (tx "routine " ++ t ++ tx " " ++ o) = .ok z) ∧ (isName t = false → readRoutine (tx "routine " ++ t ++ tx " " ++ o) = .error (.bad 1)) := by
  have ho32 : 32 ∉ o ∧ 10 ∉ o ∧ isName o = true := by rcases ho with rfl | rfl <;> decide +kernel
  have h10 : 10 ∉ tx "routine " ++ t ++ tx " " ++ o := by
    rw [List.mem_append, List.mem_append, List.mem_append]
    rintro (((z | z) | z) | z)
    · exact absurd z (by decide +kernel)
    · exact ht.nl z
    · exact absurd z (by decide +kernel)
    · exact ho32.2.1 z
  have hf := first33 ht.sp ho32.1
  unfold readRoutine
  rw [spc_no h10]
  unfold PR.read
  constructor
  · intro h
    rw [if_pos ⟨h, ho32.2.2⟩] at hf
    simp only [hf]
    exact ⟨_, rfl⟩
  · intro h
    rw [if_neg (fun z => by rw [h] at z; cases z.1)] at hf
    simp only [hf]
theorem drop_form {t : Tx} (ht : 32 ∉ t) : formOf (tx "drop " ++ t) = some ⟨.drop t none, [(t, tx "any")], []⟩ := by
  have : tx "drop " ++ t = tx "drop" ++ 32 :: t := by
    rw [show tx "drop " = tx "drop" ++ [32] by decide +kernel]
    simp
  unfold formOf
  rw [this, w1 (by decide +kernel) ht]
  show fw0 _ (tx "drop") _ = _
  unfold fw0
  rw [if_neg (by decide +kernel)]
  unfold fw1
  rw [if_neg (by decide +kernel)]
  unfold fw2
  rw [if_neg (by decide +kernel)]
  unfold fw3
  rw [if_neg (by decide +kernel)]
  unfold fw4
  rw [if_neg (fun z => absurd z.1 (by decide +kernel))]
  unfold fw5
  rw [if_pos ⟨rfl, rfl⟩]
  rfl
theorem nam_drop {t : Tx} (ht : Cln t) : (isName t = true → ∃ z, readRoutine (tx "routine r " ++ t ++ tx "\ndrop " ++ t) = .ok z) ∧ (isName t = false → readRoutine (tx "routine r " ++ t ++ tx "\ndrop " ++ t) = .error (.bad 1)) := by
  have e : tx "routine r " ++ t ++ tx "\ndrop " ++ t = (tx "routine " ++ tx "r" ++ tx " " ++ t) ++ 10 :: (tx "drop " ++ t) := by
    rw [show tx "\ndrop " = 10 :: tx "drop " by decide +kernel, show tx "routine r " = tx "routine " ++ tx "r" ++ tx " " by decide +kernel]
    simp
  have h1 : 10 ∉ tx "routine " ++ tx "r" ++ tx " " ++ t := by
    rw [List.mem_append]
    rintro (z | z)
    · exact absurd z (by decide +kernel)
    · exact ht.nl z
  have h2 : 10 ∉ tx "drop " ++ t := by
    rw [List.mem_append]
    rintro (z | z)
    · exact absurd z (by decide +kernel)
    · exact ht.nl z
  have hf := first33 (a := tx "r") (by decide +kernel) ht.sp
  rw [e]
  unfold readRoutine
  rw [spc_sep h1, spc_no h2]
  unfold PR.read
  constructor
  · intro h
    rw [if_pos ⟨by decide +kernel, h⟩] at hf
    simp only [hf]
    have hw : isWord t = true := by
      unfold isName at h
      rw [Bool.and_eq_true] at h
      exact h.1
    have hg : Form.good ⟨.drop t none, [(t, tx "any")], []⟩ = true := by
      unfold Form.good
      exact decide_eq_true ⟨by simp, by simp, by simpa using hw⟩
    have hl : readLine (r33 t) 2 0 1 (tx "drop " ++ t) = .ok ⟨[.rout, .drop t (some half)], [], false, [[(t, half)]]⟩ := by
      unfold readLine
      rw [drop_form ht.sp]
      simp only [hg, decide_eq_false (show ¬ 60 < 1 by decide), Bool.not_true, Bool.false_or]
      rw [if_neg (by show ¬ (false || false) = true; simp)]
      have hc : check (r33 t).scopes (0 + 1 + 1) [(t, tx "any")] = none := by
        unfold check
        rw [kind33']
        simp only
        rw [if_pos (by decide +kernel)]
        rfl
      rw [hc]
      have hr : resolve (r33 t).scopes (.drop t none) = .drop t (some half) := by
        show Stm.drop t (kindOf (r33 t).scopes t) = _
        rw [kind33']
      simp only [hr]
      rw [if_neg (by show ¬ (decide (some half = some half) && false) = true; simp)]
      rfl
    have hl2 : readLines [tx "routine " ++ tx "r" ++ tx " " ++ t, tx "drop " ++ t].length 0 1 ⟨[.rout], [], false, [List.map (fun x => (x, half)) (List.drop 1 [tx "r", t])]⟩ [tx "drop " ++ t] = .ok ⟨[.rout, .drop t (some half)], [], false, [[(t, half)]]⟩ := by
      show readLines 2 0 1 (r33 t) [tx "drop " ++ t] = _
      rw [readLines, hl]
      rfl
    rw [hl2]
    exact ⟨_, rfl⟩
  · intro h
    rw [if_neg (fun z => by rw [h] at z; cases z.2)] at hf
    simp only [hf]
end PR

namespace Pf
open PySem PySem.Spec PyProof.Rows L2 SX RD PR
/-! lists and tuples of texts as data -/
def dS (ls : List Tx) : List PyData := ls.map fun x => .str (S x)
theorem dp_S {K : PySem.W.Frag} {H : Hp} : ∀ ls : List Tx, DpAll K H (vsts ls) (dS ls)
  | [] => .nil
  | a :: l => .cons (.str _) (dp_S l)
theorem lay_S : ∀ {ls : List Tx}, (∀ x ∈ ls, ∀ c ∈ x, c < 1000) → PyData.canLayAll0 (dS ls) = true
  | [], _ => by simp [dS, PyData.canLayAll0]
  | a :: l, h => by
    have ha := h a List.mem_cons_self
    have e := lay_S (ls := l) fun x hx => h x (List.mem_cons_of_mem _ hx)
    show PyData.canLayAll0 (.str (S a) :: dS l) = true
    simp only [PyData.canLayAll0, PyData.canLay0, e, Bool.and_true]
    show (List.toArray a).all (fun c => decide (c < 0x110000)) = true
    rw [List.all_toArray, List.all_eq_true]
    intro c hc
    exact decide_eq_true (by have := ha c hc; omega)
theorem dep_S : ∀ ls : List Tx, PyData.depthAll (dS ls) = 0
  | [] => by simp [dS, PyData.depthAll]
  | a :: l => by
    show PyData.depthAll (.str (S a) :: dS l) = 0
    simp [PyData.depthAll, PyData.depth, dep_S l]
theorem sh_L {ls : List Tx} (h : ∀ x ∈ ls, ∀ c ∈ x, c < 1000) : SeqAt.shaped (.list (dS ls)) = true := by
  unfold SeqAt.shaped
  rw [PyData.canLay0, PyData.depth, lay_S h, dep_S]
  simp
theorem sh_T {ls : List Tx} (h : ∀ x ∈ ls, ∀ c ∈ x, c < 1000) : SeqAt.shaped (.tuple (dS ls)) = true := by
  unfold SeqAt.shaped
  rw [PyData.canLay0, PyData.depth, lay_S h, dep_S]
  simp
theorem eqv_S : ∀ a b : List Tx, PyData.eqvAll (dS a) (dS b) = decide (a = b)
  | [], [] => by simp [dS, PyData.eqvAll]
  | [], y :: b => by simp [dS, PyData.eqvAll]
  | x :: a, [] => by simp [dS, PyData.eqvAll]
  | x :: a, y :: b => by
    show PyData.eqvAll (.str (S x) :: dS a) (.str (S y) :: dS b) = _
    rw [PyData.eqvAll, eqv_S a b, PyData.eqv, S_beq_eq]
    by_cases h1 : x = y
    · by_cases h2 : a = b
      · simp [h1, h2]
      · simp [h1, h2]
    · simp [h1]
end Pf

namespace Pf
open PySem PySem.Spec PyProof.Rows L2 SX RD PR
def sp_l_told (A : Ad) : Sp := fun vs H Q _ => ∃ t : Tx, vs = [vst t] ∧ t.length ≤ 900 ∧
  (((∃ z, readRoutine t = .ok z) ∧ ∀ (H' : Hp) (r : Addr), Same H H' → H r = none → H' r = some (.lst []) → Q (.ref r) H') ∨
   (∃ n, readRoutine t = .error (.bad n) ∧ ∀ (H' : Hp) (r : Addr), Same H H' → H r = none → H' r = some (.lst [vn n, .bl true]) → Q (.ref r) H'))
def sp_l_resv : Sp := fun vs H Q _ => vs = [] ∧ ∀ (H' : Hp) (r : Addr), Same H H' → H r = none → H' r = some (.lst (vsts resv)) → Q (.ref r) H'
theorem resv_words : spc 32 (tx "routine script given let make drop if else end new round tell call next prev twin face corner some") = resv := by decide +kernel
section
variable {P : Program} {w : World} {K : PySem.W.Frag} {mg : Str → Option Value} {base : Heap} {A : Ad}
theorem ok_l_told (T : Txt K mg A) : FnOk P w K mg base CX0 10 A.f_l_told A.d_l_told ["_law_text"] (sp_l_told A) := by
  have G_read_routine := ok_read_routine (P := P) (w := w) (base := base) T
  refine T.F_l_told.ok sc_l_told (fun vs H Q E h => ?_) (fun cdv Ar outer s H vs Q E hr h => ?_)
  · obtain ⟨t, rfl, _⟩ := h
    rfl
  · obtain ⟨t, rfl, ht, alt⟩ := h
    refine ⟨_, (pss_cons (RD.ps_try_manyA (i := 1) (n := "e") (tb := fun W => tDrop (tCallS (sp_read_routine A K) (WE W) (tCons (tVar 0) tNil))) (Wo := fun _ _ _ _ => False) rfl rfl sc_l_told.nd rfl rfl takes0
        (fun W pn xe tk _ => pss_one (ps_expr (by exact (pe_callS G_read_routine (hr.mono (by decide)) rfl T.g_read_routine T.F_read_routine.kp T.b_read_routine (fun σ => passAt tk σ) (by exact (pa_cons (pv 0) pa_nil))))))
        (RD.HdsA.cons (c := .ref A.c_BadLine) (ts := fun a cls d => RD.tWhen (cls = .ref A.c_BadLine ∧ ∃ dd, d = some dd) (tRet (tLst (tCons (tXf a cls d A.c_BadLine "line" (tVar 1)) (tCons (tAndV (tCB (RD.rIsX K A.c_BadLine a (d.getD 0)) (tCons (tVar 1) (tCons (tC (.ref A.c_MeshError)) tNil))) (tCB (RD.rIsX K A.c_BadLine a (d.getD 0)) (tCons (tVar 1) (tCons (tC (.ty "ValueError")) tNil)))) tNil))))) ⟨rfl, by decide, Or.inl T.g_BadLine⟩
        (fun a oe cls d pn hz hf => RD.pss_when fun hcd => by (obtain ⟨rfl, dd, rfl⟩ := hcd; exact (pss_one (ps_ret (pe_lst (pa_cons (pe_xf T.xf_BadLine T.na_BadLine_line hz hf (pv 1)) (pa_cons (pe_and (pe_callB (RD.k_isX (K := K) rfl T.exc_BadLine hz hf) (by rfl) T.z_isinstance (by decide +kernel) (pa_cons (pv 1) (pa_cons (pe_glob (v := .ref A.c_MeshError) rfl T.g_MeshError rfl) pa_nil))) (pe_one (pe_callB (RD.k_isX (K := K) rfl T.exc_BadLine hz hf) (by rfl) T.z_isinstance (by decide +kernel) (pa_cons (pv 1) (pa_cons (pe_bltn (v := .ty "ValueError") (by rfl) T.z_ValueError (by decide +kernel) rfl) pa_nil))))) pa_nil)))))))
        RD.HdsA.nil))
      (pss_one (ps_ret (pe_lst pa_nil)))), ?_⟩
    show tSeq _ _ _ [some (vst t), none] H
    refine RD.seq ?_
    show tDrop (tCallS _ _ _) _ _ _
    refine RD.drp ?_
    refine RD.callS ?_
    walk_at "rd"
    have hz : (spc 10 t).length ≤ 1000 := Nat.le_trans (spc_cnt 10 t) (by omega)
    rcases alt with ⟨⟨z, hz1⟩, q⟩ | ⟨n, h1, q⟩
    · refine ⟨t, rfl, by omega, hz, fun z2 e2 H' v hv s1 => ?_, fun e he => by rw [hz1] at he; cases he⟩
      walk_at "rd"
      refine ⟨few, fun r nr => ?_⟩
      exact q _ r (s1.trans (same_new nr)) (s1.free nr) upd_same
    · refine ⟨t, rfl, by omega, hz, fun z2 e2 => (by rw [h1] at e2; cases e2), fun e he => ?_⟩
      rw [h1] at he
      cases he
      intro H' dd s1 edd
      refine ⟨true, T.te_BadLine, fun _ a na => ⟨⟨rfl, dd, rfl⟩, ?_⟩, fun z => nomatch z⟩
      show tRet _ _ [some (vst t), some (.ref a)] H'
      walk_at "rd"
      refine ⟨rfl, rfl, dd, _, vn n, rfl, edd, rfl, ?_⟩
      walk_at "rd"
      refine RD.isX edd T.ki_BadLine_MeshError ?_
      walk_at "rd"
      refine ⟨_, _, true, _, rfl, fun u r => r, edd, T.ki_BadLine_ValueError, ?_⟩
      walk_at "rd"
      refine ⟨few, fun r nr => ?_⟩
      exact q _ r (s1.trans (same_new nr)) (s1.free nr) upd_same
theorem ok_l_reserved (T : Txt K mg A) : FnOk P w K mg base CX0 1 A.f_l_reserved A.d_l_reserved [] (sp_l_resv) := by
  refine T.F_l_reserved.ok sc_l_reserved (fun vs H Q E h => ?_) (fun cdv Ar outer s H vs Q E hr h => ?_)
  · obtain ⟨rfl, _⟩ := h
    rfl
  · obtain ⟨rfl, q⟩ := h
    refine ⟨_, (pss_cons (ps_set (i := 0) sc_l_reserved.nd rfl (Or.inl rfl) pe_str)
      (pss_one (ps_ret (RD.k_split (pv 0) pe_str)))), ?_⟩
    show tSeq _ _ _ [none] H
    walk_at "rd"
    refine ⟨⟨_, rfl⟩, ?_⟩
    walk_at "rd"
    rw [tspc]
    refine RD.splt (by decide) (by decide +kernel) fun p np => ?_
    have e : TL.spl [32] 0 [] (tx "routine script given let make drop if else end new round tell call next prev twin face corner some") = resv := resv_words
    rw [e]
    exact q _ p (same_new np) np upd_same
end
end Pf

namespace Pf
open PySem PySem.Spec PyProof.Rows L2
/-- a tape: two numbers -/
def TapeAt (H : Hp) (a : Addr) : Prop := ∃ x y : Int, H a = some (.lst [.int x, .int y]) ∧ 0 ≤ x ∧ 0 ≤ y ∧ y < 2147483647
theorem TapeAt.same {H H' : Hp} {a : Addr} (t : TapeAt H a) (s : Same H H') : TapeAt H' a := by
  obtain ⟨x, y, h, r⟩ := t
  exact ⟨x, y, s _ _ h, r⟩
theorem TapeAt.mk {H : Hp} {a : Addr} {x y : Int} (h : 0 ≤ x) (h1 : 0 ≤ y) (h2 : y < 2147483647) : TapeAt (upd H a (.lst [.int x, .int y])) a := ⟨x, y, upd_same, h, h1, h2⟩
def sp_l_pick : Sp := fun vs H Q _ => ∃ (a : Addr) (m : Int), vs = [.ref a, .int m] ∧ TapeAt H a ∧ 0 < m ∧ m < 1000001 ∧
  ∀ (v : Nat) (H' : Hp), (v : Int) < m → TapeAt H' a → SameX a H H' → Q (vn v) H'
theorem pick_end {H : Hp} {a : Addr} {m : Int} {Q : VK} (k : ∀ (v : Nat) (H' : Hp), (v : Int) < m → TapeAt H' a → SameX a H H' → Q (vn v) H') {z x y : Int} (h0 : 0 ≤ z) (h1 : z < m) (hx : 0 ≤ x) (hy : 0 ≤ y) (hy2 : y < 2147483647) : Q (.int z) (upd H a (.lst [.int x, .int y])) := by
  obtain ⟨v, rfl⟩ := Int.eq_ofNat_of_zero_le h0
  exact k v _ h1 (TapeAt.mk hx hy hy2) (SameX.put (SameX.refl a H))
def sp_l_tape (K : PySem.W.Frag) : Sp := fun vs H Q _ => ∃ (a : Addr) (ns : List Int) (k : Nat), vs = [.ref a, vn k] ∧ SqL K H a (ns.map V.int) ∧ k < 100 ∧
  ∀ H' p, Same H H' → H p = none → TapeAt H' p → Q (.ref p) H'
section
variable {P : Program} {w : World} {K : PySem.W.Frag} {mg : Str → Option Value} {base : Heap} {A : Ad}
theorem ok_l_pick (T : Txt K mg A) : FnOk P w K mg base CX0 1 A.f_l_pick A.d_l_pick ["_law_tape_here", "_law_many"] (sp_l_pick) := by
  refine T.F_l_pick.ok sc_l_pick (fun vs H Q E h => ?_) (fun cdv Ar outer s H vs Q E hr h => ?_)
  · obtain ⟨a, m, rfl, _⟩ := h
    rfl
  · obtain ⟨a, m, rfl, ⟨x, y, hA, hx, hy, hy2⟩, hm, hm2, k⟩ := h
    refine ⟨_, (pss_cons (ps_if (pt_cmpR op_ge (pe_ix (RD.k_ixL (K := K) rfl) (pv 0) pe_int (fun _ _ => rfl)) (pe_op op_pow pe_int pe_int) (nomark _))
      (pss_cons (ps_set (i := 2) sc_l_pick.nd rfl (Or.inl rfl) (pe_op op_mod (pe_callTy RD.k_int (by rfl) T.z_int (by decide +kernel) (pa_cons (pe_ix (RD.k_ixL (K := K) rfl) (pv 0) pe_int (fun _ _ => rfl)) pa_nil)) (pv 1)))
      (pss_cons (ps_asg (pe_op op_fdiv (pe_ix (RD.k_ixL (K := K) rfl) (pv 0) pe_int (fun _ _ => rfl)) (pv 1)) (pg_sub (pv 0) pe_int set_list))
      (pss_one (ps_ret (pv 2)))))
      pss_nil)
      (pss_cons (ps_asg (pe_op op_mod (pe_callTy RD.k_int (by rfl) T.z_int (by decide +kernel) (pa_cons (pe_op op_add (pe_op op_add (pe_op op_mul (pe_ix (RD.k_ixL (K := K) rfl) (pv 0) pe_int (fun _ _ => rfl)) pe_int) (pe_op op_mul (pe_ix (RD.k_ixL (K := K) rfl) (pv 0) pe_int (fun _ _ => rfl)) pe_int)) pe_int) pa_nil)) pe_int) (pg_sub (pv 0) pe_int set_list))
      (pss_cons (ps_set (i := 3) sc_l_pick.nd rfl (Or.inl rfl) (pe_op op_mod (pe_callTy RD.k_int (by rfl) T.z_int (by decide +kernel) (pa_cons (pe_op op_add (pe_op op_add (pe_op op_mul (pe_ix (RD.k_ixL (K := K) rfl) (pv 0) pe_int (fun _ _ => rfl)) (pe_ix (RD.k_ixL (K := K) rfl) (pv 0) pe_int (fun _ _ => rfl))) (pe_op op_mul (pe_ix (RD.k_ixL (K := K) rfl) (pv 0) pe_int (fun _ _ => rfl)) pe_int)) pe_int) pa_nil)) pe_int))
      (pss_one (ps_ret (pe_op op_mod (pe_callTy RD.k_int (by rfl) T.z_int (by decide +kernel) (pa_cons (pe_op op_fdiv (pv 3) pe_int) pa_nil)) (pv 1))))))), ?_⟩
    show tSeq _ _ _ [some (.ref a), some (.int m), none, none] H
    walk_at "rd"
    refine RD.ixL (sq hA) rfl ?_
    walk_at "rd"
    refine RD.iC ⟨by decide, by decide, by decide⟩ ?_
    walk_at "rd"
    refine RD.dec (fun hbig => ?_) (fun hsm => ?_)
    · walk_at "rd"
      refine RD.ixL (sq hA) rfl ?_
      walk_at "rd"
      refine RD.iC hm ?_
      walk_at "rd"
      refine RD.ixL (sq hA) rfl ?_
      walk_at "rd"
      refine RD.iC ⟨hm, by omega⟩ ?_
      walk_at "rd"
      refine RD.setL hA rfl ?_
      walk_at "rd"
      exact pick_end k (Int.emod_nonneg _ (by omega)) (Int.emod_lt_of_pos _ hm) (Int.ediv_nonneg hx (by omega)) hy hy2
    · have hx18 : x < 1000000000000000000 := by
        have e : ((10 : Int) ^ (18 : Int).toNat) = 1000000000000000000 := by decide
        rw [e] at hsm
        omega
      walk_at "rd"
      refine RD.ixL (sq hA) rfl ?_
      walk_at "rd"
      refine RD.iC (.inr ⟨by decide, by decide⟩) ?_
      walk_at "rd"
      refine RD.ixL (sq hA) rfl ?_
      walk_at "rd"
      refine RD.iC (.inr ⟨by decide, by decide⟩) ?_
      walk_at "rd"
      refine RD.iC (by decide) ?_
      generalize hy' : (y * 48271 + x * 69621 + 11) % 2147483647 = y'
      have y0 : 0 ≤ y' := by rw [← hy']; exact Int.emod_nonneg _ (by decide)
      have y1 : y' < 2147483647 := by rw [← hy']; exact Int.emod_lt_of_pos _ (by decide)
      walk_at "rd"
      refine RD.setL hA rfl ?_
      have hB : (upd H a (.lst [.int x, .int y'])) a = some (.lst [.int x, .int y']) := upd_same
      walk_at "rd"
      refine RD.ixL (sq hB) rfl ?_
      walk_at "rd"
      refine RD.ixL (sq hB) rfl ?_
      walk_at "rd"
      refine RD.iC (.inl ⟨by omega, by omega⟩) ?_
      walk_at "rd"
      refine RD.ixL (sq hB) rfl ?_
      walk_at "rd"
      refine RD.iC (.inr ⟨by decide, by decide⟩) ?_
      walk_at "rd"
      refine RD.iC (by decide) ?_
      walk_at "rd"
      refine RD.iC ⟨by decide, by decide⟩ ?_
      walk_at "rd"
      refine RD.iC hm ?_
      exact pick_end k (Int.emod_nonneg _ (by omega)) (Int.emod_lt_of_pos _ hm) hx y0 y1
theorem ok_l_tape (T : Txt K mg A) : FnOk P w K mg base CX0 1 A.f_l_tape A.d_l_tape ["_law_script", "_law_k"] (sp_l_tape K) := by
  refine T.F_l_tape.ok sc_l_tape (fun vs H Q E h => ?_) (fun cdv Ar outer s H vs Q E hr h => ?_)
  · obtain ⟨a, ns, k, rfl, _⟩ := h
    rfl
  · obtain ⟨a, ns, k, rfl, hS, hk, q⟩ := h
    refine ⟨_, (pss_cons (ps_set (i := 2) sc_l_tape.nd rfl (Or.inl rfl) (pe_ifExp (pt_cmpR op_lt (pv 1) (pe_callB (RD.k_len (K := K) rfl) (by rfl) T.z_len (by decide +kernel) (pa_cons (pv 0) pa_nil)) (nomark _)) (pe_ix (RD.k_ixL (K := K) rfl) (pv 0) (pv 1) (fun _ _ => rfl)) pe_int))
      (pss_one (ps_ret (pe_lst (pa_cons (pe_callB RD.k_abs (by rfl) T.z_abs (by decide +kernel) (pa_cons (pv 2) pa_nil)) (pa_cons (pe_op op_add (pe_op op_mul pe_int (pv 1)) pe_int) pa_nil)))))), ?_⟩
    show tSeq _ _ _ [some (.ref a), some (vn k), none] H
    have fin : ∀ z : Int, ∀ p, H p = none → Q (.ref p) (upd H p (.lst [.int (if z < 0 then -z else z), .int (7919 * (k : Int) + 104729)])) := fun z p np => by
      refine q _ p (RD.same_new np) np (TapeAt.mk ?_ (by omega) (by omega))
      split <;> omega
    walk_at "rd"
    refine RD.len hS ?_
    rw [List.length_map]
    walk_at "rd"
    refine RD.dec (fun hlt => ?_) (fun hge => ?_)
    · have hlt : k < ns.length := by omega
      walk_at "rd"
      refine RD.ixL hS (at_n (v := .int ns[k]) (by rw [List.getElem?_map, List.getElem?_eq_getElem hlt]; rfl)) ?_
      walk_at "rd"
      refine RD.iC (.inl ⟨by decide, by decide⟩) ?_
      walk_at "rd"
      exact ⟨szl (by simp), fun p np => fin _ p np⟩
    · walk_at "rd"
      refine RD.iC (.inl ⟨by decide, by decide⟩) ?_
      walk_at "rd"
      exact ⟨szl (by simp), fun p np => fin 0 p np⟩
end
end Pf

namespace RD
open PySem PySem.Spec PyProof.Rows L2 SX PR
theorem slS {t : Tx} {lo hi : Option Int} {H : Hp} {Q : VK} (hz : t.length ≤ 1000000) (q : ∀ u : Tx, u.length ≤ t.length → (∀ c ∈ u, c ∈ t) → Q (vst u) H) : rSlS (vst t) lo hi H Q := by
  refine ⟨S t, rfl, by rw [S_len]; exact Nat.le_trans hz (by decide), ?_⟩
  have e : cutS (S t) lo hi = S ((t.drop (HT.sIx (S t).length 0 lo)).take (HT.sIx (S t).length (S t).length hi - HT.sIx (S t).length 0 lo)) := rfl
  rw [e]
  exact q _ (by rw [List.length_take, List.length_drop]; omega) (fun c hc => List.mem_of_mem_drop (List.mem_of_mem_take hc))
theorem at_t {xs : List Nat} {j : Nat} (h : j < xs.length) : atI xs ((j : Nat) : Int) = some xs[j] := by
  have := ixN_n h
  unfold atI
  rw [this]
  exact List.getElem?_eq_getElem h
end RD
namespace Pf
open PySem PySem.Spec PyProof.Rows L2 SX RD PR
def sp_l_string : Sp := fun vs H Q _ => ∃ a : Addr, vs = [.ref a] ∧ TapeAt H a ∧ ∀ (H' : Hp) (t : Tx), t.length ≤ 30 → (∀ c ∈ t, c ∈ okC) → TapeAt H' a → SameX a H H' → Q (vst t) H'
section
variable {P : Program} {w : World} {K : PySem.W.Frag} {mg : Str → Option Value} {base : Heap} {A : Ad}
theorem ok_l_string (T : Txt K mg A) : FnOk P w K mg base CX0 2 A.f_l_string A.d_l_string ["_law_tape_here"] (sp_l_string) := by
  have G_l_pick := ok_l_pick (P := P) (w := w) (base := base) T
  have G_l_reserved := ok_l_reserved (P := P) (w := w) (base := base) T
  refine T.F_l_string.ok sc_l_string (fun vs H Q E h => ?_) (fun cdv Ar outer s H vs Q E hr h => ?_)
  · obtain ⟨a, rfl, _⟩ := h
    rfl
  · obtain ⟨a, rfl, ta, q⟩ := h
    refine ⟨_, (pss_cons (ps_set (i := 1) sc_l_string.nd rfl (Or.inl rfl) pe_str)
      (pss_cons (ps_if (pt_cmpR op_eq (pe_call G_l_pick (hr.mono (by decide)) (by rfl) T.g_l_pick T.F_l_pick.kp T.b_l_pick .nil pass0 (pa_cons (pv 0) (pa_cons pe_int pa_nil))) pe_int (nomark _))
      (pss_cons (ps_set (i := 2) sc_l_string.nd rfl (Or.inl rfl) (pe_ix (RD.k_ixL (K := K) rfl) (pe_call0 G_l_reserved (hr.mono (by decide)) (by rfl) T.g_l_reserved T.F_l_reserved.kp T.b_l_reserved .nil pass0) (pe_call G_l_pick (hr.mono (by decide)) (by rfl) T.g_l_pick T.F_l_pick.kp T.b_l_pick .nil pass0 (pa_cons (pv 0) (pa_cons pe_int pa_nil))) (fun _ _ => rfl)))
      (pss_one (ps_ret (pe_ix (RD.k_ixL (K := K) rfl) (pe_lst (pa_cons (pv 2) (pa_cons (pv 2) (pa_cons (pe_op RD.k_addS (pv 2) (pe_ix ix_str (pv 1) (pe_call G_l_pick (hr.mono (by decide)) (by rfl) T.g_l_pick T.F_l_pick.kp T.b_l_pick .nil pass0 (pa_cons (pv 0) (pa_cons pe_int pa_nil))) (fun _ _ => rfl))) (pa_cons (pe_slice sl_str (pv 2) (po_some pe_int) po_none) (pa_cons (pe_slice sl_str (pv 2) po_none (po_some (pe_op op_sub (pe_callB RD.k_lenS (by rfl) T.z_len (by decide +kernel) (pa_cons (pv 2) pa_nil)) pe_int))) pa_nil)))))) (pe_call G_l_pick (hr.mono (by decide)) (by rfl) T.g_l_pick T.F_l_pick.kp T.b_l_pick .nil pass0 (pa_cons (pv 0) (pa_cons pe_int pa_nil))) (fun _ _ => rfl)))))
      pss_nil)
      (pss_cons (ps_set (i := 3) sc_l_string.nd rfl (Or.inl rfl) pe_str)
      (pss_cons (ps_for PassesOwn.never rfl (pi_range1 (by rfl) T.z_range (pa_cons (pe_call G_l_pick (hr.mono (by decide)) (by rfl) T.g_l_pick T.F_l_pick.kp T.b_l_pick .nil pass0 (pa_cons (pv 0) (pa_cons pe_int pa_nil))) pa_nil)) (pg_name (i := 4) sc_l_string.nd rfl (Or.inl rfl))
      (pss_one (ps_set (i := 3) sc_l_string.nd rfl (Or.inl rfl) (pe_op RD.k_addS (pv 3) (pe_ix ix_str (pv 1) (pe_call G_l_pick (hr.mono (by decide)) (by rfl) T.g_l_pick T.F_l_pick.kp T.b_l_pick .nil pass0 (pa_cons (pv 0) (pa_cons pe_int pa_nil))) (fun _ _ => rfl))))))
      (pss_cons (ps_if (pt_cmpR op_eq (pe_call G_l_pick (hr.mono (by decide)) (by rfl) T.g_l_pick T.F_l_pick.kp T.b_l_pick .nil pass0 (pa_cons (pv 0) (pa_cons pe_int pa_nil))) pe_int (nomark _))
      (pss_cons (ps_set (i := 5) sc_l_string.nd rfl (Or.inl rfl) (pe_call G_l_pick (hr.mono (by decide)) (by rfl) T.g_l_pick T.F_l_pick.kp T.b_l_pick .nil pass0 (pa_cons (pv 0) (pa_cons (pe_op op_add (pe_callB RD.k_lenS (by rfl) T.z_len (by decide +kernel) (pa_cons (pv 3) pa_nil)) pe_int) pa_nil))))
      (pss_one (ps_set (i := 3) sc_l_string.nd rfl (Or.inl rfl) (pe_op RD.k_addS (pe_op RD.k_addS (pe_slice sl_str (pv 3) po_none (po_some (pv 5))) (pe_ix (RD.k_ixL (K := K) rfl) (pe_lst (pa_cons pe_str (pa_cons pe_str (pa_cons pe_str (pa_cons pe_str (pa_cons pe_str (pa_cons pe_str pa_nil))))))) (pe_call G_l_pick (hr.mono (by decide)) (by rfl) T.g_l_pick T.F_l_pick.kp T.b_l_pick .nil pass0 (pa_cons (pv 0) (pa_cons pe_int pa_nil))) (fun _ _ => rfl))) (pe_slice sl_str (pv 3) (po_some (pv 5)) po_none)))))
      pss_nil)
      (pss_one (ps_ret (pv 3)))))))), ?_⟩
    show tSeq _ _ _ [some (.ref a), none, none, none, none, none] H
    walk_at "rd"
    refine ⟨a, 3, rfl, ta, by decide, by decide, fun v H1 hv ta1 x1 => ?_⟩
    walk_at "rd"
    have lc : (tx "abcdefghijklmnopqrstuvwxyz0123456789").length = 36 := by decide +kernel
    have inC : ∀ c ∈ tx "abcdefghijklmnopqrstuvwxyz0123456789", c ∈ okC := fun c hc => List.mem_append_left _ hc
    have rv : ∀ x ∈ resv, x.length ≤ 7 ∧ ∀ c ∈ x, c ∈ okC := by decide +kernel
    have lr : resv.length = 19 := by decide +kernel
    revert lc inC
    generalize tx "abcdefghijklmnopqrstuvwxyz0123456789" = cs
    intro lc inC
    have inG : ∀ (i : Nat) (h : i < cs.length), cs[i] ∈ okC := fun i h => inC _ (List.getElem_mem h)
    refine RD.dec (fun h1 => ?_) (fun h1 => ?_)
    · walk_at "rd"
      refine ⟨rfl, fun H2 r s2 nr hr2 => ?_⟩
      walk_at "rd"
      refine ⟨a, 19, rfl, ta1.same s2, by decide, by decide, fun v2 H3 hv2 ta3 x3 => ?_⟩
      have ra : r ≠ a := fun z => by
        obtain ⟨_, _, h, _⟩ := ta1
        rw [z, h] at nr; cases nr
      have hr3 := x3 _ _ hr2 ra
      have lv : v2 < resv.length := by rw [lr]; omega
      refine RD.ixL (sq hr3) (at_n (vsts_at (List.getElem?_eq_getElem lv))) ?_
      have hwd := rv _ (List.getElem_mem lv)
      revert hwd
      generalize resv[v2] = wd
      intro hwd
      walk_at "rd"
      refine ⟨a, 36, rfl, ta3, by decide, by decide, fun v3 H4 hv3 ta4 x4 => ?_⟩
      have lv3 : v3 < cs.length := by rw [lc]; omega
      refine RD.ixS (by rw [lc]; decide) (RD.at_t lv3) ?_
      refine RD.adds (by rw [List.length_singleton]; omega) ?_
      walk_at "rd"
      refine RD.slS (by omega) fun u1 hu1 hu1c => ?_
      walk_at "rd"
      refine RD.lenTx (by omega) ?_
      walk_at "rd"
      refine RD.slS (by omega) fun u2 hu2 hu2c => ?_
      walk_at "rd"
      refine ⟨few, fun l nl => ?_⟩
      walk_at "rd"
      have t5 := same_new (o := .lst [vst wd, vst wd, vst (wd ++ [cs[v3]]), vst u1, vst u2]) nl
      refine ⟨a, 5, rfl, ta4.same t5, by decide, by decide, fun v4 H6 hv4 ta6 x6 => ?_⟩
      have la : l ≠ a := fun z => by
        obtain ⟨_, _, h, _⟩ := ta4
        rw [z, h] at nl; cases nl
      have hl6 := x6 _ _ upd_same la
      have xx : SameX a H H6 := (((x1.trans (Same.x s2)).trans x3).trans x4).trans ((Same.x t5).trans x6)
      have fin : ∀ (t : Tx), t.length ≤ 30 → (∀ c ∈ t, c ∈ okC) → ([wd, wd, wd ++ [cs[v3]], u1, u2])[v4]? = some t → rIxL K (.ref l) (.int (v4 : Int)) H6 Q := fun t h1 h2 h3 => RD.ixL (sq hl6) (at_n (vsts_at (ls := [wd, wd, wd ++ [cs[v3]], u1, u2]) h3)) (q _ t h1 h2 ta6 xx)
      have hw1 : wd.length ≤ 30 := by omega
      match v4, hv4, fin with
      | 0, _, fin => exact fin _ hw1 hwd.2 rfl
      | 1, _, fin => exact fin _ hw1 hwd.2 rfl
      | 2, _, fin => exact fin _ (by rw [List.length_append, List.length_singleton]; omega) (fun c hc => by
          rcases List.mem_append.mp hc with z | z
          · exact hwd.2 c z
          · rw [List.mem_singleton.mp z]; exact inG v3 lv3) rfl
      | 3, _, fin => exact fin _ (by omega) (fun c hc => hwd.2 c (hu1c c hc)) rfl
      | 4, _, fin => exact fin _ (by omega) (fun c hc => hwd.2 c (hu2c c hc)) rfl
      | n + 5, hv, _ => exact absurd hv (by omega)
    · walk_at "rd"
      refine ⟨a, 11, rfl, ta1, by decide, by decide, fun v2 H2 hv2 ta2 x2 => ?_⟩
      walk_at "rd"
      rw [temp]
      refine RD.goR (n := v2) (by omega) (by omega) (by omega) (fun i σ G => ∃ (t : Tx) (o4 : Option V), σ = [some (.ref a), some (vst cs), none, some (vst t), o4, none] ∧ t.length = i ∧ (∀ c ∈ t, c ∈ okC) ∧ TapeAt G a ∧ SameX a H G) ⟨[], none, rfl, rfl, fun c hc => absurd hc (by simp), ta2, x1.trans x2⟩ ?_ ?_
      · rintro i σ G hi ⟨t, o4, rfl, ht, htc, tg, xg⟩
        walk_at "rd"
        refine ⟨a, 36, rfl, tg, by decide, by decide, fun v3 H4 hv3 ta4 x4 => ?_⟩
        have lv3 : v3 < cs.length := by rw [lc]; omega
        refine RD.ixS (by rw [lc]; decide) (RD.at_t lv3) ?_
        refine RD.adds (by rw [List.length_singleton]; omega) ?_
        walk_at "rd"
        exact ⟨_, _, rfl, by rw [List.length_append, ht]; rfl, fun c hc => by
          rcases List.mem_append.mp hc with z | z
          · exact htc c z
          · rw [List.mem_singleton.mp z]; exact inG v3 lv3, ta4, xg.trans x4⟩
      · rintro σ G ⟨t, o4, rfl, ht, htc, tg, xg⟩
        walk_at "rd"
        refine ⟨a, 3, rfl, tg, by decide, by decide, fun v3 H4 hv3 ta4 x4 => ?_⟩
        walk_at "rd"
        refine RD.dec (fun h1 => ?_) (fun h1 => ?_)
        · walk_at "rd"
          refine RD.lenTx (by omega) ?_
          walk_at "rd"
          refine ⟨a, _, rfl, ta4, by omega, by omega, fun v4 H5 hv4 ta5 x5 => ?_⟩
          walk_at "rd"
          refine RD.slS (by omega) fun u1 hu1 hu1c => ?_
          walk_at "rd"
          refine ⟨few, fun l nl => ?_⟩
          walk_at "rd"
          have t6 := same_new (o := .lst [vst (tx "A"), vst (tx "_"), vst (tx "-"), vst (tx "Z"), vst (tx "b"), vst (tx "7")]) nl
          refine ⟨a, 6, rfl, ta5.same t6, by decide, by decide, fun v5 H6 hv5 ta6 x6 => ?_⟩
          have la : l ≠ a := fun z => by
            obtain ⟨_, _, h, _⟩ := ta5
            rw [z, h] at nl; cases nl
          have hl6 := x6 _ _ upd_same la
          have sg : ∀ x ∈ ["A", "_", "-", "Z", "b", "7"].map tx, x.length = 1 ∧ ∀ c ∈ x, c ∈ okC := by decide +kernel
          have l6 : v5 < (["A", "_", "-", "Z", "b", "7"].map tx).length := by show v5 < 6; omega
          refine RD.ixL (sq hl6) (at_n (vsts_at (ls := ["A", "_", "-", "Z", "b", "7"].map tx) (List.getElem?_eq_getElem l6))) ?_
          have hsg := sg _ (List.getElem_mem l6)
          revert hsg
          generalize (["A", "_", "-", "Z", "b", "7"].map tx)[v5] = sgn
          intro hsg
          refine RD.adds (by omega) ?_
          walk_at "rd"
          refine RD.slS (by omega) fun u2 hu2 hu2c => ?_
          refine RD.adds (by rw [List.length_append]; omega) ?_
          walk_at "rd"
          refine q _ _ (by rw [List.length_append, List.length_append]; omega) (fun c hc => ?_) ta6 (((xg.trans x4).trans x5).trans ((Same.x t6).trans x6))
          rcases List.mem_append.mp hc with z | z
          · rcases List.mem_append.mp z with z | z
            · exact htc c (hu1c c z)
            · exact hsg.2 c z
          · exact htc c (hu2c c z)
        · walk_at "rd"
          exact q _ _ (by omega) htc ta4 (xg.trans x4)
end
end Pf

namespace Pf
open PySem PySem.Spec PyProof.Rows L2
def sp_law (K : PySem.W.Frag) : Sp := fun vs H Q _ => ∃ (a : Addr) (ns : List Int), vs = [.ref a] ∧ SqL K H a (ns.map V.int) ∧ ns.length ≤ 63 ∧ ∀ H', Q (.bl true) H'
end Pf

namespace Pf
open PySem PySem.Spec PyProof.Rows L2 SX RD PR
def sp_l_good : Sp := fun vs H Q _ => ∃ t : Tx, vs = [vst t] ∧ t.length ≤ 900 ∧ Cln t ∧ ∀ H', Same H H' → Q (.bl (isName t)) H'
theorem Cln_small {t : Tx} (h : Cln t) : ∀ c ∈ t, c < 1000 := fun c hc => (by decide +kernel : ∀ c ∈ okC, c < 1000) c (h c hc)
theorem dig_first : ∀ c ∈ charC, decide (c ∈ firstC) = !decide (c ∈ tx "0123456789") := by decide +kernel
theorem dig_char : ∀ c ∈ tx "0123456789", c ∉ firstC := by decide +kernel
theorem first_char : ∀ c ∈ firstC, c ∈ charC := by decide +kernel
section
variable {P : Program} {w : World} {K : PySem.W.Frag} {mg : Str → Option Value} {base : Heap} {A : Ad}
theorem ok_l_good (T : Txt K mg A) : FnOk P w K mg base CX0 2 A.f_l_good A.d_l_good ["_law_text"] (sp_l_good) := by
  have G_l_reserved := ok_l_reserved (P := P) (w := w) (base := base) T
  refine T.F_l_good.ok sc_l_good (fun vs H Q E h => ?_) (fun cdv Ar outer s H vs Q E hr h => ?_)
  · obtain ⟨t, rfl, _⟩ := h
    rfl
  · obtain ⟨t, rfl, ht, hcl, q⟩ := h
    refine ⟨_, (pss_cons (ps_if (PW.pt (pw_or (pt_not (pt_chain op_le op_le pe_int (pe_callB RD.k_lenS (by rfl) T.z_len (by decide +kernel) (pa_cons (pv 0) pa_nil)) pe_int)) (pw_or (pt_cmpR (RD.k_in (K := K) rfl) (pv 0) (pe_call0 G_l_reserved (hr.mono (by decide)) (by rfl) T.g_l_reserved T.F_l_reserved.kp T.b_l_reserved .nil pass0) (by rfl)) (pw_or1 (pt_cmpR RD.k_sgn (pe_ix ix_str (pv 0) pe_int (fun _ _ => rfl)) pe_str (by rfl))))))
      (pss_one (ps_ret pe_bl))
      pss_nil)
      (pss_one (ps_ret (pe_cmpR (RD.k_eqD (K := K) rfl hr.units) (pe_lc (own := [("_law_char", 1)]) (g := gName 1) (by rfl) sc_l_good.nd (pi_str (pv 0)) (blkOk_by (own := [("_law_char", 1)]) (N := ["_law_text", "_law_char"]) (sc := defScope s_l_good) (by decide +kernel)) (fun _ _ _ _ _ => (pg_name (i := 1) sc_l_good.nd rfl (Or.inl rfl))) (fun _ _ _ _ _ => (pts_one (pt_cmpR RD.k_nsgn (pv 1) pe_str (by rfl)))) (fun _ _ _ _ _ => (pv 1))) (pe_lst pa_nil) (nomark _))))), ?_⟩
    show tSeq _ _ _ [some (vst t), none] H
    walk_at "rd"
    refine RD.lenTx (by omega) ?_
    walk_at "rd"
    refine RD.dec (fun h1 => ?_) (fun h1 => ?_)
    · walk_at "rd"
      refine RD.ndec (fun h2 => ?_) (fun h2 => ?_)
      · walk_at "rd"
        have e : isName t = false := by
          unfold isName isWord
          rw [decide_eq_false (show ¬ t.length ≤ 8 by omega), Bool.false_and, Bool.and_false, Bool.false_and]
        rw [← e]
        exact q _ (Same.refl _)
      · walk_at "rd"
        refine ⟨rfl, fun H2 r s2 nr hr2 => ?_⟩
        refine RD.inLt (sq hr2) ?_
        walk_at "rd"
        refine RD.dec (fun h3 => ?_) (fun h3 => ?_)
        · walk_at "rd"
          have e : isName t = false := by
            unfold isName
            rw [decide_eq_true h3]
            simp
          rw [← e]
          exact q _ s2
        · obtain ⟨c, r, rfl⟩ : ∃ c r, t = c :: r := by
            cases t with
            | nil => exact absurd h1 (by simp)
            | cons c r => exact ⟨c, r, rfl⟩
          walk_at "rd"
          refine RD.ixS (by omega) (show atI (c :: r) ((0 : Nat) : Int) = some c from RD.at_t (xs := c :: r) (j := 0) (by simp)) ?_
          walk_at "rd"
          refine RD.isg ?_
          walk_at "rd"
          have en : isName (c :: r) = (((c :: r).all fun c => decide (c ∈ charC)) && decide (c ∈ firstC)) := by
            unfold isName isWord
            rw [decide_eq_true (show 1 ≤ (c :: r).length by omega), decide_eq_true (show (c :: r).length ≤ 8 by omega), decide_eq_false h3]
            simp only [Bool.true_and, Bool.not_false, Bool.and_true]
          refine RD.dec (fun h4 => ?_) (fun h4 => ?_)
          · walk_at "rd"
            have e : isName (c :: r) = false := by
              rw [en, decide_eq_false (dig_char c h4), Bool.and_false]
            rw [← e]
            exact q _ s2
          · walk_at "rd"
            refine RD.lcS (by omega) (fun c => !decide (c ∈ charC)) (fun c => vst [c]) (fun i x H3 Q' R' hc s kT kF => ?_) (fun H3 p np s3 hp => ?_)
            · walk_at "wp"
              walk_at "rd"
              refine ⟨rfl, ?_⟩
              walk_at "rd"
              refine RD.nsg ?_
              walk_at "rd"
              refine RD.ndec (fun h => ?_) (fun h => ?_)
              · walk_at "rd"
                exact kT (by rw [decide_eq_false (show ¬ x ∈ charC from h)]; rfl) _ (Same.refl _)
              · exact kF (by rw [decide_eq_true (show x ∈ charC from h)]; rfl) _ (Same.refl _)
            · walk_at "rd"
              refine ⟨few, fun l nl => ?_⟩
              have t4 := same_new (o := .lst []) nl
              rw [RD.pick_filter] at hp
              have e1 : (((c :: r).filter fun c => !decide (c ∈ charC)).map fun c => vst [c]) = vsts (((c :: r).filter fun c => !decide (c ∈ charC)).map fun c => [c]) := by
                unfold vsts
                rw [List.map_map]
                rfl
              rw [e1] at hp
              refine RD.eqD (d := .list (dS (((c :: r).filter fun c => !decide (c ∈ charC)).map fun c => [c]))) (e := .list (dS [])) (.lst (sq (t4 _ _ hp)) (dp_S _)) (.lst (sq upd_same) .nil) (sh_L fun x hx d hd => ?_) (sh_L fun x hx => absurd hx (by simp)) ?_
              · obtain ⟨y, hy, rfl⟩ := List.mem_map.mp hx
                rw [List.mem_singleton.mp hd]
                exact Cln_small hcl y (List.mem_filter.mp hy).1
              · have e : isName (c :: r) = PyData.eqv (.list (dS (((c :: r).filter fun c => !decide (c ∈ charC)).map fun c => [c]))) (.list (dS [])) := by
                  rw [PyData.eqv, eqv_S, en]
                  by_cases ha : ∀ x ∈ c :: r, x ∈ charC
                  · have hc := ha c List.mem_cons_self
                    have hf := dig_first c hc
                    rw [decide_eq_false h4] at hf
                    rw [hf, List.all_eq_true.mpr fun x hx => decide_eq_true (ha x hx)]
                    rw [decide_eq_true]
                    · rfl
                    · rw [List.map_eq_nil_iff, List.filter_eq_nil_iff]
                      intro x hx
                      simp [ha x hx]
                  · have h5 : ((c :: r).all fun c => decide (c ∈ charC)) = false := by
                      cases hh : ((c :: r).all fun c => decide (c ∈ charC)) with
                      | false => rfl
                      | true =>
                        rw [List.all_eq_true] at hh
                        exact absurd (fun x hx => of_decide_eq_true (hh x hx)) ha
                    rw [h5, Bool.false_and, decide_eq_false]
                    intro z
                    rw [List.map_eq_nil_iff, List.filter_eq_nil_iff] at z
                    exact ha fun x hx => by have := z x hx; simpa using this
                rw [← e]
                exact q _ ((s2.trans s3).trans t4)
    · walk_at "rn"
      have e : isName t = false := by
        unfold isName isWord
        rw [decide_eq_false (show ¬ 1 ≤ t.length by omega), Bool.false_and, Bool.false_and]
      rw [← e]
      exact q _ (Same.refl _)
end
end Pf

namespace Pf
open PySem PySem.Spec PyProof.Rows L2 SX RD PR
def dTwo (n : Nat) : PyData := .list [.int (n : Int), .bool true]
theorem sh_two (n : Nat) : SeqAt.shaped (dTwo n) = true := by
  unfold SeqAt.shaped dTwo
  simp [PyData.canLay0, PyData.canLayAll0, PyData.depth, PyData.depthAll]
theorem dp_two {K : PySem.W.Frag} {H : Hp} {a : Addr} {n : Nat} (h : H a = some (.lst [vn n, .bl true])) : Dp K H (.ref a) (dTwo n) := .lst (sq h) (.cons (.int _) (.cons (.bl _) .nil))
theorem eq_two (n : Nat) : PyData.eqv (dTwo n) (dTwo n) = true := by
  unfold dTwo
  simp [PyData.eqv, PyData.eqvAll]
theorem dp_nil {K : PySem.W.Frag} {H : Hp} {a : Addr} (h : H a = some (.lst [])) : Dp K H (.ref a) (.list []) := .lst (sq h) .nil
theorem sh_nil : SeqAt.shaped (.list []) = true := by decide
theorem eq_nil : PyData.eqv (.list []) (.list []) = true := by decide
def lines33 (t o s : Tx) : List Tx := [letL t o (tx ".next"), mkL t s, mkL s t, tx "new face " ++ t, tx "new corner " ++ t, letL t o (tx ".corner")]
theorem all33 {t o s : Tx} (ht : Cln t) (ho : Oth o) (hne : t ≠ o) (hs : Sec s) (hts : t ≠ s) : ∀ L ∈ lines33 t o s, (isName t = true → ∃ z, readRoutine (h33 o ++ L) = .ok z) ∧ (isName t = false → readRoutine (h33 o ++ L) = .error (.bad 2)) := by
  intro L hL
  unfold lines33 at hL
  simp only [List.mem_cons, List.not_mem_nil, or_false] at hL
  rcases hL with rfl | rfl | rfl | rfl | rfl | rfl
  · exact nam_let ht ho hne
  · exact nam_make1 ht ho hne hs hts
  · exact nam_make2 ht ho hne hs hts
  · have e : tx "new face " ++ t = tx "new " ++ tx "face" ++ tx " " ++ t := by rw [show tx "new face " = tx "new " ++ tx "face" ++ tx " " by decide +kernel]
    rw [e]
    exact nam_new (.inl rfl) ht ho hne
  · have e : tx "new corner " ++ t = tx "new " ++ tx "corner" ++ tx " " ++ t := by rw [show tx "new corner " = tx "new " ++ tx "corner" ++ tx " " by decide +kernel]
    rw [e]
    exact nam_new (.inr rfl) ht ho hne
  · exact nam_take ht ho hne
theorem lines33_len {t o s : Tx} (ht : t.length ≤ 30) (ho : Oth o) (hs : Sec s) : ∀ L ∈ lines33 t o s, L.length ≤ 100 := by
  have lo : o.length ≤ 1 := by rcases ho with rfl | rfl <;> decide +kernel
  have ls : s.length ≤ 2 := by rcases hs with rfl | rfl <;> decide +kernel
  have k1 : (tx "let ").length = 4 := by decide +kernel
  have k2 : (tx " = ").length = 3 := by decide +kernel
  have k3 : (tx ".next").length = 5 := by decide +kernel
  have k4 : (tx ".corner").length = 7 := by decide +kernel
  have k5 : (tx "make ").length = 5 := by decide +kernel
  have k6 : (tx " ").length = 1 := by decide +kernel
  have k7 : (tx "new face ").length = 9 := by decide +kernel
  have k8 : (tx "new corner ").length = 11 := by decide +kernel
  intro L hL
  unfold lines33 letL mkL at hL
  simp only [List.mem_cons, List.not_mem_nil, or_false] at hL
  rcases hL with rfl | rfl | rfl | rfl | rfl | rfl <;> simp only [List.length_append, k1, k2, k3, k4, k5, k6, k7, k8] <;> omega
section
variable {P : Program} {w : World} {K : PySem.W.Frag} {mg : Str → Option Value} {base : Heap} {A : Ad}
theorem ok_law (T : Txt K mg A) : FnOk P w K mg base CX0 11 A.f_law A.d_law ["_law_script"] (sp_law K) := by
  have G_l_tape := ok_l_tape (P := P) (w := w) (base := base) T
  have G_l_string := ok_l_string (P := P) (w := w) (base := base) T
  have G_l_good := ok_l_good (P := P) (w := w) (base := base) T
  have G_l_reserved := ok_l_reserved (P := P) (w := w) (base := base) T
  have G_is_name := ok_is_name (P := P) (w := w) (base := base) T
  have G_l_told := ok_l_told (P := P) (w := w) (base := base) T
  refine T.F_law.ok sc_law (fun vs H Q E h => ?_) (fun cdv Ar outer s H vs Q E hr h => ?_)
  · obtain ⟨a, ns, rfl, _⟩ := h
    rfl
  · obtain ⟨a, zs, rfl, hS, hlen, q⟩ := h
    refine ⟨_, (pss_cons (ps_set (i := 1) sc_law.nd rfl (Or.inl rfl) (pe_call G_l_tape (hr.mono (by decide)) (by rfl) T.g_l_tape T.F_l_tape.kp T.b_l_tape .nil pass0 (pa_cons (pv 0) (pa_cons pe_int pa_nil))))
      (pss_cons (ps_set (i := 2) sc_law.nd rfl (Or.inl rfl) (pe_call G_l_string (hr.mono (by decide)) (by rfl) T.g_l_string T.F_l_string.kp T.b_l_string .nil pass0 (pa_cons (pv 1) pa_nil)))
      (pss_cons (ps_set (i := 3) sc_law.nd rfl (Or.inl rfl) (pe_call G_l_good (hr.mono (by decide)) (by rfl) T.g_l_good T.F_l_good.kp T.b_l_good .nil pass0 (pa_cons (pv 2) pa_nil)))
      (pss_cons (ps_if (PW.pt (pw_or (pt_cmpR op_ne (pe_call G_is_name (hr.mono (by decide)) (by rfl) T.g_is_name T.F_is_name.kp T.b_is_name .nil pass0 (pa_cons (pv 2) pa_nil)) (pv 3) (nomark _)) (pw_or1 (pt_cmpR (RD.k_neD (K := K) rfl hr.units) (pe_glob (v := .ref A.k_RESERVED) rfl T.k_RESERVED rfl) (pe_callTy (RD.k_tupOf (K := K) rfl) (by rfl) T.z_tuple (by decide +kernel) (pa_cons (pe_call0 G_l_reserved (hr.mono (by decide)) (by rfl) T.g_l_reserved T.F_l_reserved.kp T.b_l_reserved .nil pass0) pa_nil)) (nomark _)))))
      (pss_one (ps_ret pe_bl))
      pss_nil)
      (RD.pss_cut (ps_set (i := 4) sc_law.nd rfl (Or.inl rfl) (pe_ifExp (pt_cmpR op_ne (pv 2) pe_str (nomark _)) pe_str pe_str))
      (RD.pss_cut (ps_set (i := 5) sc_law.nd rfl (Or.inl rfl) (pe_ifExp (pt_cmpR op_ne (pv 2) pe_str (nomark _)) pe_str pe_str))
      (RD.pss_cut (ps_set (i := 6) sc_law.nd rfl (Or.inl rfl) (pe_lst (pa_cons (pe_op RD.k_addS (pe_op RD.k_addS (pe_op RD.k_addS (pe_op RD.k_addS pe_str (pv 2)) pe_str) (pv 4)) pe_str) (pa_cons (pe_op RD.k_addS (pe_op RD.k_addS (pe_op RD.k_addS pe_str (pv 2)) pe_str) (pv 5)) (pa_cons (pe_op RD.k_addS (pe_op RD.k_addS (pe_op RD.k_addS pe_str (pv 5)) pe_str) (pv 2)) pa_nil)))))
      (RD.pss_cut (ps_set (i := 6) sc_law.nd rfl (Or.inl rfl) (pe_op op_cat (pv 6) (pe_lst (pa_cons (pe_op RD.k_addS pe_str (pv 2)) (pa_cons (pe_op RD.k_addS pe_str (pv 2)) (pa_cons (pe_op RD.k_addS (pe_op RD.k_addS (pe_op RD.k_addS (pe_op RD.k_addS pe_str (pv 2)) pe_str) (pv 4)) pe_str) pa_nil))))))
      (pss_cons (ps_for PassesOwn.never rfl (RD.k_pil (K := K) rfl (pv 6)) (pg_name (i := 7) sc_law.nd rfl (Or.inl rfl))
      (pss_one (ps_if (pt_cmpR (RD.k_neD (K := K) rfl hr.units) (pe_call G_l_told (hr.mono (by decide)) (by rfl) T.g_l_told T.F_l_told.kp T.b_l_told .nil pass0 (pa_cons (pe_op RD.k_addS (pe_op RD.k_addS (pe_op RD.k_addS pe_str (pv 4)) pe_str) (pv 7)) pa_nil)) (pe_ifExp (pt_val (pv 3)) (pe_lst pa_nil) (pe_lst (pa_cons pe_int (pa_cons pe_bl pa_nil)))) (nomark _))
      (pss_one (ps_ret pe_bl))
      pss_nil)))
      (pss_cons (ps_if (pt_cmpR (RD.k_neD (K := K) rfl hr.units) (pe_call G_l_told (hr.mono (by decide)) (by rfl) T.g_l_told T.F_l_told.kp T.b_l_told .nil pass0 (pa_cons (pe_op RD.k_addS (pe_op RD.k_addS (pe_op RD.k_addS (pe_op RD.k_addS (pe_op RD.k_addS pe_str (pv 4)) pe_str) (pv 5)) pe_str) (pv 5)) pa_nil)) (pe_lst (pa_cons pe_int (pa_cons pe_bl pa_nil))) (nomark _))
      (pss_one (ps_ret pe_bl))
      pss_nil)
      (pss_cons (ps_if (pt_cmpR (RD.k_neD (K := K) rfl hr.units) (pe_call G_l_told (hr.mono (by decide)) (by rfl) T.g_l_told T.F_l_told.kp T.b_l_told .nil pass0 (pa_cons (pe_op RD.k_addS (pe_op RD.k_addS (pe_op RD.k_addS pe_str (pv 2)) pe_str) (pv 2)) pa_nil)) (pe_ifExp (pt_val (pv 3)) (pe_lst pa_nil) (pe_lst (pa_cons pe_int (pa_cons pe_bl pa_nil)))) (nomark _))
      (pss_one (ps_ret pe_bl))
      pss_nil)
      (pss_one (ps_ret (pe_cmpR (RD.k_eqD (K := K) rfl hr.units) (pe_call G_l_told (hr.mono (by decide)) (by rfl) T.g_l_told T.F_l_told.kp T.b_l_told .nil pass0 (pa_cons (pe_op RD.k_addS (pe_op RD.k_addS (pe_op RD.k_addS pe_str (pv 2)) pe_str) (pv 4)) pa_nil)) (pe_ifExp (pt_val (pv 3)) (pe_lst pa_nil) (pe_lst (pa_cons pe_int (pa_cons pe_bl pa_nil)))) (nomark _))))))))))))))), ?_⟩
    show tSeq _ _ _ [some (.ref a), none, none, none, none, none, none, none] H
    walk_at "rd"
    refine ⟨a, zs, 0, rfl, hS, by decide, fun H1 t0 s1 nt0 tp1 => ?_⟩
    walk_at "rd"
    refine ⟨t0, rfl, tp1, fun H2 t ht htc tp2 x2 => ?_⟩
    walk_at "rd"
    refine ⟨t, rfl, by omega, htc, fun H3 s3 => ?_⟩
    walk_at "rd"
    refine ⟨t, rfl, by omega, fun H4 s4 => ?_⟩
    walk_at "rd"
    refine RD.ndF rfl ?_
    walk_at "rd"
    refine ⟨rfl, fun H5 r s5 nr hr5 => ?_⟩
    walk_at "rd"
    refine RD.tupL (sq hr5) fun p np => ?_
    have hresv : ∀ x ∈ resv, ∀ c ∈ x, c < 1000 := by decide +kernel
    refine RD.neD (d := .tuple (dS resv)) (e := .tuple (dS resv)) (.tup (by rw [← vsts_resv]; exact T.kt_RESERVED _) (dp_S _)) (.tup (st upd_same) (dp_S _)) (sh_T hresv) (sh_T hresv) ?_
    rw [PyData.eqv, eqv_S]
    walk_at "rd"
    refine RD.ndF rfl ?_
    walk_at "rd"
    refine RD.cut (fun σ H' => ∃ o, σ = [some (.ref a), some (.ref t0), some (vst t), some (.bl (isName t)), some (vst o), none, none, none] ∧ Oth o ∧ t ≠ o) ?_ ?_
    · walk_at "rd"
      refine RD.ndec (fun h => ?_) (fun h => ?_)
      · walk_at "rd"
        exact ⟨_, rfl, .inl rfl, h⟩
      · walk_at "rd"
        exact ⟨_, rfl, .inr rfl, by rw [h]; decide +kernel⟩
    rintro σ H6 ⟨o, rfl, ho, hto⟩
    refine RD.cut (fun σ H' => ∃ s, σ = [some (.ref a), some (.ref t0), some (vst t), some (.bl (isName t)), some (vst o), some (vst s), none, none] ∧ Sec s ∧ t ≠ s) ?_ ?_
    · walk_at "rd"
      refine RD.ndec (fun h => ?_) (fun h => ?_)
      · walk_at "rd"
        exact ⟨_, rfl, .inl rfl, h⟩
      · walk_at "rd"
        exact ⟨_, rfl, .inr rfl, by rw [h]; decide +kernel⟩
    rintro σ H7 ⟨s, rfl, hs, hts⟩
    have lo : o.length ≤ 1 := by rcases ho with rfl | rfl <;> decide +kernel
    have ls : s.length ≤ 2 := by rcases hs with rfl | rfl <;> decide +kernel
    have k1 : (tx "let ").length = 4 := by decide +kernel
    have k2 : (tx " = ").length = 3 := by decide +kernel
    have k3 : (tx ".next").length = 5 := by decide +kernel
    have k4 : (tx ".corner").length = 7 := by decide +kernel
    have k5 : (tx "make ").length = 5 := by decide +kernel
    have k6 : (tx " ").length = 1 := by decide +kernel
    have k7 : (tx "new face ").length = 9 := by decide +kernel
    have k8 : (tx "new corner ").length = 11 := by decide +kernel
    have k9 : (tx "routine r ").length = 10 := by decide +kernel
    have k10 : (tx "\n").length = 1 := by decide +kernel
    have k11 : (tx "\nmake ").length = 6 := by decide +kernel
    have k12 : (tx "\ndrop ").length = 6 := by decide +kernel
    have k13 : (tx "routine ").length = 8 := by decide +kernel
    refine RD.cut (fun σ H' => ∃ l, σ = [some (.ref a), some (.ref t0), some (vst t), some (.bl (isName t)), some (vst o), some (vst s), some (.ref l), none] ∧ H' l = some (.lst (vsts [letL t o (tx ".next"), mkL t s, mkL s t]))) ?_ ?_
    · walk_at "rd"
      repeat (refine RD.adds (by simp only [List.length_append, k1, k2, k3, k4, k5, k6, k7, k8]; omega) ?_; walk_at "rd")
      refine ⟨few, fun l nl => ?_⟩
      walk_at "rd"
      exact ⟨l, rfl, upd_same⟩
    rintro σ H8 ⟨l1, rfl, hl1⟩
    refine RD.cut (fun σ H' => ∃ l, σ = [some (.ref a), some (.ref t0), some (vst t), some (.bl (isName t)), some (vst o), some (vst s), some (.ref l), none] ∧ H' l = some (.lst (vsts (lines33 t o s)))) ?_ ?_
    · walk_at "rd"
      repeat (refine RD.adds (by simp only [List.length_append, k1, k2, k3, k4, k5, k6, k7, k8]; omega) ?_; walk_at "rd")
      refine ⟨few, fun l nl => ?_⟩
      have t9 := same_new (o := .lst (vsts [tx "new face " ++ t, tx "new corner " ++ t, letL t o (tx ".corner")])) nl
      refine RD.cat (t9 _ _ hl1) upd_same (szl (by simp [vsts])) fun l2 nl2 => ?_
      walk_at "rd"
      exact ⟨l2, rfl, upd_same⟩
    rintro σ H9 ⟨l, rfl, hl⟩
    walk_at "rd"
    have hL10 := lines33_len ht ho hs
    refine RD.goL (sq hl) (fun i σ G => ∃ o7, σ = [some (.ref a), some (.ref t0), some (vst t), some (.bl (isName t)), some (vst o), some (vst s), some (.ref l), o7] ∧ Same H9 G) ⟨none, rfl, Same.refl _⟩ (fun i σ G _ ⟨_, _, s⟩ => sq (s _ _ hl)) ?_ ?_
    · rintro i y σ G hy ⟨o7, rfl, sG⟩
      obtain ⟨L, hL, rfl⟩ := of_vsts hy
      have hm := List.mem_of_getElem? hL
      have hfact := all33 htc ho hto hs hts L hm
      have hLl := hL10 L hm
      walk_at "rd"
      repeat (refine RD.adds (by simp only [List.length_append, k1, k2, k3, k4, k5, k6, k7, k8, k9, k10, k11, k12, k13]; omega) ?_; walk_at "rd")
      show sp_l_told A [vst (h33 o ++ L)] _ _ _
      unfold h33 at hfact ⊢
      cases hg : isName t with
      | true =>
        refine ⟨_, rfl, (by simp only [List.length_append, k1, k2, k3, k4, k5, k6, k7, k8, k9, k10, k11, k12, k13]; omega), .inl ⟨hfact.1 hg, fun H11 r11 s11 n11 hr11 => ?_⟩⟩
        walk_at "rd"
        refine ⟨few, fun r12 n12 => ?_⟩
        have t12 := same_new (o := .lst []) n12
        skip
        refine RD.neD (dp_nil (t12 _ _ hr11)) (dp_nil upd_same) sh_nil sh_nil ?_
        rw [eq_nil]
        walk_at "rn"
        exact ⟨_, rfl, (sG.trans s11).trans t12⟩
      | false =>
        refine ⟨_, rfl, (by simp only [List.length_append, k1, k2, k3, k4, k5, k6, k7, k8, k9, k10, k11, k12, k13]; omega), .inr ⟨2, hfact.2 hg, fun H11 r11 s11 n11 hr11 => ?_⟩⟩
        walk_at "rd"
        refine ⟨few, fun r12 n12 => ?_⟩
        have t12 := same_new (o := .lst [vn 2, .bl true]) n12
        refine RD.neD (dp_two (n := 2) (t12 _ _ hr11)) (dp_two (n := 2) upd_same) (sh_two _) (sh_two _) ?_
        rw [eq_two]
        walk_at "rn"
        exact ⟨_, rfl, (sG.trans s11).trans t12⟩
    · rintro σ G ⟨o7, rfl, sG⟩
      walk_at "rd"
      repeat (refine RD.adds (by simp only [List.length_append, k1, k2, k3, k4, k5, k6, k7, k8, k9, k10, k11, k12, k13]; omega) ?_; walk_at "rd")
      have hf3 := nam_make3 ho hs
      have e3 : tx "routine r " ++ o ++ tx "\nmake " ++ s ++ tx " " ++ s = h33 o ++ mkL s s := by
        unfold h33 mkL
        rw [show tx "\nmake " = tx "\n" ++ tx "make " by decide +kernel]
        simp
      refine ⟨_, rfl, (by simp only [List.length_append, k1, k2, k3, k4, k5, k6, k7, k8, k9, k10, k11, k12, k13]; omega), .inr ⟨2, by rw [e3]; exact hf3, fun H10 r10 s10 n10 hr10 => ?_⟩⟩
      walk_at "rd"
      refine ⟨few, fun r12 n12 => ?_⟩
      have t12 := same_new (o := .lst [vn 2, .bl true]) n12
      refine RD.neD (dp_two (n := 2) (t12 _ _ hr10)) (dp_two (n := 2) upd_same) (sh_two _) (sh_two _) ?_
      rw [eq_two]
      walk_at "rn"
      repeat (refine RD.adds (by simp only [List.length_append, k1, k2, k3, k4, k5, k6, k7, k8, k9, k10, k11, k12, k13]; omega) ?_; walk_at "rd")
      have hfd := nam_drop htc
      have hfh := nam_head htc ho
      cases hg : isName t with
      | true =>
        refine ⟨_, rfl, (by simp only [List.length_append, k1, k2, k3, k4, k5, k6, k7, k8, k9, k10, k11, k12, k13]; omega), .inl ⟨hfd.1 hg, fun H11 r11 s11 n11 hr11 => ?_⟩⟩
        walk_at "rd"
        refine ⟨few, fun r12 n12 => ?_⟩
        have t12 := same_new (o := .lst []) n12
        skip
        refine RD.neD (dp_nil (t12 _ _ hr11)) (dp_nil upd_same) sh_nil sh_nil ?_
        rw [eq_nil]
        walk_at "rn"
        repeat (refine RD.adds (by simp only [List.length_append, k1, k2, k3, k4, k5, k6, k7, k8, k9, k10, k11, k12, k13]; omega) ?_; walk_at "rd")
        refine ⟨_, rfl, (by simp only [List.length_append, k1, k2, k3, k4, k5, k6, k7, k8, k9, k10, k11, k12, k13]; omega), .inl ⟨hfh.1 hg, fun H13 r13 s13 n13 hr13 => ?_⟩⟩
        walk_at "rd"
        refine ⟨few, fun r14 n14 => ?_⟩
        have t14 := same_new (o := .lst []) n14
        refine RD.eqD (dp_nil (t14 _ _ hr13)) (dp_nil upd_same) sh_nil sh_nil ?_
        rw [eq_nil]
        exact q _
      | false =>
        refine ⟨_, rfl, (by simp only [List.length_append, k1, k2, k3, k4, k5, k6, k7, k8, k9, k10, k11, k12, k13]; omega), .inr ⟨1, hfd.2 hg, fun H11 r11 s11 n11 hr11 => ?_⟩⟩
        walk_at "rd"
        refine ⟨few, fun r12 n12 => ?_⟩
        have t12 := same_new (o := .lst [vn 1, .bl true]) n12
        refine RD.neD (dp_two (n := 1) (t12 _ _ hr11)) (dp_two (n := 1) upd_same) (sh_two _) (sh_two _) ?_
        rw [eq_two]
        walk_at "rn"
        repeat (refine RD.adds (by simp only [List.length_append, k1, k2, k3, k4, k5, k6, k7, k8, k9, k10, k11, k12, k13]; omega) ?_; walk_at "rd")
        refine ⟨_, rfl, (by simp only [List.length_append, k1, k2, k3, k4, k5, k6, k7, k8, k9, k10, k11, k12, k13]; omega), .inr ⟨1, hfh.2 hg, fun H13 r13 s13 n13 hr13 => ?_⟩⟩
        walk_at "rd"
        refine ⟨few, fun r14 n14 => ?_⟩
        have t14 := same_new (o := .lst [vn 1, .bl true]) n14
        refine RD.eqD (dp_two (n := 1) (t14 _ _ hr13)) (dp_two (n := 1) upd_same) (sh_two _) (sh_two _) ?_
        rw [eq_two]
        exact q _
end
end Pf

namespace Pf
open PySem PySem.Spec PyProof.Rows L2
theorem all_mk {l : PySem.W.OpenLaw} {w : World} {K : PySem.W.Frag} {h : Heap} {mg : Str → Option Value} {fa f1 f2 f3 f4 f5 f6 f7 f8 f9 f10 f11 f12 f13 f14 f15 f16 f17 f18 f19 f20 f21 f22 f23 f24 f25 f26 f27 f28 f29 f30 f31 f32 f33 f34 f35 f36 f37 f38 f39 f40 f41 f42 e_Form_d_initd__0 e_Form_d_initd__1 k_RESERVED k_LINKS k_KINDS k_LABEL_LINES C_MeshError C_BadLine C_UnknownName C_WrongKind C_Form C_Names C_RoutineReader C_Routine : Addr} (X : K.In h) (G : h.Ns mainGlobals mg) (hfa : mg "law" = some (.ref fa))
    {od1 an1 : Option Addr} {sl1 : Array (Option Value)} {oc1 kV1 dc1 pm1 cd1 ct1 : Value}
    {od2 an2 : Option Addr} {sl2 : Array (Option Value)} {oc2 kV2 dc2 pm2 cd2 ct2 : Value}
    {od3 an3 : Option Addr} {sl3 : Array (Option Value)} {oc3 kV3 dc3 pm3 cd3 ct3 : Value}
    {od4 an4 : Option Addr} {sl4 : Array (Option Value)} {oc4 kV4 dc4 pm4 cd4 ct4 : Value}
    {od5 an5 : Option Addr} {sl5 : Array (Option Value)} {oc5 kV5 dc5 pm5 cd5 ct5 : Value}
    {od6 an6 : Option Addr} {sl6 : Array (Option Value)} {oc6 kV6 dc6 pm6 cd6 ct6 : Value}
    {od7 an7 : Option Addr} {sl7 : Array (Option Value)} {oc7 kV7 dc7 pm7 cd7 ct7 : Value}
    {od8 an8 : Option Addr} {sl8 : Array (Option Value)} {oc8 kV8 dc8 pm8 cd8 ct8 : Value}
    {od9 an9 : Option Addr} {sl9 : Array (Option Value)} {oc9 kV9 dc9 pm9 cd9 ct9 : Value}
    {od10 an10 : Option Addr} {sl10 : Array (Option Value)} {oc10 kV10 dc10 pm10 cd10 ct10 : Value} {dT10 : Addr} {odt10 : Option Addr} {ndt10 : Nat} {sdt10 : Array (Option Value)}
    {od11 an11 : Option Addr} {sl11 : Array (Option Value)} {oc11 kV11 dc11 pm11 cd11 ct11 : Value}
    {od12 an12 : Option Addr} {sl12 : Array (Option Value)} {oc12 kV12 dc12 pm12 cd12 ct12 : Value}
    {od13 an13 : Option Addr} {sl13 : Array (Option Value)} {oc13 kV13 dc13 pm13 cd13 ct13 : Value}
    {od14 an14 : Option Addr} {sl14 : Array (Option Value)} {oc14 kV14 dc14 pm14 cd14 ct14 : Value}
    {od15 an15 : Option Addr} {sl15 : Array (Option Value)} {oc15 kV15 dc15 pm15 cd15 ct15 : Value}
    {od16 an16 : Option Addr} {sl16 : Array (Option Value)} {oc16 kV16 dc16 pm16 cd16 ct16 : Value}
    {od17 an17 : Option Addr} {sl17 : Array (Option Value)} {oc17 kV17 dc17 pm17 cd17 ct17 : Value}
    {od18 an18 : Option Addr} {sl18 : Array (Option Value)} {oc18 kV18 dc18 pm18 cd18 ct18 : Value}
    {od19 an19 : Option Addr} {sl19 : Array (Option Value)} {oc19 kV19 dc19 pm19 cd19 ct19 : Value}
    {od20 an20 : Option Addr} {sl20 : Array (Option Value)} {oc20 kV20 dc20 pm20 cd20 ct20 : Value}
    {od21 an21 : Option Addr} {sl21 : Array (Option Value)} {oc21 kV21 dc21 pm21 cd21 ct21 : Value}
    {od22 an22 : Option Addr} {sl22 : Array (Option Value)} {oc22 kV22 dc22 pm22 cd22 ct22 : Value}
    {od23 an23 : Option Addr} {sl23 : Array (Option Value)} {oc23 kV23 dc23 pm23 cd23 ct23 : Value}
    {od24 an24 : Option Addr} {sl24 : Array (Option Value)} {oc24 kV24 dc24 pm24 cd24 ct24 : Value}
    {od25 an25 : Option Addr} {sl25 : Array (Option Value)} {oc25 kV25 dc25 pm25 cd25 ct25 : Value}
    {od26 an26 : Option Addr} {sl26 : Array (Option Value)} {oc26 kV26 dc26 pm26 cd26 ct26 : Value}
    {od27 an27 : Option Addr} {sl27 : Array (Option Value)} {oc27 kV27 dc27 pm27 cd27 ct27 : Value}
    {od28 an28 : Option Addr} {sl28 : Array (Option Value)} {oc28 kV28 dc28 pm28 cd28 ct28 : Value}
    {od29 an29 : Option Addr} {sl29 : Array (Option Value)} {oc29 kV29 dc29 pm29 cd29 ct29 : Value}
    {od30 an30 : Option Addr} {sl30 : Array (Option Value)} {oc30 kV30 dc30 pm30 cd30 ct30 : Value}
    {od31 an31 : Option Addr} {sl31 : Array (Option Value)} {oc31 kV31 dc31 pm31 cd31 ct31 : Value}
    {od32 an32 : Option Addr} {sl32 : Array (Option Value)} {oc32 kV32 dc32 pm32 cd32 ct32 : Value}
    {od33 an33 : Option Addr} {sl33 : Array (Option Value)} {oc33 kV33 dc33 pm33 cd33 ct33 : Value}
    {od34 an34 : Option Addr} {sl34 : Array (Option Value)} {oc34 kV34 dc34 pm34 cd34 ct34 : Value}
    {od35 an35 : Option Addr} {sl35 : Array (Option Value)} {oc35 kV35 dc35 pm35 cd35 ct35 : Value}
    {od36 an36 : Option Addr} {sl36 : Array (Option Value)} {oc36 kV36 dc36 pm36 cd36 ct36 : Value}
    {od37 an37 : Option Addr} {sl37 : Array (Option Value)} {oc37 kV37 dc37 pm37 cd37 ct37 : Value}
    {od38 an38 : Option Addr} {sl38 : Array (Option Value)} {oc38 kV38 dc38 pm38 cd38 ct38 : Value}
    {od39 an39 : Option Addr} {sl39 : Array (Option Value)} {oc39 kV39 dc39 pm39 cd39 ct39 : Value}
    {od40 an40 : Option Addr} {sl40 : Array (Option Value)} {oc40 kV40 dc40 pm40 cd40 ct40 : Value}
    {od41 an41 : Option Addr} {sl41 : Array (Option Value)} {oc41 kV41 dc41 pm41 cd41 ct41 : Value}
    {od42 an42 : Option Addr} {sl42 : Array (Option Value)} {oc42 kV42 dc42 pm42 cd42 ct42 : Value}
    {ot10_0 : Option Addr} {nt10_0 : Nat} {stt10_0 : Array (Option Value)}
    {ot10_1 : Option Addr} {nt10_1 : Nat} {stt10_1 : Array (Option Value)}
    {tk_FIRST_CHARS : Tok}
    {tk_CHARS : Tok}
    {tk_MOST_LINES : Tok}
    {tk_MOST_BLOCKS : Tok}
    {tk_MOST_LINKS : Tok}
    {tk_HALF : Tok}
    {oq_RESERVED : Option Addr} {nq_RESERVED : Nat} {sq_RESERVED : Array (Option Value)} {tq0_RESERVED tq1_RESERVED tq2_RESERVED tq3_RESERVED tq4_RESERVED tq5_RESERVED tq6_RESERVED tq7_RESERVED tq8_RESERVED tq9_RESERVED tq10_RESERVED tq11_RESERVED tq12_RESERVED tq13_RESERVED tq14_RESERVED tq15_RESERVED tq16_RESERVED tq17_RESERVED tq18_RESERVED : Tok}
    {oq_LINKS : Option Addr} {nq_LINKS : Nat} {sq_LINKS : Array (Option Value)} {tq0_LINKS tq1_LINKS tq2_LINKS : Tok}
    {oq_KINDS : Option Addr} {nq_KINDS : Nat} {sq_KINDS : Array (Option Value)} {tq0_KINDS tq1_KINDS : Tok}
    {oq_LABEL_LINES : Option Addr} {nq_LABEL_LINES : Nat} {sq_LABEL_LINES : Array (Option Value)} {tq0_LABEL_LINES tq1_LABEL_LINES tq2_LABEL_LINES tq3_LABEL_LINES : Tok}
    (aC_MeshError : PySem.W.nsIn K mainGlobals "MeshError" = some (some (.ref C_MeshError)))
    (aC_BadLine : PySem.W.nsIn K mainGlobals "BadLine" = some (some (.ref C_BadLine)))
    (aC_UnknownName : PySem.W.nsIn K mainGlobals "UnknownName" = some (some (.ref C_UnknownName)))
    (aC_WrongKind : PySem.W.nsIn K mainGlobals "WrongKind" = some (some (.ref C_WrongKind)))
    (aC_Form : PySem.W.nsIn K mainGlobals "Form" = some (some (.ref C_Form)))
    (aC_Names : PySem.W.nsIn K mainGlobals "Names" = some (some (.ref C_Names)))
    (aC_RoutineReader : PySem.W.nsIn K mainGlobals "RoutineReader" = some (some (.ref C_RoutineReader)))
    (aC_Routine : PySem.W.nsIn K mainGlobals "Routine" = some (some (.ref C_Routine)))
    (a1 : PySem.W.findIn K (.ref C_BadLine) "__init__" = some (some (.ref f1)))
    (i1 : PySem.W.isFn K (.ref f1) = true)
    (l1 : K.lookup f1 = some ⟨oc1, od1, .func (PySem.W.fnOf "__init__" "BadLine.__init__" (defArgs s_BadLine_d_initd_) (defBody s_BadLine_d_initd_) (defScope s_BadLine_d_initd_) .none kV1 dc1 pm1 an1 cd1 ct1), sl1⟩)
    (c1 : PySem.W.codeIn K cd1 "BadLine.__init__" = true)
    (k1 : PySem.W.keepIn K (.ref f1) = true)
    (a2 : PySem.W.findIn K (.ref C_UnknownName) "__init__" = some (some (.ref f2)))
    (i2 : PySem.W.isFn K (.ref f2) = true)
    (l2 : K.lookup f2 = some ⟨oc2, od2, .func (PySem.W.fnOf "__init__" "UnknownName.__init__" (defArgs s_UnknownName_d_initd_) (defBody s_UnknownName_d_initd_) (defScope s_UnknownName_d_initd_) .none kV2 dc2 pm2 an2 cd2 ct2), sl2⟩)
    (c2 : PySem.W.codeIn K cd2 "UnknownName.__init__" = true)
    (k2 : PySem.W.keepIn K (.ref f2) = true)
    (a3 : PySem.W.findIn K (.ref C_WrongKind) "__init__" = some (some (.ref f3)))
    (i3 : PySem.W.isFn K (.ref f3) = true)
    (l3 : K.lookup f3 = some ⟨oc3, od3, .func (PySem.W.fnOf "__init__" "WrongKind.__init__" (defArgs s_WrongKind_d_initd_) (defBody s_WrongKind_d_initd_) (defScope s_WrongKind_d_initd_) .none kV3 dc3 pm3 an3 cd3 ct3), sl3⟩)
    (c3 : PySem.W.codeIn K cd3 "WrongKind.__init__" = true)
    (k3 : PySem.W.keepIn K (.ref f3) = true)
    (a4 : PySem.W.nsIn K mainGlobals "is_word" = some (some (.ref f4)))
    (l4 : K.lookup f4 = some ⟨oc4, od4, .func (PySem.W.fnOf "is_word" "is_word" (defArgs s_is_word) (defBody s_is_word) (defScope s_is_word) .none kV4 dc4 pm4 an4 cd4 ct4), sl4⟩)
    (c4 : PySem.W.codeIn K cd4 "is_word" = true)
    (k4 : PySem.W.keepIn K (.ref f4) = true)
    (a5 : PySem.W.nsIn K mainGlobals "is_name" = some (some (.ref f5)))
    (l5 : K.lookup f5 = some ⟨oc5, od5, .func (PySem.W.fnOf "is_name" "is_name" (defArgs s_is_name) (defBody s_is_name) (defScope s_is_name) .none kV5 dc5 pm5 an5 cd5 ct5), sl5⟩)
    (c5 : PySem.W.codeIn K cd5 "is_name" = true)
    (k5 : PySem.W.keepIn K (.ref f5) = true)
    (a6 : PySem.W.nsIn K mainGlobals "path_of" = some (some (.ref f6)))
    (l6 : K.lookup f6 = some ⟨oc6, od6, .func (PySem.W.fnOf "path_of" "path_of" (defArgs s_path_of) (defBody s_path_of) (defScope s_path_of) .none kV6 dc6 pm6 an6 cd6 ct6), sl6⟩)
    (c6 : PySem.W.codeIn K cd6 "path_of" = true)
    (k6 : PySem.W.keepIn K (.ref f6) = true)
    (a7 : PySem.W.nsIn K mainGlobals "side_of" = some (some (.ref f7)))
    (l7 : K.lookup f7 = some ⟨oc7, od7, .func (PySem.W.fnOf "side_of" "side_of" (defArgs s_side_of) (defBody s_side_of) (defScope s_side_of) .none kV7 dc7 pm7 an7 cd7 ct7), sl7⟩)
    (c7 : PySem.W.codeIn K cd7 "side_of" = true)
    (k7 : PySem.W.keepIn K (.ref f7) = true)
    (a8 : PySem.W.nsIn K mainGlobals "condition_of" = some (some (.ref f8)))
    (l8 : K.lookup f8 = some ⟨oc8, od8, .func (PySem.W.fnOf "condition_of" "condition_of" (defArgs s_condition_of) (defBody s_condition_of) (defScope s_condition_of) .none kV8 dc8 pm8 an8 cd8 ct8), sl8⟩)
    (c8 : PySem.W.codeIn K cd8 "condition_of" = true)
    (k8 : PySem.W.keepIn K (.ref f8) = true)
    (a9 : PySem.W.nsIn K mainGlobals "condition_names" = some (some (.ref f9)))
    (l9 : K.lookup f9 = some ⟨oc9, od9, .func (PySem.W.fnOf "condition_names" "condition_names" (defArgs s_condition_names) (defBody s_condition_names) (defScope s_condition_names) .none kV9 dc9 pm9 an9 cd9 ct9), sl9⟩)
    (c9 : PySem.W.codeIn K cd9 "condition_names" = true)
    (k9 : PySem.W.keepIn K (.ref f9) = true)
    (a10 : PySem.W.findIn K (.ref C_Form) "__init__" = some (some (.ref f10)))
    (i10 : PySem.W.isFn K (.ref f10) = true)
    (l10 : K.lookup f10 = some ⟨oc10, od10, .func (PySem.W.fnOf "__init__" "Form.__init__" (defArgs s_Form_d_initd_) (defBody s_Form_d_initd_) (defScope s_Form_d_initd_) (.ref dT10) kV10 dc10 pm10 an10 cd10 ct10), sl10⟩)
    (c10 : PySem.W.codeIn K cd10 "Form.__init__" = true)
    (k10 : PySem.W.keepIn K (.ref f10) = true)
    (a11 : PySem.W.findIn K (.ref C_Form) "is_good" = some (some (.ref f11)))
    (i11 : PySem.W.isFn K (.ref f11) = true)
    (l11 : K.lookup f11 = some ⟨oc11, od11, .func (PySem.W.fnOf "is_good" "Form.is_good" (defArgs s_Form_is_good) (defBody s_Form_is_good) (defScope s_Form_is_good) .none kV11 dc11 pm11 an11 cd11 ct11), sl11⟩)
    (c11 : PySem.W.codeIn K cd11 "Form.is_good" = true)
    (k11 : PySem.W.keepIn K (.ref f11) = true)
    (a12 : PySem.W.nsIn K mainGlobals "let_form" = some (some (.ref f12)))
    (l12 : K.lookup f12 = some ⟨oc12, od12, .func (PySem.W.fnOf "let_form" "let_form" (defArgs s_let_form) (defBody s_let_form) (defScope s_let_form) .none kV12 dc12 pm12 an12 cd12 ct12), sl12⟩)
    (c12 : PySem.W.codeIn K cd12 "let_form" = true)
    (k12 : PySem.W.keepIn K (.ref f12) = true)
    (a13 : PySem.W.nsIn K mainGlobals "write_form" = some (some (.ref f13)))
    (l13 : K.lookup f13 = some ⟨oc13, od13, .func (PySem.W.fnOf "write_form" "write_form" (defArgs s_write_form) (defBody s_write_form) (defScope s_write_form) .none kV13 dc13 pm13 an13 cd13 ct13), sl13⟩)
    (c13 : PySem.W.codeIn K cd13 "write_form" = true)
    (k13 : PySem.W.keepIn K (.ref f13) = true)
    (a14 : PySem.W.nsIn K mainGlobals "round_form" = some (some (.ref f14)))
    (l14 : K.lookup f14 = some ⟨oc14, od14, .func (PySem.W.fnOf "round_form" "round_form" (defArgs s_round_form) (defBody s_round_form) (defScope s_round_form) .none kV14 dc14 pm14 an14 cd14 ct14), sl14⟩)
    (c14 : PySem.W.codeIn K cd14 "round_form" = true)
    (k14 : PySem.W.keepIn K (.ref f14) = true)
    (a15 : PySem.W.nsIn K mainGlobals "condition_form" = some (some (.ref f15)))
    (l15 : K.lookup f15 = some ⟨oc15, od15, .func (PySem.W.fnOf "condition_form" "condition_form" (defArgs s_condition_form) (defBody s_condition_form) (defScope s_condition_form) .none kV15 dc15 pm15 an15 cd15 ct15), sl15⟩)
    (c15 : PySem.W.codeIn K cd15 "condition_form" = true)
    (k15 : PySem.W.keepIn K (.ref f15) = true)
    (a16 : PySem.W.nsIn K mainGlobals "tell_form" = some (some (.ref f16)))
    (l16 : K.lookup f16 = some ⟨oc16, od16, .func (PySem.W.fnOf "tell_form" "tell_form" (defArgs s_tell_form) (defBody s_tell_form) (defScope s_tell_form) .none kV16 dc16 pm16 an16 cd16 ct16), sl16⟩)
    (c16 : PySem.W.codeIn K cd16 "tell_form" = true)
    (k16 : PySem.W.keepIn K (.ref f16) = true)
    (a17 : PySem.W.nsIn K mainGlobals "form_of" = some (some (.ref f17)))
    (l17 : K.lookup f17 = some ⟨oc17, od17, .func (PySem.W.fnOf "form_of" "form_of" (defArgs s_form_of) (defBody s_form_of) (defScope s_form_of) .none kV17 dc17 pm17 an17 cd17 ct17), sl17⟩)
    (c17 : PySem.W.codeIn K cd17 "form_of" = true)
    (k17 : PySem.W.keepIn K (.ref f17) = true)
    (a18 : PySem.W.nsIn K mainGlobals "is_right_kind" = some (some (.ref f18)))
    (l18 : K.lookup f18 = some ⟨oc18, od18, .func (PySem.W.fnOf "is_right_kind" "is_right_kind" (defArgs s_is_right_kind) (defBody s_is_right_kind) (defScope s_is_right_kind) .none kV18 dc18 pm18 an18 cd18 ct18), sl18⟩)
    (c18 : PySem.W.codeIn K cd18 "is_right_kind" = true)
    (k18 : PySem.W.keepIn K (.ref f18) = true)
    (a19 : PySem.W.nsIn K mainGlobals "first_line" = some (some (.ref f19)))
    (l19 : K.lookup f19 = some ⟨oc19, od19, .func (PySem.W.fnOf "first_line" "first_line" (defArgs s_first_line) (defBody s_first_line) (defScope s_first_line) .none kV19 dc19 pm19 an19 cd19 ct19), sl19⟩)
    (c19 : PySem.W.codeIn K cd19 "first_line" = true)
    (k19 : PySem.W.keepIn K (.ref f19) = true)
    (a20 : PySem.W.findIn K (.ref C_Names) "__init__" = some (some (.ref f20)))
    (i20 : PySem.W.isFn K (.ref f20) = true)
    (l20 : K.lookup f20 = some ⟨oc20, od20, .func (PySem.W.fnOf "__init__" "Names.__init__" (defArgs s_Names_d_initd_) (defBody s_Names_d_initd_) (defScope s_Names_d_initd_) .none kV20 dc20 pm20 an20 cd20 ct20), sl20⟩)
    (c20 : PySem.W.codeIn K cd20 "Names.__init__" = true)
    (k20 : PySem.W.keepIn K (.ref f20) = true)
    (a21 : PySem.W.findIn K (.ref C_Names) "kind_of" = some (some (.ref f21)))
    (i21 : PySem.W.isFn K (.ref f21) = true)
    (l21 : K.lookup f21 = some ⟨oc21, od21, .func (PySem.W.fnOf "kind_of" "Names.kind_of" (defArgs s_Names_kind_of) (defBody s_Names_kind_of) (defScope s_Names_kind_of) .none kV21 dc21 pm21 an21 cd21 ct21), sl21⟩)
    (c21 : PySem.W.codeIn K cd21 "Names.kind_of" = true)
    (k21 : PySem.W.keepIn K (.ref f21) = true)
    (a22 : PySem.W.findIn K (.ref C_Names) "open_block" = some (some (.ref f22)))
    (i22 : PySem.W.isFn K (.ref f22) = true)
    (l22 : K.lookup f22 = some ⟨oc22, od22, .func (PySem.W.fnOf "open_block" "Names.open_block" (defArgs s_Names_open_block) (defBody s_Names_open_block) (defScope s_Names_open_block) .none kV22 dc22 pm22 an22 cd22 ct22), sl22⟩)
    (c22 : PySem.W.codeIn K cd22 "Names.open_block" = true)
    (k22 : PySem.W.keepIn K (.ref f22) = true)
    (a23 : PySem.W.findIn K (.ref C_Names) "close_block" = some (some (.ref f23)))
    (i23 : PySem.W.isFn K (.ref f23) = true)
    (l23 : K.lookup f23 = some ⟨oc23, od23, .func (PySem.W.fnOf "close_block" "Names.close_block" (defArgs s_Names_close_block) (defBody s_Names_close_block) (defScope s_Names_close_block) .none kV23 dc23 pm23 an23 cd23 ct23), sl23⟩)
    (c23 : PySem.W.codeIn K cd23 "Names.close_block" = true)
    (k23 : PySem.W.keepIn K (.ref f23) = true)
    (a24 : PySem.W.findIn K (.ref C_Names) "check" = some (some (.ref f24)))
    (i24 : PySem.W.isFn K (.ref f24) = true)
    (l24 : K.lookup f24 = some ⟨oc24, od24, .func (PySem.W.fnOf "check" "Names.check" (defArgs s_Names_check) (defBody s_Names_check) (defScope s_Names_check) .none kV24 dc24 pm24 an24 cd24 ct24), sl24⟩)
    (c24 : PySem.W.codeIn K cd24 "Names.check" = true)
    (k24 : PySem.W.keepIn K (.ref f24) = true)
    (a25 : PySem.W.findIn K (.ref C_Names) "is_free" = some (some (.ref f25)))
    (i25 : PySem.W.isFn K (.ref f25) = true)
    (l25 : K.lookup f25 = some ⟨oc25, od25, .func (PySem.W.fnOf "is_free" "Names.is_free" (defArgs s_Names_is_free) (defBody s_Names_is_free) (defScope s_Names_is_free) .none kV25 dc25 pm25 an25 cd25 ct25), sl25⟩)
    (c25 : PySem.W.codeIn K cd25 "Names.is_free" = true)
    (k25 : PySem.W.keepIn K (.ref f25) = true)
    (a26 : PySem.W.findIn K (.ref C_Names) "bind" = some (some (.ref f26)))
    (i26 : PySem.W.isFn K (.ref f26) = true)
    (l26 : K.lookup f26 = some ⟨oc26, od26, .func (PySem.W.fnOf "bind" "Names.bind" (defArgs s_Names_bind) (defBody s_Names_bind) (defScope s_Names_bind) .none kV26 dc26 pm26 an26 cd26 ct26), sl26⟩)
    (c26 : PySem.W.codeIn K cd26 "Names.bind" = true)
    (k26 : PySem.W.keepIn K (.ref f26) = true)
    (a27 : PySem.W.findIn K (.ref C_RoutineReader) "__init__" = some (some (.ref f27)))
    (i27 : PySem.W.isFn K (.ref f27) = true)
    (l27 : K.lookup f27 = some ⟨oc27, od27, .func (PySem.W.fnOf "__init__" "RoutineReader.__init__" (defArgs s_RoutineReader_d_initd_) (defBody s_RoutineReader_d_initd_) (defScope s_RoutineReader_d_initd_) .none kV27 dc27 pm27 an27 cd27 ct27), sl27⟩)
    (c27 : PySem.W.codeIn K cd27 "RoutineReader.__init__" = true)
    (k27 : PySem.W.keepIn K (.ref f27) = true)
    (a28 : PySem.W.findIn K (.ref C_RoutineReader) "read" = some (some (.ref f28)))
    (i28 : PySem.W.isFn K (.ref f28) = true)
    (l28 : K.lookup f28 = some ⟨oc28, od28, .func (PySem.W.fnOf "read" "RoutineReader.read" (defArgs s_RoutineReader_read) (defBody s_RoutineReader_read) (defScope s_RoutineReader_read) .none kV28 dc28 pm28 an28 cd28 ct28), sl28⟩)
    (c28 : PySem.W.codeIn K cd28 "RoutineReader.read" = true)
    (k28 : PySem.W.keepIn K (.ref f28) = true)
    (a29 : PySem.W.findIn K (.ref C_RoutineReader) "read_line" = some (some (.ref f29)))
    (i29 : PySem.W.isFn K (.ref f29) = true)
    (l29 : K.lookup f29 = some ⟨oc29, od29, .func (PySem.W.fnOf "read_line" "RoutineReader.read_line" (defArgs s_RoutineReader_read_line) (defBody s_RoutineReader_read_line) (defScope s_RoutineReader_read_line) .none kV29 dc29 pm29 an29 cd29 ct29), sl29⟩)
    (c29 : PySem.W.codeIn K cd29 "RoutineReader.read_line" = true)
    (k29 : PySem.W.keepIn K (.ref f29) = true)
    (a30 : PySem.W.findIn K (.ref C_RoutineReader) "may_stand" = some (some (.ref f30)))
    (i30 : PySem.W.isFn K (.ref f30) = true)
    (l30 : K.lookup f30 = some ⟨oc30, od30, .func (PySem.W.fnOf "may_stand" "RoutineReader.may_stand" (defArgs s_RoutineReader_may_stand) (defBody s_RoutineReader_may_stand) (defScope s_RoutineReader_may_stand) .none kV30 dc30 pm30 an30 cd30 ct30), sl30⟩)
    (c30 : PySem.W.codeIn K cd30 "RoutineReader.may_stand" = true)
    (k30 : PySem.W.keepIn K (.ref f30) = true)
    (a31 : PySem.W.findIn K (.ref C_RoutineReader) "resolved" = some (some (.ref f31)))
    (i31 : PySem.W.isFn K (.ref f31) = true)
    (l31 : K.lookup f31 = some ⟨oc31, od31, .func (PySem.W.fnOf "resolved" "RoutineReader.resolved" (defArgs s_RoutineReader_resolved) (defBody s_RoutineReader_resolved) (defScope s_RoutineReader_resolved) .none kV31 dc31 pm31 an31 cd31 ct31), sl31⟩)
    (c31 : PySem.W.codeIn K cd31 "RoutineReader.resolved" = true)
    (k31 : PySem.W.keepIn K (.ref f31) = true)
    (a32 : PySem.W.findIn K (.ref C_RoutineReader) "add" = some (some (.ref f32)))
    (i32 : PySem.W.isFn K (.ref f32) = true)
    (l32 : K.lookup f32 = some ⟨oc32, od32, .func (PySem.W.fnOf "add" "RoutineReader.add" (defArgs s_RoutineReader_add) (defBody s_RoutineReader_add) (defScope s_RoutineReader_add) .none kV32 dc32 pm32 an32 cd32 ct32), sl32⟩)
    (c32 : PySem.W.codeIn K cd32 "RoutineReader.add" = true)
    (k32 : PySem.W.keepIn K (.ref f32) = true)
    (a33 : PySem.W.findIn K (.ref C_Routine) "__init__" = some (some (.ref f33)))
    (i33 : PySem.W.isFn K (.ref f33) = true)
    (l33 : K.lookup f33 = some ⟨oc33, od33, .func (PySem.W.fnOf "__init__" "Routine.__init__" (defArgs s_Routine_d_initd_) (defBody s_Routine_d_initd_) (defScope s_Routine_d_initd_) .none kV33 dc33 pm33 an33 cd33 ct33), sl33⟩)
    (c33 : PySem.W.codeIn K cd33 "Routine.__init__" = true)
    (k33 : PySem.W.keepIn K (.ref f33) = true)
    (a34 : PySem.W.findIn K (.ref C_Routine) "__len__" = some (some (.ref f34)))
    (i34 : PySem.W.isFn K (.ref f34) = true)
    (l34 : K.lookup f34 = some ⟨oc34, od34, .func (PySem.W.fnOf "__len__" "Routine.__len__" (defArgs s_Routine_d_lend_) (defBody s_Routine_d_lend_) (defScope s_Routine_d_lend_) .none kV34 dc34 pm34 an34 cd34 ct34), sl34⟩)
    (c34 : PySem.W.codeIn K cd34 "Routine.__len__" = true)
    (k34 : PySem.W.keepIn K (.ref f34) = true)
    (a35 : PySem.W.nsIn K mainGlobals "read_routine" = some (some (.ref f35)))
    (l35 : K.lookup f35 = some ⟨oc35, od35, .func (PySem.W.fnOf "read_routine" "read_routine" (defArgs s_read_routine) (defBody s_read_routine) (defScope s_read_routine) .none kV35 dc35 pm35 an35 cd35 ct35), sl35⟩)
    (c35 : PySem.W.codeIn K cd35 "read_routine" = true)
    (k35 : PySem.W.keepIn K (.ref f35) = true)
    (a36 : PySem.W.nsIn K mainGlobals "_law_tape" = some (some (.ref f36)))
    (l36 : K.lookup f36 = some ⟨oc36, od36, .func (PySem.W.fnOf "_law_tape" "_law_tape" (defArgs s_l_tape) (defBody s_l_tape) (defScope s_l_tape) .none kV36 dc36 pm36 an36 cd36 ct36), sl36⟩)
    (c36 : PySem.W.codeIn K cd36 "_law_tape" = true)
    (k36 : PySem.W.keepIn K (.ref f36) = true)
    (a37 : PySem.W.nsIn K mainGlobals "_law_pick" = some (some (.ref f37)))
    (l37 : K.lookup f37 = some ⟨oc37, od37, .func (PySem.W.fnOf "_law_pick" "_law_pick" (defArgs s_l_pick) (defBody s_l_pick) (defScope s_l_pick) .none kV37 dc37 pm37 an37 cd37 ct37), sl37⟩)
    (c37 : PySem.W.codeIn K cd37 "_law_pick" = true)
    (k37 : PySem.W.keepIn K (.ref f37) = true)
    (a38 : PySem.W.nsIn K mainGlobals "_law_reserved" = some (some (.ref f38)))
    (l38 : K.lookup f38 = some ⟨oc38, od38, .func (PySem.W.fnOf "_law_reserved" "_law_reserved" (defArgs s_l_reserved) (defBody s_l_reserved) (defScope s_l_reserved) .none kV38 dc38 pm38 an38 cd38 ct38), sl38⟩)
    (c38 : PySem.W.codeIn K cd38 "_law_reserved" = true)
    (k38 : PySem.W.keepIn K (.ref f38) = true)
    (a39 : PySem.W.nsIn K mainGlobals "_law_string" = some (some (.ref f39)))
    (l39 : K.lookup f39 = some ⟨oc39, od39, .func (PySem.W.fnOf "_law_string" "_law_string" (defArgs s_l_string) (defBody s_l_string) (defScope s_l_string) .none kV39 dc39 pm39 an39 cd39 ct39), sl39⟩)
    (c39 : PySem.W.codeIn K cd39 "_law_string" = true)
    (k39 : PySem.W.keepIn K (.ref f39) = true)
    (a40 : PySem.W.nsIn K mainGlobals "_law_good" = some (some (.ref f40)))
    (l40 : K.lookup f40 = some ⟨oc40, od40, .func (PySem.W.fnOf "_law_good" "_law_good" (defArgs s_l_good) (defBody s_l_good) (defScope s_l_good) .none kV40 dc40 pm40 an40 cd40 ct40), sl40⟩)
    (c40 : PySem.W.codeIn K cd40 "_law_good" = true)
    (k40 : PySem.W.keepIn K (.ref f40) = true)
    (a41 : PySem.W.nsIn K mainGlobals "_law_told" = some (some (.ref f41)))
    (l41 : K.lookup f41 = some ⟨oc41, od41, .func (PySem.W.fnOf "_law_told" "_law_told" (defArgs s_l_told) (defBody s_l_told) (defScope s_l_told) .none kV41 dc41 pm41 an41 cd41 ct41), sl41⟩)
    (c41 : PySem.W.codeIn K cd41 "_law_told" = true)
    (k41 : PySem.W.keepIn K (.ref f41) = true)
    (a42 : PySem.W.nsIn K mainGlobals "law" = some (some (.ref f42)))
    (l42 : K.lookup f42 = some ⟨oc42, od42, .func (PySem.W.fnOf "law" "law" (defArgs s_law) (defBody s_law) (defScope s_law) .none kV42 dc42 pm42 an42 cd42 ct42), sl42⟩)
    (c42 : PySem.W.codeIn K cd42 "law" = true)
    (k42 : PySem.W.keepIn K (.ref f42) = true)
    (dl10 : K.lookup dT10 = some ⟨.type "tuple", odt10, .seq #[.ref e_Form_d_initd__0, .ref e_Form_d_initd__1] ndt10, sdt10⟩)
    (de10_0 : K.lookup e_Form_d_initd__0 = some ⟨.type "tuple", ot10_0, .seq #[] nt10_0, stt10_0⟩)
    (de10_1 : K.lookup e_Form_d_initd__1 = some ⟨.type "tuple", ot10_1, .seq #[] nt10_1, stt10_1⟩)
    (hk_BadLine : PySem.W.keepIn K (.ref C_BadLine) = true)
    (hs_BadLine : PySem.W.subIn K (.ref C_BadLine) (.type "BaseException") = some true)
    (ht_BadLine : PySem.W.typeIn K (.ref C_BadLine) = some (.type "type"))
    (hi_BadLine : PySem.W.isClsIn K C_BadLine = true)
    (hss_BadLine : PySem.W.subIn K (.ref C_BadLine) (.ref C_BadLine) = some true)
    (hxg_BadLine : PySem.W.findIn K (.ref C_BadLine) "__getattribute__" = some (some (.builtin "BaseException.__getattribute__")))
    (hxk_BadLine : PySem.W.findIn K (.ref C_BadLine) "__getattr__" = some none)
    (hxd_BadLine : PySem.W.hasDictIn K C_BadLine = true)
    (hxa_BadLine : PySem.W.findIn K (.ref C_BadLine) "__class__" = some (some (.builtin "object.__class__")))
    (hxm_BadLine : PySem.W.mroIn K C_BadLine (.type "object") = some true)
    (hox_BadLine : RD.oexB K C_BadLine = true)
    (hsa_BadLine : PySem.W.findIn K (.ref C_BadLine) "__setattr__" = some (some (.builtin "object.__setattr__")))
    (hini_BadLine : PySem.W.findIn K (.ref C_BadLine) "__init__" = some (some (.ref f1)))
    (htin_BadLine : PySem.W.typeIn K (.ref f1) = some (.type "function"))
    (hna_BadLine_line : PySem.W.findIn K (.ref C_BadLine) "line" = some none)
    (hki_BadLine_MeshError : PySem.W.kitOne K (.ref C_BadLine) (.ref C_MeshError) = some true)
    (hki_BadLine_ValueError : PySem.W.kitOne K (.ref C_BadLine) (.type "ValueError") = some true)
    (hk_UnknownName : PySem.W.keepIn K (.ref C_UnknownName) = true)
    (hs_UnknownName : PySem.W.subIn K (.ref C_UnknownName) (.type "BaseException") = some true)
    (ht_UnknownName : PySem.W.typeIn K (.ref C_UnknownName) = some (.type "type"))
    (hi_UnknownName : PySem.W.isClsIn K C_UnknownName = true)
    (hss_UnknownName : PySem.W.subIn K (.ref C_UnknownName) (.ref C_UnknownName) = some true)
    (hxg_UnknownName : PySem.W.findIn K (.ref C_UnknownName) "__getattribute__" = some (some (.builtin "BaseException.__getattribute__")))
    (hxk_UnknownName : PySem.W.findIn K (.ref C_UnknownName) "__getattr__" = some none)
    (hxd_UnknownName : PySem.W.hasDictIn K C_UnknownName = true)
    (hxa_UnknownName : PySem.W.findIn K (.ref C_UnknownName) "__class__" = some (some (.builtin "object.__class__")))
    (hxm_UnknownName : PySem.W.mroIn K C_UnknownName (.type "object") = some true)
    (hox_UnknownName : RD.oexB K C_UnknownName = true)
    (hsa_UnknownName : PySem.W.findIn K (.ref C_UnknownName) "__setattr__" = some (some (.builtin "object.__setattr__")))
    (hini_UnknownName : PySem.W.findIn K (.ref C_UnknownName) "__init__" = some (some (.ref f2)))
    (htin_UnknownName : PySem.W.typeIn K (.ref f2) = some (.type "function"))
    (hna_UnknownName_line : PySem.W.findIn K (.ref C_UnknownName) "line" = some none)
    (hna_UnknownName_name : PySem.W.findIn K (.ref C_UnknownName) "name" = some none)
    (hki_UnknownName_MeshError : PySem.W.kitOne K (.ref C_UnknownName) (.ref C_MeshError) = some true)
    (hem_UnknownName_BadLine : PySem.W.exmOne K (.ref C_UnknownName) (.ref C_BadLine) = some false)
    (hk_WrongKind : PySem.W.keepIn K (.ref C_WrongKind) = true)
    (hs_WrongKind : PySem.W.subIn K (.ref C_WrongKind) (.type "BaseException") = some true)
    (ht_WrongKind : PySem.W.typeIn K (.ref C_WrongKind) = some (.type "type"))
    (hi_WrongKind : PySem.W.isClsIn K C_WrongKind = true)
    (hss_WrongKind : PySem.W.subIn K (.ref C_WrongKind) (.ref C_WrongKind) = some true)
    (hxg_WrongKind : PySem.W.findIn K (.ref C_WrongKind) "__getattribute__" = some (some (.builtin "BaseException.__getattribute__")))
    (hxk_WrongKind : PySem.W.findIn K (.ref C_WrongKind) "__getattr__" = some none)
    (hxd_WrongKind : PySem.W.hasDictIn K C_WrongKind = true)
    (hxa_WrongKind : PySem.W.findIn K (.ref C_WrongKind) "__class__" = some (some (.builtin "object.__class__")))
    (hxm_WrongKind : PySem.W.mroIn K C_WrongKind (.type "object") = some true)
    (hox_WrongKind : RD.oexB K C_WrongKind = true)
    (hsa_WrongKind : PySem.W.findIn K (.ref C_WrongKind) "__setattr__" = some (some (.builtin "object.__setattr__")))
    (hini_WrongKind : PySem.W.findIn K (.ref C_WrongKind) "__init__" = some (some (.ref f3)))
    (htin_WrongKind : PySem.W.typeIn K (.ref f3) = some (.type "function"))
    (hna_WrongKind_line : PySem.W.findIn K (.ref C_WrongKind) "line" = some none)
    (hna_WrongKind_name : PySem.W.findIn K (.ref C_WrongKind) "name" = some none)
    (hki_WrongKind_MeshError : PySem.W.kitOne K (.ref C_WrongKind) (.ref C_MeshError) = some true)
    (hem_WrongKind_BadLine : PySem.W.exmOne K (.ref C_WrongKind) (.ref C_BadLine) = some false)
    (pg_Form : PySem.W.plainGet K C_Form Str.empty = true)
    (hd_Form : PySem.W.hasDictIn K C_Form = true)
    (po_Form : PySem.W.plainOver K C_Form = true)
    (sa_Form : PySem.W.findIn K (.ref C_Form) "__setattr__" = some (some (.builtin "object.__setattr__")))
    (mk_Form : PySem.W.makesIn K C_Form = true)
    (kc_Form : PySem.W.keepIn K (.ref C_Form) = true)
    (hn_Form_bound : PySem.W.findIn K (.ref C_Form) "bound" = some none)
    (hn_Form_statement : PySem.W.findIn K (.ref C_Form) "statement" = some none)
    (hn_Form_uses : PySem.W.findIn K (.ref C_Form) "uses" = some none)
    (pg_Names : PySem.W.plainGet K C_Names Str.empty = true)
    (hd_Names : PySem.W.hasDictIn K C_Names = true)
    (po_Names : PySem.W.plainOver K C_Names = true)
    (sa_Names : PySem.W.findIn K (.ref C_Names) "__setattr__" = some (some (.builtin "object.__setattr__")))
    (mk_Names : PySem.W.makesIn K C_Names = true)
    (kc_Names : PySem.W.keepIn K (.ref C_Names) = true)
    (hn_Names_scopes : PySem.W.findIn K (.ref C_Names) "scopes" = some none)
    (pg_RoutineReader : PySem.W.plainGet K C_RoutineReader Str.empty = true)
    (hd_RoutineReader : PySem.W.hasDictIn K C_RoutineReader = true)
    (po_RoutineReader : PySem.W.plainOver K C_RoutineReader = true)
    (sa_RoutineReader : PySem.W.findIn K (.ref C_RoutineReader) "__setattr__" = some (some (.builtin "object.__setattr__")))
    (mk_RoutineReader : PySem.W.makesIn K C_RoutineReader = true)
    (kc_RoutineReader : PySem.W.keepIn K (.ref C_RoutineReader) = true)
    (hn_RoutineReader_blocks : PySem.W.findIn K (.ref C_RoutineReader) "blocks" = some none)
    (hn_RoutineReader_has_labels : PySem.W.findIn K (.ref C_RoutineReader) "has_labels" = some none)
    (hn_RoutineReader_lines : PySem.W.findIn K (.ref C_RoutineReader) "lines" = some none)
    (hn_RoutineReader_offset : PySem.W.findIn K (.ref C_RoutineReader) "offset" = some none)
    (hn_RoutineReader_statements : PySem.W.findIn K (.ref C_RoutineReader) "statements" = some none)
    (pg_Routine : PySem.W.plainGet K C_Routine Str.empty = true)
    (hd_Routine : PySem.W.hasDictIn K C_Routine = true)
    (po_Routine : PySem.W.plainOver K C_Routine = true)
    (sa_Routine : PySem.W.findIn K (.ref C_Routine) "__setattr__" = some (some (.builtin "object.__setattr__")))
    (mk_Routine : PySem.W.makesIn K C_Routine = true)
    (kc_Routine : PySem.W.keepIn K (.ref C_Routine) = true)
    (hn_Routine_halves : PySem.W.findIn K (.ref C_Routine) "halves" = some none)
    (hn_Routine_lines : PySem.W.findIn K (.ref C_Routine) "lines" = some none)
    (hn_Routine_name : PySem.W.findIn K (.ref C_Routine) "name" = some none)
    (hn_Routine_statements : PySem.W.findIn K (.ref C_Routine) "statements" = some none)
    (hn_Routine_told : PySem.W.findIn K (.ref C_Routine) "told" = some none)
    (hz_ValueError : PySem.W.nsIn K mainGlobals "ValueError" = some none)
    (hz_abs : PySem.W.nsIn K mainGlobals "abs" = some none)
    (hz_all : PySem.W.nsIn K mainGlobals "all" = some none)
    (hz_bool : PySem.W.nsIn K mainGlobals "bool" = some none)
    (hz_int : PySem.W.nsIn K mainGlobals "int" = some none)
    (hz_isinstance : PySem.W.nsIn K mainGlobals "isinstance" = some none)
    (hz_len : PySem.W.nsIn K mainGlobals "len" = some none)
    (hz_list : PySem.W.nsIn K mainGlobals "list" = some none)
    (hz_range : PySem.W.nsIn K mainGlobals "range" = some none)
    (hz_set : PySem.W.nsIn K mainGlobals "set" = some none)
    (hz_tuple : PySem.W.nsIn K mainGlobals "tuple" = some none)
    (hk_FIRST_CHARS : PySem.W.nsIn K mainGlobals "FIRST_CHARS" = some (some (.str "abcdefghijklmnopqrstuvwxyz" tk_FIRST_CHARS)))
    (hk_CHARS : PySem.W.nsIn K mainGlobals "CHARS" = some (some (.str "abcdefghijklmnopqrstuvwxyz0123456789" tk_CHARS)))
    (hk_MOST_LINES : PySem.W.nsIn K mainGlobals "MOST_LINES" = some (some (.int 60 tk_MOST_LINES)))
    (hk_MOST_BLOCKS : PySem.W.nsIn K mainGlobals "MOST_BLOCKS" = some (some (.int 3 tk_MOST_BLOCKS)))
    (hk_MOST_LINKS : PySem.W.nsIn K mainGlobals "MOST_LINKS" = some (some (.int 4 tk_MOST_LINKS)))
    (hk_HALF : PySem.W.nsIn K mainGlobals "HALF" = some (some (.str "half" tk_HALF)))
    (hoc_get : PySem.W.specialIn K (.builtin "object.__class__") "__get__" = some (some (.builtin "getset_descriptor.__get__")))
    (hoc_tak : PySem.W.takesIn K (.builtin "object.__class__") = some true)
    (hg_RESERVED : PySem.W.nsIn K mainGlobals "RESERVED" = some (some (.ref k_RESERVED)))
    (hq_RESERVED : K.lookup k_RESERVED = some ⟨.type "tuple", oq_RESERVED, .seq #[.str "routine" tq0_RESERVED, .str "script" tq1_RESERVED, .str "given" tq2_RESERVED, .str "let" tq3_RESERVED, .str "make" tq4_RESERVED, .str "drop" tq5_RESERVED, .str "if" tq6_RESERVED, .str "else" tq7_RESERVED, .str "end" tq8_RESERVED, .str "new" tq9_RESERVED, .str "round" tq10_RESERVED, .str "tell" tq11_RESERVED, .str "call" tq12_RESERVED, .str "next" tq13_RESERVED, .str "prev" tq14_RESERVED, .str "twin" tq15_RESERVED, .str "face" tq16_RESERVED, .str "corner" tq17_RESERVED, .str "some" tq18_RESERVED] nq_RESERVED, sq_RESERVED⟩)
    (hg_LINKS : PySem.W.nsIn K mainGlobals "LINKS" = some (some (.ref k_LINKS)))
    (hq_LINKS : K.lookup k_LINKS = some ⟨.type "tuple", oq_LINKS, .seq #[.str "next" tq0_LINKS, .str "prev" tq1_LINKS, .str "twin" tq2_LINKS] nq_LINKS, sq_LINKS⟩)
    (hg_KINDS : PySem.W.nsIn K mainGlobals "KINDS" = some (some (.ref k_KINDS)))
    (hq_KINDS : K.lookup k_KINDS = some ⟨.type "tuple", oq_KINDS, .seq #[.str "face" tq0_KINDS, .str "corner" tq1_KINDS] nq_KINDS, sq_KINDS⟩)
    (hg_LABEL_LINES : PySem.W.nsIn K mainGlobals "LABEL_LINES" = some (some (.ref k_LABEL_LINES)))
    (hq_LABEL_LINES : K.lookup k_LABEL_LINES = some ⟨.type "tuple", oq_LABEL_LINES, .seq #[.str "new" tq0_LABEL_LINES, .str "bear" tq1_LABEL_LINES, .str "round" tq2_LABEL_LINES, .str "some" tq3_LABEL_LINES] nq_LABEL_LINES, sq_LABEL_LINES⟩)
    : ∃ fd : FuncData, (∀ (s : Shared) (v : Value), BindsTo s fd ⟨[v], []⟩ [("_law_script", v)]) ∧ ∀ base : Heap, K.In base → base.Ns mainGlobals mg → FnOk l.prog w K mg base CX0 11 fa fd ["_law_script"] (sp_law K) := by
  have e := hfa.symm.trans (PySem.W.mg_of X G a42)
  cases e
  let A : Ad := ⟨f1, (PySem.W.fnOf "__init__" "BadLine.__init__" (defArgs s_BadLine_d_initd_) (defBody s_BadLine_d_initd_) (defScope s_BadLine_d_initd_) .none kV1 dc1 pm1 an1 cd1 ct1), f2, (PySem.W.fnOf "__init__" "UnknownName.__init__" (defArgs s_UnknownName_d_initd_) (defBody s_UnknownName_d_initd_) (defScope s_UnknownName_d_initd_) .none kV2 dc2 pm2 an2 cd2 ct2), f3, (PySem.W.fnOf "__init__" "WrongKind.__init__" (defArgs s_WrongKind_d_initd_) (defBody s_WrongKind_d_initd_) (defScope s_WrongKind_d_initd_) .none kV3 dc3 pm3 an3 cd3 ct3), f4, (PySem.W.fnOf "is_word" "is_word" (defArgs s_is_word) (defBody s_is_word) (defScope s_is_word) .none kV4 dc4 pm4 an4 cd4 ct4), f5, (PySem.W.fnOf "is_name" "is_name" (defArgs s_is_name) (defBody s_is_name) (defScope s_is_name) .none kV5 dc5 pm5 an5 cd5 ct5), f6, (PySem.W.fnOf "path_of" "path_of" (defArgs s_path_of) (defBody s_path_of) (defScope s_path_of) .none kV6 dc6 pm6 an6 cd6 ct6), f7, (PySem.W.fnOf "side_of" "side_of" (defArgs s_side_of) (defBody s_side_of) (defScope s_side_of) .none kV7 dc7 pm7 an7 cd7 ct7), f8, (PySem.W.fnOf "condition_of" "condition_of" (defArgs s_condition_of) (defBody s_condition_of) (defScope s_condition_of) .none kV8 dc8 pm8 an8 cd8 ct8), f9, (PySem.W.fnOf "condition_names" "condition_names" (defArgs s_condition_names) (defBody s_condition_names) (defScope s_condition_names) .none kV9 dc9 pm9 an9 cd9 ct9), f10, (PySem.W.fnOf "__init__" "Form.__init__" (defArgs s_Form_d_initd_) (defBody s_Form_d_initd_) (defScope s_Form_d_initd_) (.ref dT10) kV10 dc10 pm10 an10 cd10 ct10), f11, (PySem.W.fnOf "is_good" "Form.is_good" (defArgs s_Form_is_good) (defBody s_Form_is_good) (defScope s_Form_is_good) .none kV11 dc11 pm11 an11 cd11 ct11), f12, (PySem.W.fnOf "let_form" "let_form" (defArgs s_let_form) (defBody s_let_form) (defScope s_let_form) .none kV12 dc12 pm12 an12 cd12 ct12), f13, (PySem.W.fnOf "write_form" "write_form" (defArgs s_write_form) (defBody s_write_form) (defScope s_write_form) .none kV13 dc13 pm13 an13 cd13 ct13), f14, (PySem.W.fnOf "round_form" "round_form" (defArgs s_round_form) (defBody s_round_form) (defScope s_round_form) .none kV14 dc14 pm14 an14 cd14 ct14), f15, (PySem.W.fnOf "condition_form" "condition_form" (defArgs s_condition_form) (defBody s_condition_form) (defScope s_condition_form) .none kV15 dc15 pm15 an15 cd15 ct15), f16, (PySem.W.fnOf "tell_form" "tell_form" (defArgs s_tell_form) (defBody s_tell_form) (defScope s_tell_form) .none kV16 dc16 pm16 an16 cd16 ct16), f17, (PySem.W.fnOf "form_of" "form_of" (defArgs s_form_of) (defBody s_form_of) (defScope s_form_of) .none kV17 dc17 pm17 an17 cd17 ct17), f18, (PySem.W.fnOf "is_right_kind" "is_right_kind" (defArgs s_is_right_kind) (defBody s_is_right_kind) (defScope s_is_right_kind) .none kV18 dc18 pm18 an18 cd18 ct18), f19, (PySem.W.fnOf "first_line" "first_line" (defArgs s_first_line) (defBody s_first_line) (defScope s_first_line) .none kV19 dc19 pm19 an19 cd19 ct19), f20, (PySem.W.fnOf "__init__" "Names.__init__" (defArgs s_Names_d_initd_) (defBody s_Names_d_initd_) (defScope s_Names_d_initd_) .none kV20 dc20 pm20 an20 cd20 ct20), f21, (PySem.W.fnOf "kind_of" "Names.kind_of" (defArgs s_Names_kind_of) (defBody s_Names_kind_of) (defScope s_Names_kind_of) .none kV21 dc21 pm21 an21 cd21 ct21), f22, (PySem.W.fnOf "open_block" "Names.open_block" (defArgs s_Names_open_block) (defBody s_Names_open_block) (defScope s_Names_open_block) .none kV22 dc22 pm22 an22 cd22 ct22), f23, (PySem.W.fnOf "close_block" "Names.close_block" (defArgs s_Names_close_block) (defBody s_Names_close_block) (defScope s_Names_close_block) .none kV23 dc23 pm23 an23 cd23 ct23), f24, (PySem.W.fnOf "check" "Names.check" (defArgs s_Names_check) (defBody s_Names_check) (defScope s_Names_check) .none kV24 dc24 pm24 an24 cd24 ct24), f25, (PySem.W.fnOf "is_free" "Names.is_free" (defArgs s_Names_is_free) (defBody s_Names_is_free) (defScope s_Names_is_free) .none kV25 dc25 pm25 an25 cd25 ct25), f26, (PySem.W.fnOf "bind" "Names.bind" (defArgs s_Names_bind) (defBody s_Names_bind) (defScope s_Names_bind) .none kV26 dc26 pm26 an26 cd26 ct26), f27, (PySem.W.fnOf "__init__" "RoutineReader.__init__" (defArgs s_RoutineReader_d_initd_) (defBody s_RoutineReader_d_initd_) (defScope s_RoutineReader_d_initd_) .none kV27 dc27 pm27 an27 cd27 ct27), f28, (PySem.W.fnOf "read" "RoutineReader.read" (defArgs s_RoutineReader_read) (defBody s_RoutineReader_read) (defScope s_RoutineReader_read) .none kV28 dc28 pm28 an28 cd28 ct28), f29, (PySem.W.fnOf "read_line" "RoutineReader.read_line" (defArgs s_RoutineReader_read_line) (defBody s_RoutineReader_read_line) (defScope s_RoutineReader_read_line) .none kV29 dc29 pm29 an29 cd29 ct29), f30, (PySem.W.fnOf "may_stand" "RoutineReader.may_stand" (defArgs s_RoutineReader_may_stand) (defBody s_RoutineReader_may_stand) (defScope s_RoutineReader_may_stand) .none kV30 dc30 pm30 an30 cd30 ct30), f31, (PySem.W.fnOf "resolved" "RoutineReader.resolved" (defArgs s_RoutineReader_resolved) (defBody s_RoutineReader_resolved) (defScope s_RoutineReader_resolved) .none kV31 dc31 pm31 an31 cd31 ct31), f32, (PySem.W.fnOf "add" "RoutineReader.add" (defArgs s_RoutineReader_add) (defBody s_RoutineReader_add) (defScope s_RoutineReader_add) .none kV32 dc32 pm32 an32 cd32 ct32), f33, (PySem.W.fnOf "__init__" "Routine.__init__" (defArgs s_Routine_d_initd_) (defBody s_Routine_d_initd_) (defScope s_Routine_d_initd_) .none kV33 dc33 pm33 an33 cd33 ct33), f34, (PySem.W.fnOf "__len__" "Routine.__len__" (defArgs s_Routine_d_lend_) (defBody s_Routine_d_lend_) (defScope s_Routine_d_lend_) .none kV34 dc34 pm34 an34 cd34 ct34), f35, (PySem.W.fnOf "read_routine" "read_routine" (defArgs s_read_routine) (defBody s_read_routine) (defScope s_read_routine) .none kV35 dc35 pm35 an35 cd35 ct35), f36, (PySem.W.fnOf "_law_tape" "_law_tape" (defArgs s_l_tape) (defBody s_l_tape) (defScope s_l_tape) .none kV36 dc36 pm36 an36 cd36 ct36), f37, (PySem.W.fnOf "_law_pick" "_law_pick" (defArgs s_l_pick) (defBody s_l_pick) (defScope s_l_pick) .none kV37 dc37 pm37 an37 cd37 ct37), f38, (PySem.W.fnOf "_law_reserved" "_law_reserved" (defArgs s_l_reserved) (defBody s_l_reserved) (defScope s_l_reserved) .none kV38 dc38 pm38 an38 cd38 ct38), f39, (PySem.W.fnOf "_law_string" "_law_string" (defArgs s_l_string) (defBody s_l_string) (defScope s_l_string) .none kV39 dc39 pm39 an39 cd39 ct39), f40, (PySem.W.fnOf "_law_good" "_law_good" (defArgs s_l_good) (defBody s_l_good) (defScope s_l_good) .none kV40 dc40 pm40 an40 cd40 ct40), f41, (PySem.W.fnOf "_law_told" "_law_told" (defArgs s_l_told) (defBody s_l_told) (defScope s_l_told) .none kV41 dc41 pm41 an41 cd41 ct41), fa, (PySem.W.fnOf "law" "law" (defArgs s_law) (defBody s_law) (defScope s_law) .none kV42 dc42 pm42 an42 cd42 ct42), e_Form_d_initd__0, e_Form_d_initd__1, k_RESERVED, k_LINKS, k_KINDS, k_LABEL_LINES, C_MeshError, C_BadLine, C_UnknownName, C_WrongKind, C_Form, C_Names, C_RoutineReader, C_Routine⟩
  have T : Txt K mg A := ⟨fun_mk (st := s_BadLine_d_initd_) l1 c1 k1,
    (fun_mk (st := s_BadLine_d_initd_) l1 c1 k1).binds (ps := ["self", "line"]) fun _ _ _ _ _ _ us hl => match us, hl with | [_, _], _ => rfl,
    fun_mk (st := s_UnknownName_d_initd_) l2 c2 k2,
    (fun_mk (st := s_UnknownName_d_initd_) l2 c2 k2).binds (ps := ["self", "line", "name"]) fun _ _ _ _ _ _ us hl => match us, hl with | [_, _, _], _ => rfl,
    fun_mk (st := s_WrongKind_d_initd_) l3 c3 k3,
    (fun_mk (st := s_WrongKind_d_initd_) l3 c3 k3).binds (ps := ["self", "line", "name"]) fun _ _ _ _ _ _ us hl => match us, hl with | [_, _, _], _ => rfl,
    fun_mk (st := s_is_word) l4 c4 k4,
    (fun_mk (st := s_is_word) l4 c4 k4).binds (ps := ["text"]) fun _ _ _ _ _ _ us hl => match us, hl with | [_], _ => rfl,
    PySem.W.mg_of X G a4,
    fun_mk (st := s_is_name) l5 c5 k5,
    (fun_mk (st := s_is_name) l5 c5 k5).binds (ps := ["text"]) fun _ _ _ _ _ _ us hl => match us, hl with | [_], _ => rfl,
    PySem.W.mg_of X G a5,
    fun_mk (st := s_path_of) l6 c6 k6,
    (fun_mk (st := s_path_of) l6 c6 k6).binds (ps := ["text"]) fun _ _ _ _ _ _ us hl => match us, hl with | [_], _ => rfl,
    PySem.W.mg_of X G a6,
    fun_mk (st := s_side_of) l7 c7 k7,
    (fun_mk (st := s_side_of) l7 c7 k7).binds (ps := ["text"]) fun _ _ _ _ _ _ us hl => match us, hl with | [_], _ => rfl,
    PySem.W.mg_of X G a7,
    fun_mk (st := s_condition_of) l8 c8 k8,
    (fun_mk (st := s_condition_of) l8 c8 k8).binds (ps := ["words"]) fun _ _ _ _ _ _ us hl => match us, hl with | [_], _ => rfl,
    PySem.W.mg_of X G a8,
    fun_mk (st := s_condition_names) l9 c9 k9,
    (fun_mk (st := s_condition_names) l9 c9 k9).binds (ps := ["condition"]) fun _ _ _ _ _ _ us hl => match us, hl with | [_], _ => rfl,
    PySem.W.mg_of X G a9,
    RD.fun_mkV (st := s_Form_d_initd_) l10 c10 k10,
    fun s us X hl => match us, (show us.length = 2 by simpa using hl) with | [_, _], _ => BindsTo.of_looks fun M => looks_items X dl10 rfl (.of_pure rfl),
    fun s us X hl => match us, (show us.length = 3 by simpa using hl) with | [_, _, _], _ => BindsTo.of_looks fun M => looks_items X dl10 rfl (.of_pure rfl),
    fun s us X hl => match us, (show us.length = 4 by simpa using hl) with | [_, _, _, _], _ => BindsTo.of_looks fun M => looks_items X dl10 rfl (.of_pure rfl),
    fun H => .inr ⟨_, _, _, de10_0, rfl, rfl, Nat.zero_le _, .nil⟩,
    fun H => .inr ⟨_, _, _, de10_1, rfl, rfl, Nat.zero_le _, .nil⟩,
    ⟨a10, i10, k10⟩,
    fun_mk (st := s_Form_is_good) l11 c11 k11,
    (fun_mk (st := s_Form_is_good) l11 c11 k11).binds (ps := ["self"]) fun _ _ _ _ _ _ us hl => match us, hl with | [_], _ => rfl,
    ⟨a11, i11, k11⟩,
    fun_mk (st := s_let_form) l12 c12 k12,
    (fun_mk (st := s_let_form) l12 c12 k12).binds (ps := ["words"]) fun _ _ _ _ _ _ us hl => match us, hl with | [_], _ => rfl,
    PySem.W.mg_of X G a12,
    fun_mk (st := s_write_form) l13 c13 k13,
    (fun_mk (st := s_write_form) l13 c13 k13).binds (ps := ["words"]) fun _ _ _ _ _ _ us hl => match us, hl with | [_], _ => rfl,
    PySem.W.mg_of X G a13,
    fun_mk (st := s_round_form) l14 c14 k14,
    (fun_mk (st := s_round_form) l14 c14 k14).binds (ps := ["words"]) fun _ _ _ _ _ _ us hl => match us, hl with | [_], _ => rfl,
    PySem.W.mg_of X G a14,
    fun_mk (st := s_condition_form) l15 c15 k15,
    (fun_mk (st := s_condition_form) l15 c15 k15).binds (ps := ["words"]) fun _ _ _ _ _ _ us hl => match us, hl with | [_], _ => rfl,
    PySem.W.mg_of X G a15,
    fun_mk (st := s_tell_form) l16 c16 k16,
    (fun_mk (st := s_tell_form) l16 c16 k16).binds (ps := ["words"]) fun _ _ _ _ _ _ us hl => match us, hl with | [_], _ => rfl,
    PySem.W.mg_of X G a16,
    fun_mk (st := s_form_of) l17 c17 k17,
    (fun_mk (st := s_form_of) l17 c17 k17).binds (ps := ["line"]) fun _ _ _ _ _ _ us hl => match us, hl with | [_], _ => rfl,
    PySem.W.mg_of X G a17,
    fun_mk (st := s_is_right_kind) l18 c18 k18,
    (fun_mk (st := s_is_right_kind) l18 c18 k18).binds (ps := ["kind", "needed"]) fun _ _ _ _ _ _ us hl => match us, hl with | [_, _], _ => rfl,
    PySem.W.mg_of X G a18,
    fun_mk (st := s_first_line) l19 c19 k19,
    (fun_mk (st := s_first_line) l19 c19 k19).binds (ps := ["line", "word"]) fun _ _ _ _ _ _ us hl => match us, hl with | [_, _], _ => rfl,
    PySem.W.mg_of X G a19,
    fun_mk (st := s_Names_d_initd_) l20 c20 k20,
    (fun_mk (st := s_Names_d_initd_) l20 c20 k20).binds (ps := ["self", "halves"]) fun _ _ _ _ _ _ us hl => match us, hl with | [_, _], _ => rfl,
    ⟨a20, i20, k20⟩,
    fun_mk (st := s_Names_kind_of) l21 c21 k21,
    (fun_mk (st := s_Names_kind_of) l21 c21 k21).binds (ps := ["self", "name"]) fun _ _ _ _ _ _ us hl => match us, hl with | [_, _], _ => rfl,
    ⟨a21, i21, k21⟩,
    fun_mk (st := s_Names_open_block) l22 c22 k22,
    (fun_mk (st := s_Names_open_block) l22 c22 k22).binds (ps := ["self"]) fun _ _ _ _ _ _ us hl => match us, hl with | [_], _ => rfl,
    ⟨a22, i22, k22⟩,
    fun_mk (st := s_Names_close_block) l23 c23 k23,
    (fun_mk (st := s_Names_close_block) l23 c23 k23).binds (ps := ["self"]) fun _ _ _ _ _ _ us hl => match us, hl with | [_], _ => rfl,
    ⟨a23, i23, k23⟩,
    fun_mk (st := s_Names_check) l24 c24 k24,
    (fun_mk (st := s_Names_check) l24 c24 k24).binds (ps := ["self", "form", "number"]) fun _ _ _ _ _ _ us hl => match us, hl with | [_, _, _], _ => rfl,
    ⟨a24, i24, k24⟩,
    fun_mk (st := s_Names_is_free) l25 c25 k25,
    (fun_mk (st := s_Names_is_free) l25 c25 k25).binds (ps := ["self", "form"]) fun _ _ _ _ _ _ us hl => match us, hl with | [_, _], _ => rfl,
    ⟨a25, i25, k25⟩,
    fun_mk (st := s_Names_bind) l26 c26 k26,
    (fun_mk (st := s_Names_bind) l26 c26 k26).binds (ps := ["self", "form"]) fun _ _ _ _ _ _ us hl => match us, hl with | [_, _], _ => rfl,
    ⟨a26, i26, k26⟩,
    fun_mk (st := s_RoutineReader_d_initd_) l27 c27 k27,
    (fun_mk (st := s_RoutineReader_d_initd_) l27 c27 k27).binds (ps := ["self", "lines", "offset"]) fun _ _ _ _ _ _ us hl => match us, hl with | [_, _, _], _ => rfl,
    ⟨a27, i27, k27⟩,
    fun_mk (st := s_RoutineReader_read) l28 c28 k28,
    (fun_mk (st := s_RoutineReader_read) l28 c28 k28).binds (ps := ["self"]) fun _ _ _ _ _ _ us hl => match us, hl with | [_], _ => rfl,
    ⟨a28, i28, k28⟩,
    fun_mk (st := s_RoutineReader_read_line) l29 c29 k29,
    (fun_mk (st := s_RoutineReader_read_line) l29 c29 k29).binds (ps := ["self", "at", "known"]) fun _ _ _ _ _ _ us hl => match us, hl with | [_, _, _], _ => rfl,
    ⟨a29, i29, k29⟩,
    fun_mk (st := s_RoutineReader_may_stand) l30 c30 k30,
    (fun_mk (st := s_RoutineReader_may_stand) l30 c30 k30).binds (ps := ["self", "statement", "at"]) fun _ _ _ _ _ _ us hl => match us, hl with | [_, _, _], _ => rfl,
    ⟨a30, i30, k30⟩,
    fun_mk (st := s_RoutineReader_resolved) l31 c31 k31,
    (fun_mk (st := s_RoutineReader_resolved) l31 c31 k31).binds (ps := ["self", "statement", "known"]) fun _ _ _ _ _ _ us hl => match us, hl with | [_, _, _], _ => rfl,
    ⟨a31, i31, k31⟩,
    fun_mk (st := s_RoutineReader_add) l32 c32 k32,
    (fun_mk (st := s_RoutineReader_add) l32 c32 k32).binds (ps := ["self", "statement", "at", "known"]) fun _ _ _ _ _ _ us hl => match us, hl with | [_, _, _, _], _ => rfl,
    ⟨a32, i32, k32⟩,
    fun_mk (st := s_Routine_d_initd_) l33 c33 k33,
    (fun_mk (st := s_Routine_d_initd_) l33 c33 k33).binds (ps := ["self", "names", "told", "lines", "statements"]) fun _ _ _ _ _ _ us hl => match us, hl with | [_, _, _, _, _], _ => rfl,
    ⟨a33, i33, k33⟩,
    fun_mk (st := s_Routine_d_lend_) l34 c34 k34,
    (fun_mk (st := s_Routine_d_lend_) l34 c34 k34).binds (ps := ["self"]) fun _ _ _ _ _ _ us hl => match us, hl with | [_], _ => rfl,
    ⟨a34, i34, k34⟩,
    fun_mk (st := s_read_routine) l35 c35 k35,
    (fun_mk (st := s_read_routine) l35 c35 k35).binds (ps := ["text"]) fun _ _ _ _ _ _ us hl => match us, hl with | [_], _ => rfl,
    PySem.W.mg_of X G a35,
    fun_mk (st := s_l_tape) l36 c36 k36,
    (fun_mk (st := s_l_tape) l36 c36 k36).binds (ps := ["_law_script", "_law_k"]) fun _ _ _ _ _ _ us hl => match us, hl with | [_, _], _ => rfl,
    PySem.W.mg_of X G a36,
    fun_mk (st := s_l_pick) l37 c37 k37,
    (fun_mk (st := s_l_pick) l37 c37 k37).binds (ps := ["_law_tape_here", "_law_many"]) fun _ _ _ _ _ _ us hl => match us, hl with | [_, _], _ => rfl,
    PySem.W.mg_of X G a37,
    fun_mk (st := s_l_reserved) l38 c38 k38,
    (fun_mk (st := s_l_reserved) l38 c38 k38).binds (ps := []) fun _ _ _ _ _ _ us hl => match us, hl with | [], _ => rfl,
    PySem.W.mg_of X G a38,
    fun_mk (st := s_l_string) l39 c39 k39,
    (fun_mk (st := s_l_string) l39 c39 k39).binds (ps := ["_law_tape_here"]) fun _ _ _ _ _ _ us hl => match us, hl with | [_], _ => rfl,
    PySem.W.mg_of X G a39,
    fun_mk (st := s_l_good) l40 c40 k40,
    (fun_mk (st := s_l_good) l40 c40 k40).binds (ps := ["_law_text"]) fun _ _ _ _ _ _ us hl => match us, hl with | [_], _ => rfl,
    PySem.W.mg_of X G a40,
    fun_mk (st := s_l_told) l41 c41 k41,
    (fun_mk (st := s_l_told) l41 c41 k41).binds (ps := ["_law_text"]) fun _ _ _ _ _ _ us hl => match us, hl with | [_], _ => rfl,
    PySem.W.mg_of X G a41,
    fun_mk (st := s_law) l42 c42 k42,
    (fun_mk (st := s_law) l42 c42 k42).binds (ps := ["_law_script"]) fun _ _ _ _ _ _ us hl => match us, hl with | [_], _ => rfl,
    PySem.W.mg_of X G a42,
    PySem.W.mg_of X G aC_MeshError,
    PySem.W.mg_of X G aC_BadLine,
    hk_BadLine,
    hs_BadLine,
    ht_BadLine,
    hi_BadLine,
    hss_BadLine,
    hxg_BadLine,
    hxk_BadLine,
    hxd_BadLine,
    hxa_BadLine,
    hxm_BadLine,
    hox_BadLine,
    hsa_BadLine,
    hini_BadLine,
    htin_BadLine,
    hna_BadLine_line,
    hki_BadLine_MeshError,
    hki_BadLine_ValueError,
    PySem.W.mg_of X G aC_UnknownName,
    hk_UnknownName,
    hs_UnknownName,
    ht_UnknownName,
    hi_UnknownName,
    hss_UnknownName,
    hxg_UnknownName,
    hxk_UnknownName,
    hxd_UnknownName,
    hxa_UnknownName,
    hxm_UnknownName,
    hox_UnknownName,
    hsa_UnknownName,
    hini_UnknownName,
    htin_UnknownName,
    hna_UnknownName_line,
    hna_UnknownName_name,
    hki_UnknownName_MeshError,
    hem_UnknownName_BadLine,
    PySem.W.mg_of X G aC_WrongKind,
    hk_WrongKind,
    hs_WrongKind,
    ht_WrongKind,
    hi_WrongKind,
    hss_WrongKind,
    hxg_WrongKind,
    hxk_WrongKind,
    hxd_WrongKind,
    hxa_WrongKind,
    hxm_WrongKind,
    hox_WrongKind,
    hsa_WrongKind,
    hini_WrongKind,
    htin_WrongKind,
    hna_WrongKind_line,
    hna_WrongKind_name,
    hki_WrongKind_MeshError,
    hem_WrongKind_BadLine,
    PySem.W.mg_of X G aC_Form,
    ⟨pg_Form, hd_Form, po_Form, sa_Form⟩,
    ⟨mk_Form, a10, i10, kc_Form⟩,
    hn_Form_bound,
    hn_Form_statement,
    hn_Form_uses,
    PySem.W.mg_of X G aC_Names,
    ⟨pg_Names, hd_Names, po_Names, sa_Names⟩,
    ⟨mk_Names, a20, i20, kc_Names⟩,
    hn_Names_scopes,
    PySem.W.mg_of X G aC_RoutineReader,
    ⟨pg_RoutineReader, hd_RoutineReader, po_RoutineReader, sa_RoutineReader⟩,
    ⟨mk_RoutineReader, a27, i27, kc_RoutineReader⟩,
    hn_RoutineReader_blocks,
    hn_RoutineReader_has_labels,
    hn_RoutineReader_lines,
    hn_RoutineReader_offset,
    hn_RoutineReader_statements,
    PySem.W.mg_of X G aC_Routine,
    ⟨pg_Routine, hd_Routine, po_Routine, sa_Routine⟩,
    ⟨mk_Routine, a33, i33, kc_Routine⟩,
    hn_Routine_halves,
    hn_Routine_lines,
    hn_Routine_name,
    hn_Routine_statements,
    hn_Routine_told,
    PySem.W.mg_none_of X G hz_ValueError,
    PySem.W.mg_none_of X G hz_abs,
    PySem.W.mg_none_of X G hz_all,
    PySem.W.mg_none_of X G hz_bool,
    PySem.W.mg_none_of X G hz_int,
    PySem.W.mg_none_of X G hz_isinstance,
    PySem.W.mg_none_of X G hz_len,
    PySem.W.mg_none_of X G hz_list,
    PySem.W.mg_none_of X G hz_range,
    PySem.W.mg_none_of X G hz_set,
    PySem.W.mg_none_of X G hz_tuple,
    ⟨_, PySem.W.mg_of X G hk_FIRST_CHARS⟩,
    ⟨_, PySem.W.mg_of X G hk_CHARS⟩,
    ⟨_, PySem.W.mg_of X G hk_MOST_LINES⟩,
    ⟨_, PySem.W.mg_of X G hk_MOST_BLOCKS⟩,
    ⟨_, PySem.W.mg_of X G hk_MOST_LINKS⟩,
    ⟨_, PySem.W.mg_of X G hk_HALF⟩,
    hoc_get,
    hoc_tak,
    PySem.W.mg_of X G hg_RESERVED,
    fun H => .inr ⟨_, _, _, hq_RESERVED, rfl, rfl, (show (19 : Nat) ≤ sizeLine by decide), .cons ⟨_, rfl⟩ (.cons ⟨_, rfl⟩ (.cons ⟨_, rfl⟩ (.cons ⟨_, rfl⟩ (.cons ⟨_, rfl⟩ (.cons ⟨_, rfl⟩ (.cons ⟨_, rfl⟩ (.cons ⟨_, rfl⟩ (.cons ⟨_, rfl⟩ (.cons ⟨_, rfl⟩ (.cons ⟨_, rfl⟩ (.cons ⟨_, rfl⟩ (.cons ⟨_, rfl⟩ (.cons ⟨_, rfl⟩ (.cons ⟨_, rfl⟩ (.cons ⟨_, rfl⟩ (.cons ⟨_, rfl⟩ (.cons ⟨_, rfl⟩ (.cons ⟨_, rfl⟩ (.nil)))))))))))))))))))⟩,
    PySem.W.mg_of X G hg_LINKS,
    fun H => .inr ⟨_, _, _, hq_LINKS, rfl, rfl, (show (3 : Nat) ≤ sizeLine by decide), .cons ⟨_, rfl⟩ (.cons ⟨_, rfl⟩ (.cons ⟨_, rfl⟩ (.nil)))⟩,
    PySem.W.mg_of X G hg_KINDS,
    fun H => .inr ⟨_, _, _, hq_KINDS, rfl, rfl, (show (2 : Nat) ≤ sizeLine by decide), .cons ⟨_, rfl⟩ (.cons ⟨_, rfl⟩ (.nil))⟩,
    PySem.W.mg_of X G hg_LABEL_LINES,
    fun H => .inr ⟨_, _, _, hq_LABEL_LINES, rfl, rfl, (show (4 : Nat) ≤ sizeLine by decide), .cons ⟨_, rfl⟩ (.cons ⟨_, rfl⟩ (.cons ⟨_, rfl⟩ (.cons ⟨_, rfl⟩ (.nil))))⟩⟩
  exact ⟨A.d_law, fun s v => .of_eq rfl, fun base _ _ => ok_law (A := A) T⟩
end Pf
open PySem PySem.W PyProof.Rows
set_option maxRecDepth 100000 in
set_option maxHeartbeats 0 in
theorem PySem.Challenge.cw_halfmeshes_k33_names_holds : PySem.Challenge.rw_halfmeshes_k33_names.Holds := by
  w_on; o_law; k_head; (case hw => w_witness2)
  k_fill
  refine L2.walk_of (l := PySem.Challenge.rw_halfmeshes_k33_names) (n := 63) (k := 11) (x := "_law_script") (CX := fun _ => L2.CX0) (sp := fun w => Pf.sp_law _) rfl (by decide) rfl ⟨rfl, by decide, by decide⟩ (fun w h Y => PySem.W.kIn_of Y) ?F (fun _ _ a ns hl _ hS => ⟨a, ns, rfl, hS, hl, fun _ => rfl⟩) (fun _ _ _ _ _ h => h)
  case F =>
    intro w mg fa h KX G hmg
    refine' Pf.all_mk KX G hmg ?aC_MeshError ?aC_BadLine ?aC_UnknownName ?aC_WrongKind ?aC_Form ?aC_Names ?aC_RoutineReader ?aC_Routine ?a1 ?i1 ?l1 ?c1 ?k1 ?a2 ?i2 ?l2 ?c2 ?k2 ?a3 ?i3 ?l3 ?c3 ?k3 ?a4 ?l4 ?c4 ?k4 ?a5 ?l5 ?c5 ?k5 ?a6 ?l6 ?c6 ?k6 ?a7 ?l7 ?c7 ?k7 ?a8 ?l8 ?c8 ?k8 ?a9 ?l9 ?c9 ?k9 ?a10 ?i10 ?l10 ?c10 ?k10 ?a11 ?i11 ?l11 ?c11 ?k11 ?a12 ?l12 ?c12 ?k12 ?a13 ?l13 ?c13 ?k13 ?a14 ?l14 ?c14 ?k14 ?a15 ?l15 ?c15 ?k15 ?a16 ?l16 ?c16 ?k16 ?a17 ?l17 ?c17 ?k17 ?a18 ?l18 ?c18 ?k18 ?a19 ?l19 ?c19 ?k19 ?a20 ?i20 ?l20 ?c20 ?k20 ?a21 ?i21 ?l21 ?c21 ?k21 ?a22 ?i22 ?l22 ?c22 ?k22 ?a23 ?i23 ?l23 ?c23 ?k23 ?a24 ?i24 ?l24 ?c24 ?k24 ?a25 ?i25 ?l25 ?c25 ?k25 ?a26 ?i26 ?l26 ?c26 ?k26 ?a27 ?i27 ?l27 ?c27 ?k27 ?a28 ?i28 ?l28 ?c28 ?k28 ?a29 ?i29 ?l29 ?c29 ?k29 ?a30 ?i30 ?l30 ?c30 ?k30 ?a31 ?i31 ?l31 ?c31 ?k31 ?a32 ?i32 ?l32 ?c32 ?k32 ?a33 ?i33 ?l33 ?c33 ?k33 ?a34 ?i34 ?l34 ?c34 ?k34 ?a35 ?l35 ?c35 ?k35 ?a36 ?l36 ?c36 ?k36 ?a37 ?l37 ?c37 ?k37 ?a38 ?l38 ?c38 ?k38 ?a39 ?l39 ?c39 ?k39 ?a40 ?l40 ?c40 ?k40 ?a41 ?l41 ?c41 ?k41 ?a42 ?l42 ?c42 ?k42 ?dl10 ?de10_0 ?de10_1 ?hk_BadLine ?hs_BadLine ?ht_BadLine ?hi_BadLine ?hss_BadLine ?hxg_BadLine ?hxk_BadLine ?hxd_BadLine ?hxa_BadLine ?hxm_BadLine ?hox_BadLine ?hsa_BadLine ?hini_BadLine ?htin_BadLine ?hna_BadLine_line ?hki_BadLine_MeshError ?hki_BadLine_ValueError ?hk_UnknownName ?hs_UnknownName ?ht_UnknownName ?hi_UnknownName ?hss_UnknownName ?hxg_UnknownName ?hxk_UnknownName ?hxd_UnknownName ?hxa_UnknownName ?hxm_UnknownName ?hox_UnknownName ?hsa_UnknownName ?hini_UnknownName ?htin_UnknownName ?hna_UnknownName_line ?hna_UnknownName_name ?hki_UnknownName_MeshError ?hem_UnknownName_BadLine ?hk_WrongKind ?hs_WrongKind ?ht_WrongKind ?hi_WrongKind ?hss_WrongKind ?hxg_WrongKind ?hxk_WrongKind ?hxd_WrongKind ?hxa_WrongKind ?hxm_WrongKind ?hox_WrongKind ?hsa_WrongKind ?hini_WrongKind ?htin_WrongKind ?hna_WrongKind_line ?hna_WrongKind_name ?hki_WrongKind_MeshError ?hem_WrongKind_BadLine ?pg_Form ?hd_Form ?po_Form ?sa_Form ?mk_Form ?kc_Form ?hn_Form_bound ?hn_Form_statement ?hn_Form_uses ?pg_Names ?hd_Names ?po_Names ?sa_Names ?mk_Names ?kc_Names ?hn_Names_scopes ?pg_RoutineReader ?hd_RoutineReader ?po_RoutineReader ?sa_RoutineReader ?mk_RoutineReader ?kc_RoutineReader ?hn_RoutineReader_blocks ?hn_RoutineReader_has_labels ?hn_RoutineReader_lines ?hn_RoutineReader_offset ?hn_RoutineReader_statements ?pg_Routine ?hd_Routine ?po_Routine ?sa_Routine ?mk_Routine ?kc_Routine ?hn_Routine_halves ?hn_Routine_lines ?hn_Routine_name ?hn_Routine_statements ?hn_Routine_told ?hz_ValueError ?hz_abs ?hz_all ?hz_bool ?hz_int ?hz_isinstance ?hz_len ?hz_list ?hz_range ?hz_set ?hz_tuple ?hk_FIRST_CHARS ?hk_CHARS ?hk_MOST_LINES ?hk_MOST_BLOCKS ?hk_MOST_LINKS ?hk_HALF ?hoc_get ?hoc_tak ?hg_RESERVED ?hq_RESERVED ?hg_LINKS ?hq_LINKS ?hg_KINDS ?hq_KINDS ?hg_LABEL_LINES ?hq_LABEL_LINES
    (case aC_MeshError => k_is)
    (case aC_BadLine => k_is)
    (case aC_UnknownName => k_is)
    (case aC_WrongKind => k_is)
    (case aC_Form => k_is)
    (case aC_Names => k_is)
    (case aC_RoutineReader => k_is)
    (case aC_Routine => k_is)
    (case a1 => k_is)
    (case i1 => k_is)
    (case l1 => k_is)
    (case c1 => k_is)
    (case k1 => k_is)
    (case a2 => k_is)
    (case i2 => k_is)
    (case l2 => k_is)
    (case c2 => k_is)
    (case k2 => k_is)
    (case a3 => k_is)
    (case i3 => k_is)
    (case l3 => k_is)
    (case c3 => k_is)
    (case k3 => k_is)
    (case a4 => k_is)
    (case l4 => k_is)
    (case c4 => k_is)
    (case k4 => k_is)
    (case a5 => k_is)
    (case l5 => k_is)
    (case c5 => k_is)
    (case k5 => k_is)
    (case a6 => k_is)
    (case l6 => k_is)
    (case c6 => k_is)
    (case k6 => k_is)
    (case a7 => k_is)
    (case l7 => k_is)
    (case c7 => k_is)
    (case k7 => k_is)
    (case a8 => k_is)
    (case l8 => k_is)
    (case c8 => k_is)
    (case k8 => k_is)
    (case a9 => k_is)
    (case l9 => k_is)
    (case c9 => k_is)
    (case k9 => k_is)
    (case a10 => k_is)
    (case i10 => k_is)
    (case l10 => k_is)
    (case c10 => k_is)
    (case k10 => k_is)
    (case a11 => k_is)
    (case i11 => k_is)
    (case l11 => k_is)
    (case c11 => k_is)
    (case k11 => k_is)
    (case a12 => k_is)
    (case l12 => k_is)
    (case c12 => k_is)
    (case k12 => k_is)
    (case a13 => k_is)
    (case l13 => k_is)
    (case c13 => k_is)
    (case k13 => k_is)
    (case a14 => k_is)
    (case l14 => k_is)
    (case c14 => k_is)
    (case k14 => k_is)
    (case a15 => k_is)
    (case l15 => k_is)
    (case c15 => k_is)
    (case k15 => k_is)
    (case a16 => k_is)
    (case l16 => k_is)
    (case c16 => k_is)
    (case k16 => k_is)
    (case a17 => k_is)
    (case l17 => k_is)
    (case c17 => k_is)
    (case k17 => k_is)
    (case a18 => k_is)
    (case l18 => k_is)
    (case c18 => k_is)
    (case k18 => k_is)
    (case a19 => k_is)
    (case l19 => k_is)
    (case c19 => k_is)
    (case k19 => k_is)
    (case a20 => k_is)
    (case i20 => k_is)
    (case l20 => k_is)
    (case c20 => k_is)
    (case k20 => k_is)
    (case a21 => k_is)
    (case i21 => k_is)
    (case l21 => k_is)
    (case c21 => k_is)
    (case k21 => k_is)
    (case a22 => k_is)
    (case i22 => k_is)
    (case l22 => k_is)
    (case c22 => k_is)
    (case k22 => k_is)
    (case a23 => k_is)
    (case i23 => k_is)
    (case l23 => k_is)
    (case c23 => k_is)
    (case k23 => k_is)
    (case a24 => k_is)
    (case i24 => k_is)
    (case l24 => k_is)
    (case c24 => k_is)
    (case k24 => k_is)
    (case a25 => k_is)
    (case i25 => k_is)
    (case l25 => k_is)
    (case c25 => k_is)
    (case k25 => k_is)
    (case a26 => k_is)
    (case i26 => k_is)
    (case l26 => k_is)
    (case c26 => k_is)
    (case k26 => k_is)
    (case a27 => k_is)
    (case i27 => k_is)
    (case l27 => k_is)
    (case c27 => k_is)
    (case k27 => k_is)
    (case a28 => k_is)
    (case i28 => k_is)
    (case l28 => k_is)
    (case c28 => k_is)
    (case k28 => k_is)
    (case a29 => k_is)
    (case i29 => k_is)
    (case l29 => k_is)
    (case c29 => k_is)
    (case k29 => k_is)
    (case a30 => k_is)
    (case i30 => k_is)
    (case l30 => k_is)
    (case c30 => k_is)
    (case k30 => k_is)
    (case a31 => k_is)
    (case i31 => k_is)
    (case l31 => k_is)
    (case c31 => k_is)
    (case k31 => k_is)
    (case a32 => k_is)
    (case i32 => k_is)
    (case l32 => k_is)
    (case c32 => k_is)
    (case k32 => k_is)
    (case a33 => k_is)
    (case i33 => k_is)
    (case l33 => k_is)
    (case c33 => k_is)
    (case k33 => k_is)
    (case a34 => k_is)
    (case i34 => k_is)
    (case l34 => k_is)
    (case c34 => k_is)
    (case k34 => k_is)
    (case a35 => k_is)
    (case l35 => k_is)
    (case c35 => k_is)
    (case k35 => k_is)
    (case a36 => k_is)
    (case l36 => k_is)
    (case c36 => k_is)
    (case k36 => k_is)
    (case a37 => k_is)
    (case l37 => k_is)
    (case c37 => k_is)
    (case k37 => k_is)
    (case a38 => k_is)
    (case l38 => k_is)
    (case c38 => k_is)
    (case k38 => k_is)
    (case a39 => k_is)
    (case l39 => k_is)
    (case c39 => k_is)
    (case k39 => k_is)
    (case a40 => k_is)
    (case l40 => k_is)
    (case c40 => k_is)
    (case k40 => k_is)
    (case a41 => k_is)
    (case l41 => k_is)
    (case c41 => k_is)
    (case k41 => k_is)
    (case a42 => k_is)
    (case l42 => k_is)
    (case c42 => k_is)
    (case k42 => k_is)
    (case dl10 => k_is)
    (case de10_0 => k_is)
    (case de10_1 => k_is)
    (case hk_BadLine => first | rfl | k_is)
    (case hs_BadLine => first | rfl | k_is)
    (case ht_BadLine => first | rfl | k_is)
    (case hi_BadLine => first | rfl | k_is)
    (case hss_BadLine => first | rfl | k_is)
    (case hxg_BadLine => first | rfl | k_is)
    (case hxk_BadLine => first | rfl | k_is)
    (case hxd_BadLine => first | rfl | k_is)
    (case hxa_BadLine => first | rfl | k_is)
    (case hxm_BadLine => first | rfl | k_is)
    (case hox_BadLine => first | rfl | k_is)
    (case hsa_BadLine => first | rfl | k_is)
    (case hini_BadLine => first | rfl | k_is)
    (case htin_BadLine => first | rfl | k_is)
    (case hna_BadLine_line => first | rfl | k_is)
    (case hki_BadLine_MeshError => first | rfl | k_is)
    (case hki_BadLine_ValueError => first | rfl | k_is)
    (case hk_UnknownName => first | rfl | k_is)
    (case hs_UnknownName => first | rfl | k_is)
    (case ht_UnknownName => first | rfl | k_is)
    (case hi_UnknownName => first | rfl | k_is)
    (case hss_UnknownName => first | rfl | k_is)
    (case hxg_UnknownName => first | rfl | k_is)
    (case hxk_UnknownName => first | rfl | k_is)
    (case hxd_UnknownName => first | rfl | k_is)
    (case hxa_UnknownName => first | rfl | k_is)
    (case hxm_UnknownName => first | rfl | k_is)
    (case hox_UnknownName => first | rfl | k_is)
    (case hsa_UnknownName => first | rfl | k_is)
    (case hini_UnknownName => first | rfl | k_is)
    (case htin_UnknownName => first | rfl | k_is)
    (case hna_UnknownName_line => first | rfl | k_is)
    (case hna_UnknownName_name => first | rfl | k_is)
    (case hki_UnknownName_MeshError => first | rfl | k_is)
    (case hem_UnknownName_BadLine => first | rfl | k_is)
    (case hk_WrongKind => first | rfl | k_is)
    (case hs_WrongKind => first | rfl | k_is)
    (case ht_WrongKind => first | rfl | k_is)
    (case hi_WrongKind => first | rfl | k_is)
    (case hss_WrongKind => first | rfl | k_is)
    (case hxg_WrongKind => first | rfl | k_is)
    (case hxk_WrongKind => first | rfl | k_is)
    (case hxd_WrongKind => first | rfl | k_is)
    (case hxa_WrongKind => first | rfl | k_is)
    (case hxm_WrongKind => first | rfl | k_is)
    (case hox_WrongKind => first | rfl | k_is)
    (case hsa_WrongKind => first | rfl | k_is)
    (case hini_WrongKind => first | rfl | k_is)
    (case htin_WrongKind => first | rfl | k_is)
    (case hna_WrongKind_line => first | rfl | k_is)
    (case hna_WrongKind_name => first | rfl | k_is)
    (case hki_WrongKind_MeshError => first | rfl | k_is)
    (case hem_WrongKind_BadLine => first | rfl | k_is)
    (case pg_Form => k_is)
    (case hd_Form => k_is)
    (case po_Form => k_is)
    (case sa_Form => k_is)
    (case mk_Form => k_is)
    (case kc_Form => k_is)
    (case hn_Form_bound => k_is)
    (case hn_Form_statement => k_is)
    (case hn_Form_uses => k_is)
    (case pg_Names => k_is)
    (case hd_Names => k_is)
    (case po_Names => k_is)
    (case sa_Names => k_is)
    (case mk_Names => k_is)
    (case kc_Names => k_is)
    (case hn_Names_scopes => k_is)
    (case pg_RoutineReader => k_is)
    (case hd_RoutineReader => k_is)
    (case po_RoutineReader => k_is)
    (case sa_RoutineReader => k_is)
    (case mk_RoutineReader => k_is)
    (case kc_RoutineReader => k_is)
    (case hn_RoutineReader_blocks => k_is)
    (case hn_RoutineReader_has_labels => k_is)
    (case hn_RoutineReader_lines => k_is)
    (case hn_RoutineReader_offset => k_is)
    (case hn_RoutineReader_statements => k_is)
    (case pg_Routine => k_is)
    (case hd_Routine => k_is)
    (case po_Routine => k_is)
    (case sa_Routine => k_is)
    (case mk_Routine => k_is)
    (case kc_Routine => k_is)
    (case hn_Routine_halves => k_is)
    (case hn_Routine_lines => k_is)
    (case hn_Routine_name => k_is)
    (case hn_Routine_statements => k_is)
    (case hn_Routine_told => k_is)
    (case hz_ValueError => k_is)
    (case hz_abs => k_is)
    (case hz_all => k_is)
    (case hz_bool => k_is)
    (case hz_int => k_is)
    (case hz_isinstance => k_is)
    (case hz_len => k_is)
    (case hz_list => k_is)
    (case hz_range => k_is)
    (case hz_set => k_is)
    (case hz_tuple => k_is)
    (case hk_FIRST_CHARS => k_is)
    (case hk_CHARS => k_is)
    (case hk_MOST_LINES => k_is)
    (case hk_MOST_BLOCKS => k_is)
    (case hk_MOST_LINKS => k_is)
    (case hk_HALF => k_is)
    (case hoc_get => first | rfl | k_is)
    (case hoc_tak => first | rfl | k_is)
    (case hg_RESERVED => k_is)
    (case hq_RESERVED => k_is)
    (case hg_LINKS => k_is)
    (case hq_LINKS => k_is)
    (case hg_KINDS => k_is)
    (case hq_KINDS => k_is)
    (case hg_LABEL_LINES => k_is)
    (case hq_LABEL_LINES => k_is)
