import PyProof.Rows.All
import Wide.All
import OpenK.AllK
import Wide.FinOn
import PyProof.EqAt
import PyProof.EqKinds
import PyProof.TupleCall
import HandS.ForMost
import HandS.Walk
import HandS.Conv
import HandS.IsInst
import HandS.ForExc
import HandS.NoneIn
import HandS.Property
import HandS.Flt
import PySem.Challenge.RW_halfmeshes_k21_new_numbers

set_option Elab.async false
set_option linter.all false
set_option maxRecDepth 100000
set_option maxHeartbeats 4000000
namespace RD
open PySem PySem.Spec PyProof.Rows L2
section
variable {σ s : L2.St} {H : Hp} {Q : VK} {nx bk ct : L2.St → Hp → Prop} {rt : VK} {te ta tb tc : TE} {t u : TS} {c c2 : TT} {v x : V} {ox : Option V} {i : Nat} {QB : Bool → Hp → Prop}
theorem seq (h : t ⟨u ⟨nx, rt, bk, ct⟩, rt, bk, ct⟩ σ H) : tSeq t u ⟨nx, rt, bk, ct⟩ σ H := h
theorem asg {g : TG} (h : te σ H fun x H1 => g x σ H1 nx) : tAsg te g ⟨nx, rt, bk, ct⟩ σ H := h
theorem ret (h : te σ H rt) : tRet te ⟨nx, rt, bk, ct⟩ σ H := h
theorem retN (h : rt .non H) : tRetN ⟨nx, rt, bk, ct⟩ σ H := h
theorem drp (h : te σ H fun _ H1 => nx σ H1) : tDrop te ⟨nx, rt, bk, ct⟩ σ H := h
theorem ifs (h : c σ H fun b H1 => if b = true then t ⟨nx, rt, bk, ct⟩ σ H1 else u ⟨nx, rt, bk, ct⟩ σ H1) : tIfS c t u ⟨nx, rt, bk, ct⟩ σ H := h
theorem nxt (h : nx σ H) : tNext ⟨nx, rt, bk, ct⟩ σ H := h
theorem brk (h : bk σ H) : tBreak ⟨nx, rt, bk, ct⟩ σ H := h
theorem cnt (h : ct σ H) : tCont ⟨nx, rt, bk, ct⟩ σ H := h
theorem aug {ti : TIp} (h : tVar i σ H fun x _ => te σ H fun y H1 => ti x y H1 fun z H2 => gName i z σ H2 nx) : tAug i te ti ⟨nx, rt, bk, ct⟩ σ H := h
theorem gn0 {QG : L2.St → Hp → Prop} (h : QG (some v :: s) H) : gName 0 v (ox :: s) H QG := h
theorem gnS {QG : L2.St → Hp → Prop} (h : gName i v s H fun s' H' => QG (ox :: s') H') : gName (i + 1) v (ox :: s) H QG := h
theorem var0 (h : Q v H) : tVar 0 (some v :: s) H Q := ⟨v, rfl, h⟩
theorem varS (h : tVar i s H Q) : tVar (i + 1) (ox :: s) H Q := by
  obtain ⟨v, e, q⟩ := h
  exact ⟨v, by simpa using e, q⟩
theorem cst (h : Q v H) : tC v σ H Q := h
theorem op {r : R2} (h : ta σ H fun x H1 => tb σ H1 fun y H2 => r x y H2 Q) : tOp r ta tb σ H Q := h
theorem un {r : V → Hp → VK → Prop} (h : ta σ H fun x H1 => r x H1 Q) : tUn r ta σ H Q := h
theorem i0 {g : Int → Int → V} {a b : Int} (h : Q (g a b) H) : rI0 g (.int a) (.int b) H Q := ⟨a, b, rfl, rfl, h⟩
theorem iC {C : Int → Int → Prop} {g : Int → Int → V} {a b : Int} (hc : C a b) (h : Q (g a b) H) : rI C g (.int a) (.int b) H Q := ⟨a, b, rfl, rfl, hc, h⟩
theorem u0 {g : Int → V} {a : Int} (h : Q (g a) H) : rU g (.int a) H Q := ⟨a, rfl, h⟩
theorem dI {a b : Int} : decide (V.int a = V.int b) = decide (a = b) := by
  by_cases e : a = b
  · rw [decide_eq_true e, e, decide_eq_true rfl]
  · rw [decide_eq_false e, decide_eq_false fun z => e (V.int.inj z)]
theorem dB {a b : Bool} : decide (V.bl a = V.bl b) = decide (a = b) := by
  by_cases e : a = b
  · rw [decide_eq_true e, e, decide_eq_true rfl]
  · rw [decide_eq_false e, decide_eq_false fun z => e (V.bl.inj z)]
theorem dS {a b : Str} : decide (V.str a = V.str b) = decide (a = b) := by
  by_cases e : a = b
  · rw [decide_eq_true e, e, decide_eq_true rfl]
  · rw [decide_eq_false e, decide_eq_false fun z => e (V.str.inj z)]
theorem eqI {a b : Int} (h : Q (.bl (decide (a = b))) H) : rEq (.int a) (.int b) H Q := ⟨rfl, by rw [dI]; exact h⟩
theorem neI {a b : Int} (h : Q (.bl (!decide (a = b))) H) : rNe (.int a) (.int b) H Q := ⟨rfl, by rw [dI]; exact h⟩
theorem eqB {a b : Bool} (h : Q (.bl (decide (a = b))) H) : rEq (.bl a) (.bl b) H Q := ⟨rfl, by rw [dB]; exact h⟩
theorem neB {a b : Bool} (h : Q (.bl (!decide (a = b))) H) : rNe (.bl a) (.bl b) H Q := ⟨rfl, by rw [dB]; exact h⟩
theorem eqS {a b : Str} (h : Q (.bl (decide (a = b))) H) : rEq (.str a) (.str b) H Q := ⟨rfl, by rw [dS]; exact h⟩
theorem neS {a b : Str} (h : Q (.bl (!decide (a = b))) H) : rNe (.str a) (.str b) H Q := ⟨rfl, by rw [dS]; exact h⟩
theorem tst (h : te σ H fun x H' => ∃ k, x = .bl k ∧ QB k H') : tTest te σ H QB := h
theorem tb' (h : te σ H fun x H' => ∃ k, x = .bl k ∧ QB k H') : tB te σ H QB := h
theorem exb {b : Bool} {P : Bool → Prop} (h : P b) : ∃ k, V.bl b = .bl k ∧ P k := ⟨b, rfl, h⟩
theorem and (h : c σ H fun b H1 => if b = true then c2 σ H1 QB else QB false H1) : tAnd c c2 σ H QB := h
theorem or (h : c σ H fun b H1 => if b = true then QB true H1 else c2 σ H1 QB) : tOr c c2 σ H QB := h
theorem not (h : c σ H fun b H1 => QB (!b) H1) : tNot c σ H QB := h
theorem andV (h : ta σ H fun x H1 => ∃ k, x = .bl k ∧ if k = true then tb σ H1 Q else Q (.bl false) H1) : tAndV ta tb σ H Q := h
theorem orV (h : ta σ H fun x H1 => ∃ k, x = .bl k ∧ if k = true then Q (.bl true) H1 else tb σ H1 Q) : tOrV ta tb σ H Q := h
theorem notV (h : ta σ H fun x H1 => ∃ k, x = .bl k ∧ Q (.bl (!k)) H1) : tNotV ta σ H Q := h
theorem tif (h : c σ H fun b H1 => if b = true then ta σ H1 Q else tb σ H1 Q) : tIf c ta tb σ H Q := h
theorem yes (h : QB true H) : tYes σ H QB := h
theorem chain {r r' : R2} (h : ta σ H fun x H1 => tb σ H1 fun y H2 => r x y H2 fun z H3 => ∃ k, z = .bl k ∧ (if k = true then tc σ H3 fun w' H4 => r' y w' H4 Q else Q (.bl false) H3)) : tChain r r' ta tb tc σ H Q := h
theorem nil {QA : List V → Hp → Prop} (h : QA [] H) : tNil σ H QA := h
theorem cons {QA : List V → Hp → Prop} {tr : TA} (h : ta σ H fun x H1 => tr σ H1 fun xs H2 => QA (x :: xs) H2) : tCons ta tr σ H QA := h
theorem cb {r : List V → Hp → VK → Prop} {tr : TA} (h : tr σ H fun vs H1 => r vs H1 Q) : tCB r tr σ H Q := h
theorem call {sp : Sp} {dvs : List V} {E : XK} {tr : TA} (h : tr σ H fun vs H1 => sp (vs ++ dvs) H1 Q E) : tCall sp dvs E tr σ H Q := h
theorem tup {tr : TA} (h : tr σ H fun xs H1 => xs.length ≤ sizeLine ∧ ∀ p, H1 p = none → Q (.ref p) (upd H1 p (.tup xs))) : tTup tr σ H Q := h
theorem lst {tr : TA} (h : tr σ H fun xs H1 => xs.length ≤ sizeLine ∧ ∀ p, H1 p = none → Q (.ref p) (upd H1 p (.lst xs))) : tLst tr σ H Q := h
theorem sl {r : V → Option Int → Option Int → Hp → VK → Prop} {tl th : TO} (h : te σ H fun x H1 => tl σ H1 fun l H2 => th σ H2 fun u H3 => r x l u H3 Q) : L2.tSl r te tl th σ H Q := h
theorem nop {QO : Option Int → Hp → Prop} (h : QO none H) : tNoPart σ H QO := h
theorem prt {QO : Option Int → Hp → Prop} (h : te σ H fun x H1 => ∃ i, x = .int i ∧ QO (some i) H1) : tPart te σ H QO := h
theorem exi {a : Int} {P : Int → Prop} (h : P a) : ∃ k, V.int a = .int k ∧ P k := ⟨a, rfl, h⟩
theorem bm {K : PySem.W.Frag} {Ty : String} {r : V → List V → Hp → VK → Prop} {tr : TA} (h : te σ H fun x H1 => tyV K Ty x H1 ∧ tr σ H1 fun xs H2 => r x xs H2 Q) : tBM K Ty r te tr σ H Q := h
theorem bm0 {K : PySem.W.Frag} {Ty : String} {r : V → List V → Hp → VK → Prop} (h : te σ H fun x H1 => tyV K Ty x H1 ∧ r x [] H1 Q) : tBM0 K Ty r te σ H Q := h
theorem fld {K : PySem.W.Frag} {f : Str} (h : ta σ H fun x H1 => ∃ a C dx fs v, x = .ref a ∧ H1 a = some (.ins C dx fs) ∧ Cls K C ∧ NoAttr K C f ∧ fs.lookup f = some v ∧ Q v H1) : tFld K ta f σ H Q := h
theorem meth {C : Addr} {m : Str} {sp : Sp} {dvs : List V} {E : XK} {tr : TA} (h : ta σ H fun x H1 => ∃ a dx fs, x = .ref a ∧ H1 a = some (.ins C dx fs) ∧ fs.lookup m = none ∧ tr σ H1 fun vs H2 => sp (x :: (vs ++ dvs)) H2 Q E) : tMeth C m sp dvs E ta tr σ H Q := h
def MKE (C : Addr) (sp : Sp) (dvs : List V) (E : XK) (vs : List V) (H1 : Hp) (Q : VK) : Prop := ∀ x dx, H1 x = none → H1 dx = none → dx ≠ x → sp (.ref x :: (vs ++ dvs)) (upd (upd H1 dx (.own x)) x (.ins C dx [])) (fun v H2 => v = .non ∧ Q (.ref x) H2) E
theorem make {C : Addr} {sp : Sp} {dvs : List V} {E : XK} {tr : TA} (h : tr σ H fun vs H1 => MKE C sp dvs E vs H1 Q) : tMake C sp dvs E tr σ H Q := h
theorem dput {td ty tv : TE} (h : tv σ H fun v H1 => td σ H1 fun x H2 => ty σ H2 fun y H3 => ∃ a H4, x = .ref a ∧ DPut H3 a y v H4 ∧ nx σ H4) : sDPut td ty tv ⟨nx, rt, bk, ct⟩ σ H := h
theorem dget {td ty : TE} (h : td σ H fun x H1 => ty σ H1 fun y H2 => ∃ a v, x = .ref a ∧ DGet H2 a y (some v) ∧ Q v H2) : tDGet td ty σ H Q := h
theorem din {td ty : TE} (h : ty σ H fun y H1 => td σ H1 fun x H2 => ∃ a o, x = .ref a ∧ DGet H2 a y o ∧ Q (.bl o.isSome) H2) : tDIn ty td σ H Q := h
theorem dnin {td ty : TE} (h : ty σ H fun y H1 => td σ H1 fun x H2 => ∃ a o, x = .ref a ∧ DGet H2 a y o ∧ Q (.bl (!o.isSome)) H2) : tDNotIn ty td σ H Q := h
theorem dnew (h : ∀ p, H p = none → Q (.ref p) (upd H p (.dK []))) : tDNewK σ H Q := h
theorem sfld {K : PySem.W.Frag} {tv : TE} {f : Str} (h : tv σ H fun y H1 => ta σ H1 fun x H2 => ∃ a C dx fs, x = .ref a ∧ H2 a = some (.ins C dx fs) ∧ Cls K C ∧ NoAttr K C f ∧ fs.length < 1000 ∧ nx σ (upd H2 a (.ins C dx (putF f y fs)))) : sFld K ta tv f ⟨nx, rt, bk, ct⟩ σ H := h
theorem lrg {tr : L2.St → Hp → (Int → Int → Hp → Prop) → Prop} (h : tr σ H fun a b H1 => RgOk a b ∧ ∀ q, H1 q = none → Q (.ref q) (upd H1 q (.lst (rgV a b)))) : tLstRg tr σ H Q := h
theorem rg1 {QR : Int → Int → Hp → Prop} (h : ta σ H fun x H1 => ∃ n, x = .int n ∧ QR 0 n H1) : tRg1 ta σ H QR := h
theorem dgetK {a : Addr} {kvs : List (Key × V)} {n : Int} {v : V} (h : H a = some (.dK kvs)) (hv : valV kvs (Sum.inl n : Key) = some v) (q : Q v H) : ∃ a' v', V.ref a = .ref a' ∧ DGet H a' (.int n) (some v') ∧ Q v' H := ⟨a, v, rfl, by rw [← hv]; exact DGet.k (k := Sum.inl n) h, q⟩
theorem rep {a : Addr} {xs : List V} {k : Int} (h : H a = some (.lst xs)) (h1 : -1000000 ≤ k) (h2 : k ≤ 1000000) (hl : xs.length * k.toNat ≤ sizeLine) (q : ∀ p, H p = none → Q (.ref p) (upd H p (.lst (List.replicate k.toNat xs).flatten))) : rRep (.ref a) (.int k) H Q := ⟨a, k, xs, rfl, rfl, h, by omega, by omega, hl, q⟩
/-! tests -/
theorem bT {A B : Prop} (h : A) : if true = true then A else B := iteT h
theorem nbF {A B : Prop} (h : A) : if (!false) = true then A else B := iteT h
theorem nbT {A B : Prop} (h : B) : if (!true) = true then A else B := iteF h
theorem bF {A B : Prop} (h : B) : if false = true then A else B := iteF h
theorem dec {p A B : Prop} [Decidable p] (h1 : p → A) (h2 : ¬ p → B) : if decide p = true then A else B := ite2 (fun e => h1 (of_decide_eq_true e)) fun e => h2 fun z => e (decide_eq_true z)
theorem ndec {p A B : Prop} [Decidable p] (h1 : ¬ p → A) (h2 : p → B) : if (!decide p) = true then A else B := by
  by_cases e : p
  · rw [decide_eq_true e]; exact iteF (h2 e)
  · rw [decide_eq_false e]; exact iteT (h1 e)
theorem decT {p A B : Prop} [Decidable p] (e : p) (h : A) : if decide p = true then A else B := by rw [decide_eq_true e]; exact iteT h
theorem decF {p A B : Prop} [Decidable p] (e : ¬ p) (h : B) : if decide p = true then A else B := by rw [decide_eq_false e]; exact iteF h
theorem ndT {p A B : Prop} [Decidable p] (e : ¬ p) (h : A) : if (!decide p) = true then A else B := by rw [decide_eq_false e]; exact iteT h
theorem ndF {p A B : Prop} [Decidable p] (e : p) (h : B) : if (!decide p) = true then A else B := by rw [decide_eq_true e]; exact iteF h
/-! what is read by values -/
theorem ixL {K : PySem.W.Frag} {a : Addr} {xs : List V} {k : Int} (h : SqL K H a xs) (ha : atI xs k = some v) (q : Q v H) : rIxL K (.ref a) (.int k) H Q := ⟨a, xs, k, v, rfl, rfl, h, ha, q⟩
theorem ixT {K : PySem.W.Frag} {a : Addr} {xs : List V} {k : Int} (h : SqT K H a xs) (ha : atI xs k = some v) (q : Q v H) : rIxT K (.ref a) (.int k) H Q := ⟨a, xs, k, v, rfl, rfl, h, ha, q⟩
theorem setL {a : Addr} {xs : List V} {k : Int} {j : Nat} {QH : Hp → Prop} (h : H a = some (.lst xs)) (hk : ixN xs.length k = some j) (q : QH (upd H a (.lst (xs.set j v)))) : rSetL (.ref a) (.int k) v H QH := ⟨a, xs, k, j, rfl, rfl, h, hk, q⟩
theorem gsub {to ti : TE} {ts : TSet} {QG : L2.St → Hp → Prop} (h : to σ H fun o H1 => ti σ H1 fun i H2 => ts o i v H2 fun H3 => QG σ H3) : gSub to ti ts v σ H QG := h
theorem app {a : Addr} {xs : List V} {y : V} (h : H a = some (.lst xs)) (hl : xs.length < sizeLine) (q : Q .non (upd H a (.lst (xs ++ [y])))) : rAppend (.ref a) [y] H Q := ⟨a, xs, y, rfl, rfl, h, hl, q⟩
theorem cat {a b : Addr} {xs ys : List V} (h : H a = some (.lst xs)) (h' : H b = some (.lst ys)) (hl : xs.length + ys.length ≤ sizeLine) (q : ∀ p, H p = none → Q (.ref p) (upd H p (.lst (xs ++ ys)))) : rCat (.ref a) (.ref b) H Q := ⟨a, b, xs, ys, rfl, rfl, h, h', hl, q⟩
theorem slL {K : PySem.W.Frag} {a : Addr} {xs : List V} {lo hi : Option Int} (h : SqL K H a xs) (q : ∀ p, H p = none → Q (.ref p) (upd H p (.lst (cutV xs lo hi)))) : rSlL K (.ref a) lo hi H Q := ⟨a, xs, rfl, h, q⟩
theorem min1 {K : PySem.W.Frag} {a : Addr} {ns : List Int} (h : SqL K H a (ns.map V.int)) (h0 : 0 < ns.length) (q : ∀ m, m ∈ ns → (∀ y, y ∈ ns → m ≤ y) → Q (.int m) H) : rMin K [.ref a] H Q := ⟨a, ns, rfl, h, h0, q⟩
theorem eqD {K : PySem.W.Frag} {x y : V} {d e : PyData} (h1 : Dp K H x d) (h2 : Dp K H y e) (s1 : SeqAt.shaped d = true) (s2 : SeqAt.shaped e = true) (q : Q (.bl (PyData.eqv d e)) H) : rEqD K x y H Q := ⟨d, e, h1, h2, s1, s2, q⟩
theorem neD {K : PySem.W.Frag} {x y : V} {d e : PyData} (h1 : Dp K H x d) (h2 : Dp K H y e) (s1 : SeqAt.shaped d = true) (s2 : SeqAt.shaped e = true) (q : Q (.bl (!PyData.eqv d e)) H) : rNeD K x y H Q := ⟨d, e, h1, h2, s1, s2, q⟩
theorem tyL {K : PySem.W.Frag} {a : Addr} {xs : List V} (h : SqL K H a xs) : tyV K "list" (.ref a) H := Or.inl ⟨rfl, _, h⟩
theorem gtup2 {K : PySem.W.Frag} {i j : Nat} {T : Addr} {x y : V} {QG : L2.St → Hp → Prop} (h : SqT K H T [x, y]) (q : gName i x σ H fun σ1 H1 => gName j y σ1 H1 QG) : gTup K 2 (gCons (gName i) (gCons (gName j) gNil)) (.ref T) σ H QG := ⟨T, [x, y], rfl, h, rfl, x, [y], rfl, y, [], rfl, rfl, q⟩
/-! loops -/
theorem whl (W : Nat → L2.St → Hp → Prop) (m : Nat) (h0 : W m σ H) (hs : ∀ m σ H, W m σ H → c σ H fun b H1 => if b = true then ∃ N : L2.St → Hp → Prop, (∀ σ' H', N σ' H' → ∃ m', m' < m ∧ W m' σ' H') ∧ t ⟨N, rt, nx, N⟩ σ H1 else nx σ H1) : tWhile c t ⟨nx, rt, bk, ct⟩ σ H := ⟨W, ⟨m, h0⟩, hs⟩
theorem wN {m : Nat} {W : Nat → L2.St → Hp → Prop} (h : t ⟨fun σ' H' => ∃ m', m' < m ∧ W m' σ' H', rt, nx, fun σ' H' => ∃ m', m' < m ∧ W m' σ' H'⟩ σ H) : ∃ N : L2.St → Hp → Prop, (∀ σ' H', N σ' H' → ∃ m', m' < m ∧ W m' σ' H') ∧ t ⟨N, rt, nx, N⟩ σ H := ⟨_, fun _ _ h => h, h⟩
def FR (J : It) (g : TG) (t : TS) (nx : L2.St → Hp → Prop) (rt : VK) (σ : L2.St) (H : Hp) : Prop := ∃ W : Nat → Nat → L2.St → Hp → Prop, (∃ m, W 0 m σ H) ∧ ∀ i m σ H, W i m σ H →
  (J.stop i H ∧ nx σ H) ∨ (J.go i H ∧ ∃ N : L2.St → Hp → Prop, (∀ σ' H', N σ' H' → ∃ m', m' < m ∧ W (i + 1) m' σ' H') ∧ ∀ x H', J.yld i H x H' → g x σ H' fun σ2 H2 => t ⟨N, rt, nx, N⟩ σ2 H2)
def LR (J : It) (g : TG) (tt : TT) (te : TE) (vs : List Nat) (σ : L2.St) (H : Hp) (Q : VK) : Prop := ∀ D, H D = none → ∃ W : Nat → Nat → Hp → Prop, (∃ m, W 0 m (upd H D (.lst []))) ∧ ∀ i m H, W i m H →
  (J.stop i H ∧ Q (.ref D) H) ∨ (J.go i H ∧ ∃ Nx : Hp → Prop, (∀ H', Nx H' → ∃ m', m' < m ∧ W (i + 1) m' H') ∧ ∀ x H', J.yld i H x H' → g x (wipe σ vs) H' fun σ2 H2 => wipe σ2 vs = wipe σ vs ∧ tt σ2 H2 fun b H3 =>
    if b = true then te σ2 H3 fun y H4 => ∃ acc, H4 D = some (.lst acc) ∧ acc.length < sizeLine ∧ Nx (upd H4 D (.lst (acc ++ [y]))) else Nx H3)
theorem for_ {wi : TI} {g : TG} (h : wi σ H fun J H1 => FR J g t nx rt σ H1) : tFor wi g t ⟨nx, rt, bk, ct⟩ σ H := h
theorem lc_ {wi : TI} {g : TG} {tt : TT} {vs : List Nat} (h : wi σ H fun J H1 => LR J g tt te vs σ H1 Q) : tLc wi g tt te vs σ H Q := h
theorem iL {K : PySem.W.Frag} {R : It → Hp → Prop} (h : te σ H fun x H1 => ∃ a, x = .ref a ∧ (∃ xs, SqL K H1 a xs) ∧ R (Itl K a) H1) : iList K te σ H R := h
theorem iT {K : PySem.W.Frag} {R : It → Hp → Prop} (h : te σ H fun x H1 => ∃ a, x = .ref a ∧ (∃ xs, SqT K H1 a xs) ∧ R (Itt K a) H1) : iTup K te σ H R := h
theorem iR1 {tr : TA} {R : It → Hp → Prop} (h : tr σ H fun vs H1 => ∃ j : Int, vs = [.int j] ∧ -(2 ^ 62) ≤ j ∧ j < 2 ^ 62 ∧ R (Itr 0 j.toNat) H1) : iRng1 tr σ H R := h
theorem iR2 {tr : TA} {R : It → Hp → Prop} (h : tr σ H fun vs H1 => ∃ i j : Int, vs = [.int i, .int j] ∧ (-(2 ^ 62) ≤ i ∧ i < 2 ^ 62 ∧ -(2 ^ 62) ≤ j ∧ j < 2 ^ 62) ∧ R (Itr i (j - i).toNat) H1) : iRng2 tr σ H R := h
theorem iE {K : PySem.W.Frag} {tr : TA} {R : It → Hp → Prop} (h : tr σ H fun vs H1 => ∃ a xs, vs = [.ref a] ∧ SqL K H1 a xs ∧ R (Ite K a) H1) : iEnum K tr σ H R := h
theorem iZ {K : PySem.W.Frag} {tr : TA} {R : It → Hp → Prop} (h : tr σ H fun vs H1 => ∃ a b xs ys, vs = [.ref a, .ref b] ∧ SqL K H1 a xs ∧ SqL K H1 b ys ∧ R (Itz K a b) H1) : iZip K tr σ H R := h
theorem iS {R : It → Hp → Prop} (h : te σ H fun v H1 => ∃ x, v = .str x ∧ R (Its x) H1) : iStr te σ H R := h
theorem goL {K : PySem.W.Frag} {g : TG} {a : Addr} {xs : List V} (hq : SqL K H a xs) (Pv : Nat → L2.St → Hp → Prop) (h0 : Pv 0 σ H) (hG : ∀ i σ H, i ≤ xs.length → Pv i σ H → SqL K H a xs)
    (turn : ∀ i x σ H, xs[i]? = some x → Pv i σ H → g x σ H fun σ2 H2 => t ⟨Pv (i + 1), rt, nx, Pv (i + 1)⟩ σ2 H2) (hd : ∀ σ H, Pv xs.length σ H → nx σ H) :
    ∃ a', V.ref a = .ref a' ∧ (∃ ys, SqL K H a' ys) ∧ FR (Itl K a') g t nx rt σ H := ⟨a, rfl, ⟨_, hq⟩, for_list (D := ⟨nx, rt, nx, nx⟩) Pv h0 hG turn hd⟩
theorem goT {K : PySem.W.Frag} {g : TG} {a : Addr} {xs : List V} (hq : SqT K H a xs) (Pv : Nat → L2.St → Hp → Prop) (h0 : Pv 0 σ H) (hG : ∀ i σ H, i ≤ xs.length → Pv i σ H → SqT K H a xs)
    (turn : ∀ i x σ H, xs[i]? = some x → Pv i σ H → g x σ H fun σ2 H2 => t ⟨Pv (i + 1), rt, nx, Pv (i + 1)⟩ σ2 H2) (hd : ∀ σ H, Pv xs.length σ H → nx σ H) :
    ∃ a', V.ref a = .ref a' ∧ (∃ ys, SqT K H a' ys) ∧ FR (Itt K a') g t nx rt σ H := ⟨a, rfl, ⟨_, hq⟩, for_tup (D := ⟨nx, rt, nx, nx⟩) Pv h0 hG turn hd⟩
theorem goR {g : TG} {z : Int} {n : Nat} (hz : z.toNat = n) (hz2 : z < 1000000000) (hz1 : -1000000000 < z) (Pv : Nat → L2.St → Hp → Prop) (h0 : Pv 0 σ H)
    (turn : ∀ i σ H, i < n → Pv i σ H → g (.int (i : Nat)) σ H fun σ2 H2 => t ⟨Pv (i + 1), rt, nx, Pv (i + 1)⟩ σ2 H2) (hd : ∀ σ H, Pv n σ H → nx σ H) :
    ∃ j : Int, [V.int z] = [.int j] ∧ -(2 ^ 62) ≤ j ∧ j < 2 ^ 62 ∧ FR (Itr 0 j.toNat) g t nx rt σ H := by
  subst hz
  refine ⟨z, rfl, by omega, by omega, for_range (D := ⟨nx, rt, nx, nx⟩) Pv h0 (fun i σ H hi hp => ?_) hd⟩
  have e : (0 + (i : Int)) = ((i : Nat) : Int) := by omega
  rw [e]
  exact turn i σ H hi hp
theorem goR2 {g : TG} {y z : Int} {n : Nat} (hz : (z - y).toNat = n) (hb : -1000000000 < y ∧ y < 1000000000 ∧ -1000000000 < z ∧ z < 1000000000) (Pv : Nat → L2.St → Hp → Prop) (h0 : Pv 0 σ H)
    (turn : ∀ i σ H, i < n → Pv i σ H → g (.int (y + i)) σ H fun σ2 H2 => t ⟨Pv (i + 1), rt, nx, Pv (i + 1)⟩ σ2 H2) (hd : ∀ σ H, Pv n σ H → nx σ H) :
    ∃ i j : Int, [V.int y, V.int z] = [.int i, .int j] ∧ (-(2 ^ 62) ≤ i ∧ i < 2 ^ 62 ∧ -(2 ^ 62) ≤ j ∧ j < 2 ^ 62) ∧ FR (Itr i (j - i).toNat) g t nx rt σ H := by
  subst hz
  exact ⟨y, z, rfl, ⟨by omega, by omega, by omega, by omega⟩, for_range (D := ⟨nx, rt, nx, nx⟩) Pv h0 turn hd⟩
theorem goE {K : PySem.W.Frag} {g : TG} {a : Addr} {xs : List V} (hq : SqL K H a xs) (Pv : Nat → L2.St → Hp → Prop) (h0 : Pv 0 σ H) (hG : ∀ i σ H, i ≤ xs.length → Pv i σ H → SqL K H a xs)
    (turn : ∀ i x σ H T, xs[i]? = some x → Pv i σ H → H T = none → g (.ref T) σ (upd H T (.tup [.int (i : Nat), x])) fun σ2 H2 => t ⟨Pv (i + 1), rt, nx, Pv (i + 1)⟩ σ2 H2) (hd : ∀ σ H, Pv xs.length σ H → nx σ H) :
    ∃ a' ys, [V.ref a] = [.ref a'] ∧ SqL K H a' ys ∧ FR (Ite K a') g t nx rt σ H := by
  refine ⟨a, xs, rfl, hq, for_it (D := ⟨nx, rt, nx, nx⟩) walk_enum Pv h0 hG (fun i x σ H H' hi hp y => ?_) hd⟩
  obtain ⟨T, x1, x2, rfl, hT, rfl, e1, e2⟩ := y
  cases e1
  exact turn i x2 σ H T e2 hp hT
/-! a new list by a comprehension -/
theorem same_new {H : Hp} {p : Addr} {o : HO} (h : H p = none) : Same H (upd H p o) := fun b x e => by
  rw [upd_ne (ne_of_none e h)]
  exact e
theorem same_mut {H H' : Hp} {p : Addr} {o : HO} (e : Same H H') (h : H p = none) : Same H (upd H' p o) := fun a u ha => by
  rw [upd_ne (ne_of_none ha h)]
  exact e a u ha
/-- what a comprehension collects: f of the items that pass p -/
def pick {α β : Type} (p : α → Bool) (f : α → β) : List α → List β
  | [] => []
  | a :: r => if p a = true then f a :: pick p f r else pick p f r
theorem pick_app {α β : Type} {p : α → Bool} {f : α → β} : ∀ (l r : List α), pick p f (l ++ r) = pick p f l ++ pick p f r
  | [], r => rfl
  | a :: l, r => by
    show (if p a = true then f a :: pick p f (l ++ r) else pick p f (l ++ r)) = (if p a = true then f a :: pick p f l else pick p f l) ++ pick p f r
    rw [pick_app l r]
    by_cases h : p a = true
    · rw [if_pos h, if_pos h]; rfl
    · rw [if_neg h, if_neg h]
theorem pick_len {α β : Type} {p : α → Bool} {f : α → β} : ∀ (l : List α), (pick p f l).length ≤ l.length
  | [] => Nat.le_refl _
  | a :: l => by
    show (if p a = true then f a :: pick p f l else pick p f l).length ≤ l.length + 1
    have := pick_len (p := p) (f := f) l
    by_cases h : p a = true
    · rw [if_pos h, List.length_cons]; omega
    · rw [if_neg h]; omega
theorem pick_all {α β : Type} {p : α → Bool} {f : α → β} (h : ∀ a, p a = true) : ∀ (l : List α), pick p f l = l.map f
  | [] => rfl
  | a :: l => by
    show (if p a = true then f a :: pick p f l else pick p f l) = f a :: l.map f
    rw [if_pos (h a), pick_all h l]
theorem pick_filter {α β : Type} {p : α → Bool} {f : α → β} : ∀ (l : List α), pick p f l = (l.filter p).map f
  | [] => rfl
  | a :: l => by
    show (if p a = true then f a :: pick p f l else pick p f l) = _
    by_cases h : p a = true
    · rw [if_pos h, List.filter_cons_of_pos h, List.map_cons, pick_filter l]
    · rw [if_neg h, List.filter_cons_of_neg h, pick_filter l]
theorem take_one {α : Type} {l : List α} {i : Nat} {x : α} (h : l[i]? = some x) : l.take (i + 1) = l.take i ++ [x] := by
  rw [List.take_add_one, h]; rfl
theorem lcAny {J : It} {g : TG} {tt : TT} {vs : List Nat} {n : Nat} {G : Hp → Prop} {Y : Nat → Hp → V → Hp → Prop} (w : Walk J n G Y) {α : Type} (al : List α) (hal : al.length = n) (hsz : n ≤ sizeLine) (p : α → Bool) (f : α → V) (h0G : G H) (hGs : ∀ H', Same H H' → G H')
    (hY : ∀ i H1 x H2, Same H H1 → Y i H1 x H2 → Same H1 H2)
    (turn : ∀ i a x H1 H2 (Q' : VK) (R' : Hp → Prop), al[i]? = some a → Same H H1 → Y i H1 x H2 → (p a = true → ∀ H4, Same H2 H4 → Q' (f a) H4) → (p a = false → ∀ H4, Same H2 H4 → R' H4) →
      g x (wipe σ vs) H2 fun σ2 H3 => wipe σ2 vs = wipe σ vs ∧ tt σ2 H3 fun b H5 => if b = true then te σ2 H5 Q' else R' H5)
    (hd : ∀ H' q, H q = none → Same H H' → H' q = some (.lst (pick p f al)) → Q (.ref q) H') : LR J g tt te vs σ H Q := by
  intro D hD
  refine lc_it w (fun i H1 => Same H H1 ∧ H1 D = some (.lst (pick p f (al.take i)))) ⟨same_new hD, by rw [upd_same]; rfl⟩ (fun i H1 _ hp => hGs _ hp.1) (fun i x H1 H2 hi hp y => ?_) (fun H1 hp => ?_)
  · have hi' : i < al.length := by omega
    have ga : al[i]? = some al[i] := List.getElem?_eq_getElem hi'
    have sm := hY i H1 x H2 hp.1 y
    refine turn i al[i] x H1 H2 _ _ ga hp.1 y (fun ht H4 s4 => ?_) (fun hf H4 s4 => ?_)
    · have e4 : H4 D = some (.lst (pick p f (al.take i))) := s4 _ _ (sm _ _ hp.2)
      refine ⟨_, e4, ?_, same_mut ((hp.1.trans sm).trans s4) hD, ?_⟩
      · have := pick_len (p := p) (f := f) (al.take i)
        rw [List.length_take] at this
        exact Nat.lt_of_lt_of_le (Nat.lt_of_le_of_lt this (by omega : min i al.length < n)) hsz
      · rw [upd_same, take_one ga, pick_app]
        show _ = some (HO.lst (_ ++ (if p al[i] = true then [f al[i]] else [])))
        rw [if_pos ht]
    · have e4 : H4 D = some (.lst (pick p f (al.take i))) := s4 _ _ (sm _ _ hp.2)
      refine ⟨(hp.1.trans sm).trans s4, ?_⟩
      rw [e4, take_one ga, pick_app]
      show _ = some (HO.lst (_ ++ (if p al[i] = true then [f al[i]] else [])))
      rw [if_neg (by rw [hf]; exact Bool.false_ne_true), List.append_nil]
  · have e := hp.2
    rw [← hal, List.take_length] at e
    exact hd H1 D hD hp.1 e
theorem lcL {K : PySem.W.Frag} {g : TG} {tt : TT} {vs : List Nat} {a : Addr} {xs : List V} (hq : SqL K H a xs) (hsz : xs.length ≤ sizeLine) (p : V → Bool) (f : V → V)
    (turn : ∀ (i : Nat) x H1 (Q' : VK) (R' : Hp → Prop), xs[i]? = some x → Same H H1 → (p x = true → ∀ H4, Same H1 H4 → Q' (f x) H4) → (p x = false → ∀ H4, Same H1 H4 → R' H4) →
      g x (wipe σ vs) H1 fun σ2 H3 => wipe σ2 vs = wipe σ vs ∧ tt σ2 H3 fun b H5 => if b = true then te σ2 H5 Q' else R' H5)
    (hd : ∀ H' q, H q = none → Same H H' → H' q = some (.lst (pick p f xs)) → Q (.ref q) H') :
    ∃ a', V.ref a = .ref a' ∧ (∃ ys, SqL K H a' ys) ∧ LR (Itl K a') g tt te vs σ H Q := by
  refine ⟨a, rfl, ⟨_, hq⟩, lcAny (walk_list (K := K) (a := a) (xs := xs)) xs rfl hsz p f hq (fun H' s => s.seq hq) (fun i H1 x H2 s y => ?_) (fun i b x H1 H2 Q' R' hb s y kT kF => ?_) hd⟩
  · obtain ⟨rfl, _⟩ := y
    exact Same.refl _
  · obtain ⟨rfl, y⟩ := y
    rw [y] at hb
    cases hb
    exact turn i b _ Q' R' y s kT kF
theorem lcR {g : TG} {tt : TT} {vs : List Nat} {z : Int} {n : Nat} (hz : z.toNat = n) (hz2 : z < 1000000) (hz1 : -1000000 < z) (p : Nat → Bool) (f : Nat → V)
    (turn : ∀ i H1 (Q' : VK) (R' : Hp → Prop), i < n → Same H H1 → (p i = true → ∀ H4, Same H1 H4 → Q' (f i) H4) → (p i = false → ∀ H4, Same H1 H4 → R' H4) →
      g (.int (i : Nat)) (wipe σ vs) H1 fun σ2 H3 => wipe σ2 vs = wipe σ vs ∧ tt σ2 H3 fun b H5 => if b = true then te σ2 H5 Q' else R' H5)
    (hd : ∀ H' q, H q = none → Same H H' → H' q = some (.lst (pick p f (List.range n))) → Q (.ref q) H') :
    ∃ j : Int, [V.int z] = [.int j] ∧ -(2 ^ 62) ≤ j ∧ j < 2 ^ 62 ∧ LR (Itr 0 j.toNat) g tt te vs σ H Q := by
  subst hz
  have hs : z.toNat ≤ sizeLine := Nat.le_trans (by omega : z.toNat ≤ 1000000) (by decide)
  refine ⟨z, rfl, by omega, by omega, lcAny (walk_range (lo := 0) (n := z.toNat)) (List.range z.toNat) (List.length_range) hs p f trivial (fun _ _ => trivial) (fun i H1 x H2 s y => ?_) (fun i b x H1 H2 Q' R' hb s y kT kF => ?_) hd⟩
  · obtain ⟨rfl, _⟩ := y
    exact Same.refl _
  · obtain ⟨rfl, rfl⟩ := y
    obtain ⟨hi, e⟩ := List.getElem?_eq_some_iff.mp hb
    rw [List.getElem_range] at e
    subst e
    rw [List.length_range] at hi
    have e : (0 + (i : Int)) = ((i : Nat) : Int) := by omega
    show g (V.int (0 + (i : Int))) _ _ _
    rw [e]
    exact turn i _ Q' R' hi s kT kF
theorem lcE {K : PySem.W.Frag} {g : TG} {tt : TT} {vs : List Nat} {a : Addr} {xs : List V} (hq : SqL K H a xs) (hsz : xs.length ≤ sizeLine) (p : Nat → Bool) (f : Nat → V)
    (turn : ∀ (i : Nat) x T H1 (Q' : VK) (R' : Hp → Prop), xs[i]? = some x → Same H H1 → H1 T = none → (p i = true → ∀ H4, Same (upd H1 T (.tup [.int (i : Nat), x])) H4 → Q' (f i) H4) → (p i = false → ∀ H4, Same (upd H1 T (.tup [.int (i : Nat), x])) H4 → R' H4) →
      g (.ref T) (wipe σ vs) (upd H1 T (.tup [.int (i : Nat), x])) fun σ2 H3 => wipe σ2 vs = wipe σ vs ∧ tt σ2 H3 fun b H5 => if b = true then te σ2 H5 Q' else R' H5)
    (hd : ∀ H' q, H q = none → Same H H' → H' q = some (.lst (pick p f (List.range xs.length))) → Q (.ref q) H') :
    ∃ a' ys, [V.ref a] = [.ref a'] ∧ SqL K H a' ys ∧ LR (Ite K a') g tt te vs σ H Q := by
  refine ⟨a, xs, rfl, hq, lcAny (walk_enum (K := K) (a := a) (xs := xs)) (List.range xs.length) List.length_range hsz p f hq (fun H' s => s.seq hq) (fun i H1 x H2 s y => ?_) (fun i b x H1 H2 Q' R' hb s y kT kF => ?_) hd⟩
  · obtain ⟨T, x1, x2, rfl, hT, rfl, _, _⟩ := y
    exact same_new hT
  · obtain ⟨T, x1, x2, rfl, hT, rfl, e1, e2⟩ := y
    cases e1
    obtain ⟨hi, e⟩ := List.getElem?_eq_some_iff.mp hb
    rw [List.getElem_range] at e
    subst e
    exact turn i x2 T H1 Q' R' e2 s hT kT kF
end
end RD

namespace RD
open PySem PySem.Spec PyProof.Rows L2
/-! the layer's rules with the written part named K, their readings under a name -/
def rLen (K : PySem.W.Frag) : List V → Hp → VK → Prop := fun xs H Q => ∃ p ys, xs = [.ref p] ∧ (SqL K H p ys ∨ SqT K H p ys) ∧ Q (.int ys.length) H
def rLenD : List V → Hp → VK → Prop := fun xs H Q => ∃ a kvs, xs = [V.ref a] ∧ H a = some (.dK kvs) ∧ Q (.int kvs.length) H
def rLenS : List V → Hp → VK → Prop := fun xs H Q => ∃ z, xs = [.str z] ∧ z.length ≤ sizeLine ∧ Q (.int z.length) H
def rListOf (K : PySem.W.Frag) : List V → Hp → VK → Prop := fun xs H Q => ∃ p ys, xs = [.ref p] ∧ (SqL K H p ys ∨ SqT K H p ys) ∧ ∀ l, H l = none → Q (.ref l) (upd H l (.lst ys))
def rInt : List V → Hp → VK → Prop := fun xs H Q => (∃ i, xs = [.int i] ∧ Q (.int i) H) ∨ ∃ k, xs = [.bl k] ∧ Q (.int (if k then 1 else 0)) H
def rAbs : List V → Hp → VK → Prop := fun xs H Q => ∃ i, xs = [.int i] ∧ Q (.int (if i < 0 then -i else i)) H
def rMax2 : List V → Hp → VK → Prop := fun xs H Q => ∃ i j, xs = [.int i, .int j] ∧ Q (.int (if j > i then j else i)) H
def rMin2 : List V → Hp → VK → Prop := fun xs H Q => ∃ i j, xs = [.int i, .int j] ∧ Q (.int (if j < i then j else i)) H
def rStrI : List V → Hp → VK → Prop := fun xs H Q => ∃ i, xs = [.int i] ∧ i.natAbs.log2 < 1920 ∧ Q (.str (toString i)) H
def rIntS : List V → Hp → VK → Prop := fun xs H Q => ∃ a n, xs = [.str a] ∧ PySem.intText? a = some n ∧ a.length ≤ 640 ∧ Q (.int n) H
def tTru (K : PySem.W.Frag) (ta : TE) : TT := fun σ H Q => ta σ H fun x H' => ∃ k, TruV K x H' k ∧ Q k H'
section
variable {X : Cx} {K : PySem.W.Frag} {e o : Expr} {es : List Expr} {ta to tv te : TE} {tr : TA} {f name : Str} {pos apos cpos pos' p tpos : Pos} {Ty id : String} {r : V → List V → Hp → VK → Prop} {tg : Expr} {kk : Nat}
theorem k_len (h : X.K = K) : CallR X (.builtin "len") (rLen K) := by subst h; exact call_len_seq
theorem k_lenD : CallR X (.builtin "len") rLenD := call_lenD
theorem k_lenS : CallR X (.builtin "len") rLenS := call_len_str
theorem k_list (h : X.K = K) : CallR X (.type "list") (rListOf K) := by subst h; exact call_list_of
theorem k_int : CallR X (.type "int") rInt := call_int1
theorem k_abs : CallR X (.builtin "abs") rAbs := call_abs
theorem k_max2 (hc : X.calm = true) : CallR X (.builtin "max") rMax2 := call_max2 hc
theorem k_min2 (hc : X.calm = true) : CallR X (.builtin "min") rMin2 := call_min2 hc
theorem k_strI : CallR X (.type "str") rStrI := call_str_int
theorem k_intS : CallR X (.type "int") rIntS := call_int_str
theorem k_min (h : X.K = K) (hc : X.calm = true) : CallR X (.builtin "min") (rMin K) := by subst h; exact cr_min hc
theorem k_max (h : X.K = K) (hc : X.calm = true) : CallR X (.builtin "max") (rMax K) := by subst h; exact cr_max hc
theorem k_sum (h : X.K = K) (hc : X.calm = true) : CallR X (.builtin "sum") (rSum K) := by subst h; exact cr_sum hc
theorem k_any (h : X.K = K) (hc : X.calm = true) : CallR X (.builtin "any") (rAny K) := by subst h; exact cr_any hc
theorem k_all (h : X.K = K) (hc : X.calm = true) : CallR X (.builtin "all") (rAll K) := by subst h; exact cr_all hc
theorem k_sorted (h : X.K = K) : CallR X (.builtin "sorted") (rSorted K) := by subst h; exact cr_sorted
theorem k_isi (h : X.K = K) : CallR X (.builtin "isinstance") (rIsi K) := by subst h; exact call_isi
theorem k_ixL (h : X.K = K) : IxR X (rIxL K) := by subst h; exact ix_list
theorem k_ixT (h : X.K = K) : IxR X (rIxT K) := by subst h; exact ix_tup
theorem k_slL (h : X.K = K) : SlR X (rSlL K) := by subst h; exact sl_list
theorem k_slT (h : X.K = K) : SlR X (rSlT K) := by subst h; exact sl_tup
theorem k_in (h : X.K = K) : OpR X (compareOp .In) (rIn K false) := by subst h; exact op_in_seq
theorem k_notin (h : X.K = K) : OpR X (compareOp .NotIn) (rIn K true) := by subst h; exact op_notIn_seq
theorem k_eqD (h : X.K = K) (hu : X.A.units + 64 < cLine) : OpR X (compareOp .Eq) (rEqD K) := by subst h; exact op_eqD hu
theorem k_neD (h : X.K = K) (hu : X.A.units + 64 < cLine) : OpR X (compareOp .NotEq) (rNeD K) := by subst h; exact op_neD hu
theorem k_bm (h : X.K = K) (pa : PlainAttrs Ty) (slot : Slot Ty name id) (hty : typeOf (.builtin id) = pure (.type "method_descriptor")) (hm : MtR X id r) (ho : PE X o to) (ha : PA X (e :: es) tr)
    (hbase : attributeBase o name X.env (eval o X.env) = eval o X.env := by rfl)
    (hfew : ((backTo cpos (starEach (e :: es) X.env)).all (fun x => !x.1) && (backToKw cpos (keywordEach [] X.env)).all (fun x => x.1.isSome)
      && decide ((e :: es).length + ([] : List Keyword).length + (if ([] : List Keyword).isEmpty then 0 else 1) < 30)) = true := by rfl)
    (hline : (apos.endLine == cpos.line) = true := by rfl) (hs : starEach (e :: es) X.env = (false, eval e X.env) :: starEach es X.env := by rfl) (hplain : (backTo cpos (starEach es X.env)).any (·.1) = false := by rfl) :
    PE X (.Call (.Attribute o name apos) (e :: es) [] cpos) (tBM K Ty r to tr) := by subst h; exact pe_bm pa slot hty hm ho ha hbase hfew hline hs hplain
theorem k_bm0 (h : X.K = K) (pa : PlainAttrs Ty) (slot : Slot Ty name id) (hty : typeOf (.builtin id) = pure (.type "method_descriptor")) (hm : MtR X id r) (ho : PE X o to)
    (hbase : attributeBase o name X.env (eval o X.env) = eval o X.env := by rfl) (hline : (apos.endLine == cpos.line) = true := by rfl) : PE X (.Call (.Attribute o name apos) [] [] cpos) (tBM0 K Ty r to) := by subst h; exact pe_bm0 pa slot hty hm ho hbase hline
theorem k_fld (h : X.K = K) (he : PE X e ta) (hb : attributeBase e f X.env (eval e X.env) = eval e X.env) : PE X (.Attribute e f pos) (tFld K ta f) := by subst h; exact pe_fld he hb
theorem k_sfld {value : Expr} (h : X.K = K) (ha : PE X o ta) (hv : PE X value tv) (hs : swapsWith value (some (.Attribute o f pos')) pos.line X.env = pure false) : PS X (.Assign [.Attribute o f pos'] value pos) (sFld K ta tv f) := by subst h; exact ps_fld ha hv hs
theorem k_pil (h : X.K = K) (hl : PE X e ta) : PI X tg e (iList K ta) := by subst h; exact pi_list hl
theorem k_pit (h : X.K = K) (hl : PE X e ta) : PI X tg e (iTup K ta) := by subst h; exact pi_tup hl
theorem k_pie {elts : List Expr} (h : X.K = K) (hg : Gl X "enumerate") (hm : X.mg "enumerate" = none) (ha : PA X [e] tr) (hs : starEach [e] X.env = [(false, eval e X.env)] := by rfl) :
    PI X (.Tuple elts kk tpos) (.Call (.Name "enumerate" p) [e] [] pos) (iEnum K tr) := by subst h; exact pi_enum hg hm ha hs
theorem k_piz {e2 : Expr} {elts : List Expr} (h : X.K = K) (hg : Gl X "zip") (hm : X.mg "zip" = none) (ha : PA X [e, e2] tr)
    (hs : starEach [e, e2] X.env = (false, eval e X.env) :: starEach [e2] X.env := by rfl) (hpl : (backTo pos (starEach [e2] X.env)).any (·.1) = false := by rfl) :
    PI X (.Tuple elts kk tpos) (.Call (.Name "zip" p) [e, e2] [] pos) (iZip K tr) := by subst h; exact pi_zip hg hm ha hs hpl
theorem k_gtup {t : TGs} {n : Nat} (h : X.K = K) (hc : X.calm = true) (hp : PGs X es t)
    (hn : (assignEach es X.env).length = n := by rfl) (hst : (assignEach es X.env).findIdx? (·.1) = none := by rfl) : PG X (.Tuple es kk pos) (gTup K n t) := by subst h; exact pg_tup hc hp hn hst
theorem k_tru (h : X.K = K) (ha : PE X e ta) (he : ∀ whole, isTrue e X.env whole = (do let v ← whole; standAt e.pos; holding [v] (truthy v))) : PT X e (tTru K ta) := by subst h; exact pt_truth ha he
end
/-! their steps -/
section
variable {σ s : L2.St} {H : Hp} {Q : VK} {K : PySem.W.Frag} {a : Addr} {xs : List V} {n m : Int} {ta : TE} {QB : Bool → Hp → Prop}
theorem len (h : SqL K H a xs) (q : Q (.int xs.length) H) : rLen K [.ref a] H Q := ⟨a, xs, rfl, .inl h, q⟩
theorem lenT (h : SqT K H a xs) (q : Q (.int xs.length) H) : rLen K [.ref a] H Q := ⟨a, xs, rfl, .inr h, q⟩
theorem lenD {kvs : List (Key × V)} (h : H a = some (.dK kvs)) (q : Q (.int kvs.length) H) : rLenD [.ref a] H Q := ⟨a, kvs, rfl, h, q⟩
theorem lenS {z : Str} (h : z.length ≤ sizeLine) (q : Q (.int z.length) H) : rLenS [.str z] H Q := ⟨z, rfl, h, q⟩
theorem list (h : SqL K H a xs) (q : ∀ l, H l = none → Q (.ref l) (upd H l (.lst xs))) : rListOf K [.ref a] H Q := ⟨a, xs, rfl, .inl h, q⟩
theorem int1 (q : Q (.int n) H) : rInt [.int n] H Q := .inl ⟨n, rfl, q⟩
theorem abs1 (q : Q (.int (if n < 0 then -n else n)) H) : rAbs [.int n] H Q := ⟨n, rfl, q⟩
theorem max2 (q : Q (.int (if m > n then m else n)) H) : rMax2 [.int n, .int m] H Q := ⟨n, m, rfl, q⟩
theorem min2 (q : Q (.int (if m < n then m else n)) H) : rMin2 [.int n, .int m] H Q := ⟨n, m, rfl, q⟩
theorem strI (h : n.natAbs.log2 < 1920) (q : Q (.str (toString n)) H) : rStrI [.int n] H Q := ⟨n, rfl, h, q⟩
theorem tru (h : ta σ H fun x H' => ∃ k, TruV K x H' k ∧ QB k H') : tTru K ta σ H QB := h
theorem truL (h : SqL K H a xs) {P : Bool → Prop} (q : P (!xs.isEmpty)) : ∃ k, TruV K (.ref a) H k ∧ P k := ⟨_, .inl ⟨xs, h, rfl⟩, q⟩
theorem all1 {bs : List Bool} (h : SqL K H a (bs.map V.bl)) (q : Q (.bl (bs.all id)) H) : rAll K [.ref a] H Q := ⟨a, bs, rfl, h, q⟩
theorem any1 {bs : List Bool} (h : SqL K H a (bs.map V.bl)) (q : Q (.bl (bs.any id)) H) : rAny K [.ref a] H Q := ⟨a, bs, rfl, h, q⟩
theorem sort1 {ns : List Int} (h : SqL K H a (ns.map V.int)) (hl : ns.length < 64) (q : ∀ (ns' : List Int) (p : Addr), ns'.Perm ns → ns'.Pairwise (· ≤ ·) → H p = none → Q (.ref p) (upd H p (.lst (ns'.map V.int)))) : rSorted K [.ref a] H Q := ⟨a, ns, rfl, h, hl, q⟩
theorem isi {x c : V} {t u : Value} {b : Bool} (hc : ClsV c u) (ht : TyX K H x t) (hk : PySem.W.kitOne K t u = some b) (q : Q (.bl b) H) : rIsi K [x, c] H Q := ⟨x, c, t, u, b, rfl, hc, ht, hk, q⟩
theorem inL {x : V} (h : SqL K H a xs) (hx : flatV x = true) (ha : xs.all flatV = true) (q : Q (.bl (inV x xs)) H) : rIn K false x (.ref a) H Q := ⟨a, xs, rfl, .inl h, hx, ha, q⟩
theorem ninL {x : V} (h : SqL K H a xs) (hx : flatV x = true) (ha : xs.all flatV = true) (q : Q (.bl (!inV x xs)) H) : rIn K true x (.ref a) H Q := ⟨a, xs, rfl, .inl h, hx, ha, q⟩
end
/-- a word between a statement and the rest: what follows is shown once -/
def tCut (t u : TS) : TS := fun D σ H => ∃ W : L2.St → Hp → Prop, t ⟨W, D.rt, D.bk, D.ct⟩ σ H ∧ ∀ σ1 H1, W σ1 H1 → u D σ1 H1
theorem pss_cut {X : Cx} {s0 : Stmt} {more : List Stmt} {t u : TS} (a : PS X s0 t) (b : PSs X more u) : PSs X (s0 :: more) (tCut t u) := by
  refine ⟨fun pins s σ H D J hw => ?_⟩
  obtain ⟨W, h1, h2⟩ := hw
  refine wpAny_execs_cons (thn (a.run pins s σ H ⟨W, D.rt, D.bk, D.ct⟩ J h1) fun fl s1 q => ?_)
  cases fl with
  | next =>
    obtain ⟨σ1, H1, J1, q1⟩ := q
    exact b.run pins s1 σ1 H1 D J1 (h2 σ1 H1 q1)
  | _ => exact q
theorem cut {t u : TS} {σ : L2.St} {H : Hp} {nx bk ct : L2.St → Hp → Prop} {rt : VK} (W : L2.St → Hp → Prop) (h1 : t ⟨W, rt, bk, ct⟩ σ H) (h2 : ∀ σ1 H1, W σ1 H1 → u ⟨nx, rt, bk, ct⟩ σ1 H1) : tCut t u ⟨nx, rt, bk, ct⟩ σ H := ⟨W, h1, h2⟩
end RD

namespace RD
open PySem PySem.Spec PyProof.Rows L2
/-! len, in and == by methods of one's own -/
section
variable {X : Cx} {CX : CXT} {n : Nat} {f C : Addr} {fd : FuncData} {ps : List Str} {sp : Sp} {E : XK} {K : PySem.W.Frag}
theorem call_own {Ar : Around} {pins : List (Addr × Obj)} {σ : L2.St} {H : Hp} {s : Shared} {Q : VK} {vs : List V} {us : List Value} (hfr : Ar.frames = X.A.frames) (room : Room n Ar) (F : FnOk X.prog X.w X.K X.mg X.base CX n f fd ps sp) (hb : Binds X.K fd ps []) (hx : Passes CX X E)
    (J : Inv X pins σ H s) (rv : Vals vs us) (hs : sp vs H Q E) : wpAny (model X.prog X.w) Ar (PySem.call (.ref f) us) (EP X pins σ Q) X.xe s := by
  have e := J.env0
  have e0 : Env0 X.prog X.w X.K X.mg X.base Ar X.stack s H := ⟨by rw [hfr]; exact e.frames, e.mod, e.bs, e.bsz, e.funs, e.frf, e.hok, e.bare⟩
  have hl : us.length = ps.length := rv.length.symm.trans (F.len _ _ _ _ hs)
  have bb := hb s us J.kIn (by rw [List.append_nil]; exact hl)
  rw [List.append_nil] at bb
  refine wpAny_call (codeAny_mono (F.run Ar X.stack s H ⟨us, []⟩ us vs Q E room e0 bb rv hs) ?_)
  intro rr s' hq
  cases rr with
  | error er => exact hx pins σ H s er s' J hq
  | ok fl =>
    cases fl with
    | ret u => exact J.after hq
    | next => exact hq.elim
    | brk => exact hq.elim
    | cont => exact hq.elim
def rLenOwn (C : Addr) (sp : Sp) (E : XK) : List V → Hp → VK → Prop := fun xs H Q => ∃ a dx fs, xs = [.ref a] ∧ H a = some (.ins C dx fs) ∧ sp [.ref a] H (fun v H' => ∃ z : Int, v = .int z ∧ 0 ≤ z ∧ z < 2 ^ 63 ∧ Q (.int z) H') E
theorem k_lenOwn (hr : Room (n + 1) X.A) (F : FnOk X.prog X.w X.K X.mg X.base CX n f fd ps sp) (hs : PySem.W.findIn X.K (.ref C) "__len__" = some (some (.ref f))) (hf : PySem.W.isFn X.K (.ref f) = true) (hb : Binds X.K fd ps []) (hx : Passes CX X E) :
    CallR X (.builtin "len") (rLenOwn C sp E) := by
  intro pins s σ H xs us Q I r hw
  obtain ⟨a, dx, fs, rfl, ha, hsp⟩ := hw
  obtain ⟨u, rfl, rx⟩ := vals1 r
  cases rx
  obtain ⟨_, O, _⟩ := ins_get I.hok ha
  obtain ⟨_, O, _⟩ := O.look
  obtain ⟨_, hF⟩ := I.fr
  refine PySem.W.len_K hF I.ok.mod.kin O hs hf (wpAny_mono (call_own rfl hr.in1 F hb hx I r hsp) ?_ fun _ _ z => z)
  rintro v s' ⟨y, H', I', ry, z, rfl, h0, h1, q⟩
  obtain ⟨t, rfl⟩ := ry
  exact ⟨⟨h0, h1⟩, .int z, H', I'.tok _, ⟨_, rfl⟩, q⟩
def rInOwn (C : Addr) (sp : Sp) (E : XK) (neg : Bool) : R2 := fun x y H Q => ∃ a dx fs, y = .ref a ∧ H a = some (.ins C dx fs) ∧ sp [.ref a, x] H (fun v H' => ∃ b, v = .bl b ∧ Q (.bl (if neg then !b else b)) H') E
theorem k_inOwn (hr : Room n X.A) (F : FnOk X.prog X.w X.K X.mg X.base CX n f fd ps sp) (hs : PySem.W.findIn X.K (.ref C) "__contains__" = some (some (.ref f))) (hf : PySem.W.isFn X.K (.ref f) = true) (hb : Binds X.K fd ps []) (hx : Passes CX X E) :
    OpR X (compareOp .In) (rInOwn C sp E false) := by
  intro pins s σ H x y v u Q I rx ry hw
  obtain ⟨a, dx, fs, rfl, ha, hsp⟩ := hw
  cases ry
  obtain ⟨_, O, _⟩ := ins_get I.hok ha
  obtain ⟨_, O, _⟩ := O.look
  obtain ⟨_, hF⟩ := I.fr
  refine PySem.W.in_K hF I.ok.mod.kin O hs hf (wpAny_mono (call_own (vs := [.ref a, x]) rfl hr F hb hx I (.cons rfl (.cons rx .nil)) hsp) ?_ fun _ _ z => z)
  rintro r s' ⟨y, H', I', ry, b, rfl, q⟩
  refine wpAny_mono (tru_ok pins s' σ H' (.bl b) r (fun k H'' => k = b ∧ Q (.bl b) H'') I' ry ⟨b, rfl, rfl, q⟩) ?_ fun _ _ z => z
  rintro k s'' ⟨H'', I'', rfl, q'⟩
  exact ⟨.bl k, H'', I'', rfl, q'⟩
theorem k_ninOwn (hr : Room n X.A) (F : FnOk X.prog X.w X.K X.mg X.base CX n f fd ps sp) (hs : PySem.W.findIn X.K (.ref C) "__contains__" = some (some (.ref f))) (hf : PySem.W.isFn X.K (.ref f) = true) (hb : Binds X.K fd ps []) (hx : Passes CX X E) :
    OpR X (compareOp .NotIn) (rInOwn C sp E true) := by
  intro pins s σ H x y v u Q I rx ry hw
  obtain ⟨a, dx, fs, rfl, ha, hsp⟩ := hw
  cases ry
  obtain ⟨_, O, _⟩ := ins_get I.hok ha
  obtain ⟨_, O, _⟩ := O.look
  obtain ⟨_, hF⟩ := I.fr
  refine PySem.W.notIn_K hF I.ok.mod.kin O hs hf (wpAny_mono (call_own (vs := [.ref a, x]) rfl hr F hb hx I (.cons rfl (.cons rx .nil)) hsp) ?_ fun _ _ z => z)
  rintro r s' ⟨y, H', I', ry, b, rfl, q⟩
  refine wpAny_mono (tru_ok pins s' σ H' (.bl b) r (fun k H'' => k = b ∧ Q (.bl (!b)) H'') I' ry ⟨b, rfl, rfl, q⟩) ?_ fun _ _ z => z
  rintro k s'' ⟨H'', I'', rfl, q'⟩
  exact ⟨.bl (!k), H'', I'', rfl, q'⟩
def rEqOwn (K : PySem.W.Frag) (C : Addr) (sp : Sp) (E : XK) : R2 := fun x y H Q => ∃ a dx fs tb, x = .ref a ∧ H a = some (.ins C dx fs) ∧ TyX K H y tb ∧ PySem.W.notFirst K C tb = true ∧ sp [.ref a, y] H (fun v H' => ∃ b, v = .bl b ∧ Q (.bl b) H') E
theorem k_eqOwn (h : X.K = K) (hr : Room n X.A) (F : FnOk X.prog X.w X.K X.mg X.base CX n f fd ps sp) (hs : PySem.W.findIn X.K (.ref C) "__eq__" = some (some (.ref f))) (hf : PySem.W.isFn X.K (.ref f) = true) (hb : Binds X.K fd ps []) (hx : Passes CX X E) :
    OpR X (compareOp .Eq) (rEqOwn K C sp E) := by
  subst h
  intro pins s σ H x y v u Q I rx ry hw
  obtain ⟨a, dx, fs, tb, rfl, ha, ty, nf, hsp⟩ := hw
  cases rx
  obtain ⟨_, O, _⟩ := ins_get I.hok ha
  obtain ⟨_, O, _⟩ := O.look
  obtain ⟨_, hF⟩ := I.fr
  obtain ⟨_, kx, kp, _⟩ := kit_of I ry ty
  show wpAny (model X.prog X.w) X.A (richCompare .Eq _ u) (EP X pins σ Q) X.xe s
  refine PySem.W.cmp_K (op := .Eq) (tb := tb) hr.units0 hF I.ok.mod.kin O (kx.ty _ _ I.kIn kp) nf hs hf (wpAny_mono (call_own (vs := [.ref a, y]) rfl hr F hb hx I (.cons rfl (.cons ry .nil)) hsp) ?_ fun _ _ z => z)
  rintro r s' ⟨y, H', I', ry, b, rfl, q⟩
  cases ry
  exact ⟨.bl b, H', I', rfl, q⟩
end
end RD

namespace MM
/-! rounds of a permutation -/
def it (f : Nat → Nat) : Nat → Nat → Nat
  | 0, h => h
  | i + 1, h => f (it f i h)
theorem it_one (f : Nat → Nat) : ∀ i h, it f (i + 1) h = it f i (f h)
  | 0, h => rfl
  | i + 1, h => by
    show f (it f (i + 1) h) = f (it f i (f h))
    rw [it_one f i h]
theorem it_add (f : Nat → Nat) : ∀ i j h, it f (i + j) h = it f i (it f j h)
  | 0, j, h => by rw [Nat.zero_add]; rfl
  | i + 1, j, h => by
    rw [Nat.succ_add]
    show f (it f (i + j) h) = f (it f i (it f j h))
    rw [it_add f i j h]
structure PermOn (f : Nat → Nat) (n : Nat) : Prop where
  lt : ∀ x, x < n → f x < n
  inj : ∀ x y, x < n → y < n → f x = f y → x = y
section
variable {f : Nat → Nat} {n : Nat}
theorem PermOn.it_lt (p : PermOn f n) : ∀ i h, h < n → it f i h < n
  | 0, _, hh => hh
  | i + 1, h, hh => p.lt _ (p.it_lt i h hh)
theorem PermOn.it_inj (p : PermOn f n) : ∀ i x y, x < n → y < n → it f i x = it f i y → x = y
  | 0, _, _, _, _, e => e
  | i + 1, x, y, hx, hy, e => p.it_inj i x y hx hy (p.inj _ _ (p.it_lt i x hx) (p.it_lt i y hy) e)
theorem pigeon : ∀ (n : Nat) (g : Nat → Nat), (∀ i, i ≤ n → g i < n) → ∃ i j, i < j ∧ j ≤ n ∧ g i = g j
  | 0, g, h => absurd (h 0 (Nat.le_refl _)) (Nat.not_lt_zero _)
  | n + 1, g, h => by
    by_cases c : ∃ i, i ≤ n ∧ g i = g (n + 1)
    · obtain ⟨i, hi, e⟩ := c
      exact ⟨i, n + 1, by omega, Nat.le_refl _, e⟩
    · have c' : ∀ i, i ≤ n → g i ≠ g (n + 1) := fun i hi e => c ⟨i, hi, e⟩
      have hn := h (n + 1) (Nat.le_refl _)
      obtain ⟨i, j, hij, hj, e⟩ := pigeon n (fun i => if g i = n then g (n + 1) else g i) (fun i hi => by
        show (if g i = n then g (n + 1) else g i) < n
        by_cases q : g i = n
        · rw [if_pos q]
          have := c' i hi
          omega
        · rw [if_neg q]
          have := h i (by omega)
          omega)
      refine ⟨i, j, hij, by omega, ?_⟩
      have e' : (if g i = n then g (n + 1) else g i) = (if g j = n then g (n + 1) else g j) := e
      have ci := c' i (by omega)
      have cj := c' j hj
      by_cases qi : g i = n
      · by_cases qj : g j = n
        · rw [qi, qj]
        · rw [if_pos qi, if_neg qj] at e'
          exact absurd e'.symm cj
      · by_cases qj : g j = n
        · rw [if_neg qi, if_pos qj] at e'
          exact absurd e' ci
        · rw [if_neg qi, if_neg qj] at e'
          exact e'
theorem least {P : Nat → Prop} : ∀ k, P k → ∃ m, P m ∧ m ≤ k ∧ ∀ j, j < m → ¬ P j := by
  intro k
  induction k using Nat.strongRecOn with
  | ind k ih =>
    intro hk
    by_cases c : ∃ j, j < k ∧ P j
    · obtain ⟨j, hj, pj⟩ := c
      obtain ⟨m, pm, hm, hl⟩ := ih j hj pj
      exact ⟨m, pm, by omega, hl⟩
    · exact ⟨k, hk, Nat.le_refl _, fun j hj pj => c ⟨j, hj, pj⟩⟩
/-- the round of h has k members -/
structure Per (f : Nat → Nat) (h k : Nat) : Prop where
  pos : 0 < k
  back : it f k h = h
  least : ∀ j, 0 < j → j < k → it f j h ≠ h
theorem PermOn.per (p : PermOn f n) {h : Nat} (hh : h < n) : ∃ k, k ≤ n ∧ Per f h k := by
  obtain ⟨i, j, hij, hj, e⟩ := pigeon n (fun i => it f i h) fun i _ => p.it_lt i h hh
  have e2 : it f i h = it f i (it f (j - i) h) := by
    rw [← it_add]
    have : i + (j - i) = j := by omega
    rw [this]
    exact e
  have e3 : it f (j - i) h = h := (p.it_inj i _ _ hh (p.it_lt _ h hh) e2).symm
  obtain ⟨m, ⟨pm, bm⟩, hm, hl⟩ := MM.least (P := fun k => 0 < k ∧ it f k h = h) (j - i) ⟨by omega, e3⟩
  exact ⟨m, by omega, pm, bm, fun j hj hjm e => hl j hjm ⟨hj, e⟩⟩
def cycGo (f : Nat → Nat) (h0 : Nat) : Nat → Nat → List Nat
  | 0, _ => []
  | k + 1, x => if x = h0 then [] else x :: cycGo f h0 k (f x)
def cyc (f : Nat → Nat) (n h : Nat) : List Nat := h :: cycGo f h n (f h)
theorem cycGo_per {h k : Nat} (p : Per f h k) : ∀ (m i fuel : Nat), i + m = k → 0 < i → m ≤ fuel → cycGo f h fuel (it f i h) = (List.range' i m).map (fun j => it f j h)
  | 0, i, fuel, e, _, _ => by
    have e' : it f i h = h := by
      have : i = k := by omega
      rw [this]
      exact p.back
    rw [e']
    cases fuel with
    | zero => rfl
    | succ q =>
      show (if h = h then [] else _) = _
      rw [if_pos rfl]
      rfl
  | m + 1, i, 0, _, _, hf => by omega
  | m + 1, i, fuel + 1, e, hi, hf => by
    show (if it f i h = h then [] else it f i h :: cycGo f h fuel (f (it f i h))) = _
    rw [if_neg (p.least i hi (by omega)), List.range'_succ, List.map_cons]
    have := cycGo_per p m (i + 1) fuel (by omega) (by omega) (by omega)
    rw [← this]
    rfl
theorem cyc_per {h k : Nat} (p : Per f h k) (hk : k ≤ n + 1) : cyc f n h = (List.range k).map (fun j => it f j h) := by
  have pp := p.pos
  obtain ⟨m, rfl⟩ : ∃ m, k = m + 1 := ⟨k - 1, by omega⟩
  rw [List.range_eq_range', List.range'_succ, List.map_cons]
  show h :: cycGo f h n (it f 1 h) = h :: _
  rw [cycGo_per p m 1 n (by omega) (by omega) (by omega)]
theorem Per.mul {h k : Nat} (p : Per f h k) : ∀ q, it f (k * q) h = h
  | 0 => rfl
  | q + 1 => by
    rw [Nat.mul_succ, it_add, p.back]
    exact p.mul q
theorem mem_cyc (p : PermOn f n) {h x : Nat} (hh : h < n) : x ∈ cyc f n h ↔ ∃ i, x = it f i h := by
  obtain ⟨k, hk, pk⟩ := p.per hh
  rw [cyc_per pk (by omega), List.mem_map]
  constructor
  · rintro ⟨j, _, rfl⟩
    exact ⟨j, rfl⟩
  · rintro ⟨i, rfl⟩
    refine ⟨i % k, List.mem_range.mpr (Nat.mod_lt _ pk.pos), ?_⟩
    have e : i = i % k + k * (i / k) := by
      have := Nat.mod_add_div i k
      omega
    show it f (i % k) h = it f i h
    have e2 : it f i h = it f (i % k + k * (i / k)) h := by rw [← e]
    rw [e2, it_add, pk.mul]
theorem it_back (p : PermOn f n) {h : Nat} (hh : h < n) (i : Nat) : ∃ j, h = it f j (it f i h) := by
  obtain ⟨k, hk, pk⟩ := p.per hh
  refine ⟨(k - 1) * i, ?_⟩
  rw [← it_add]
  have : (k - 1) * i + i = k * i := by
    have hp := pk.pos
    obtain ⟨m, rfl⟩ : ∃ m, k = m + 1 := ⟨k - 1, by omega⟩
    show m * i + i = (m + 1) * i
    rw [Nat.succ_mul]
  rw [this, pk.mul]
theorem cyc_lt (p : PermOn f n) {h x : Nat} (hh : h < n) (hx : x ∈ cyc f n h) : x < n := by
  obtain ⟨i, rfl⟩ := (mem_cyc p hh).mp hx
  exact p.it_lt i h hh
theorem cyc_symm (p : PermOn f n) {h x : Nat} (hh : h < n) (hx : x ∈ cyc f n h) : h ∈ cyc f n x := by
  have hl := cyc_lt p hh hx
  obtain ⟨i, rfl⟩ := (mem_cyc p hh).mp hx
  exact (mem_cyc p hl).mpr (it_back p hh i)
theorem cyc_trans (p : PermOn f n) {h x y : Nat} (hh : h < n) (hx : x ∈ cyc f n h) (hy : y ∈ cyc f n x) : y ∈ cyc f n h := by
  have hl := cyc_lt p hh hx
  obtain ⟨j, rfl⟩ := (mem_cyc p hl).mp hy
  obtain ⟨i, rfl⟩ := (mem_cyc p hh).mp hx
  exact (mem_cyc p hh).mpr ⟨j + i, (it_add f j i h).symm⟩
theorem cyc_self (h : Nat) : h ∈ cyc f n h := List.mem_cons_self
theorem cyc_len (p : PermOn f n) {h : Nat} (hh : h < n) : (cyc f n h).length ≤ n := by
  obtain ⟨k, hk, pk⟩ := p.per hh
  rw [cyc_per pk (by omega), List.length_map, List.length_range]
  exact hk
theorem cyc_nodup (p : PermOn f n) {h : Nat} (hh : h < n) : (cyc f n h).Nodup := by
  obtain ⟨k, hk, pk⟩ := p.per hh
  rw [cyc_per pk (by omega)]
  refine List.pairwise_map.mpr (List.Pairwise.imp_of_mem ?_ (List.pairwise_lt_range (n := k)))
  intro i j hi hj hij e
  have hj' := List.mem_range.mp hj
  have e2 : it f i h = it f i (it f (j - i) h) := by
    rw [← it_add]
    have : i + (j - i) = j := by omega
    rw [this]
    exact e
  exact pk.least (j - i) (by omega) (by omega) (p.it_inj i _ _ hh (p.it_lt _ h hh) e2).symm
theorem cyc_at (p : PermOn f n) {h i : Nat} (hh : h < n) (hi : i < (cyc f n h).length) : (cyc f n h)[i]? = some (it f i h) := by
  obtain ⟨k, hk, pk⟩ := p.per hh
  rw [cyc_per pk (by omega), List.length_map, List.length_range] at hi
  rw [cyc_per pk (by omega), List.getElem?_map, List.getElem?_range hi]
  rfl
theorem cyc_end (p : PermOn f n) {h : Nat} (hh : h < n) : it f (cyc f n h).length h = h := by
  obtain ⟨k, hk, pk⟩ := p.per hh
  rw [cyc_per pk (by omega), List.length_map, List.length_range]
  exact pk.back
/-! the rounds, each from its least member on -/
def isMin (f : Nat → Nat) (n h : Nat) : Bool := (cyc f n h).all fun x => decide (h ≤ x)
def rnds (f : Nat → Nat) (n : Nat) : Nat → List (List Nat)
  | 0 => []
  | m + 1 => rnds f n m ++ (if isMin f n m = true then [cyc f n m] else [])
theorem isMin_iff {h : Nat} : isMin f n h = true ↔ ∀ x ∈ cyc f n h, h ≤ x := by
  unfold isMin
  rw [List.all_eq_true]
  exact ⟨fun q x hx => of_decide_eq_true (q x hx), fun q x hx => decide_eq_true (q x hx)⟩
theorem mem_rnds {c : List Nat} : ∀ m, c ∈ rnds f n m ↔ ∃ g, g < m ∧ isMin f n g = true ∧ c = cyc f n g
  | 0 => by
    constructor
    · intro h; cases h
    · rintro ⟨g, hg, _⟩; omega
  | m + 1 => by
    show c ∈ rnds f n m ++ (if isMin f n m = true then [cyc f n m] else []) ↔ _
    rw [List.mem_append, mem_rnds m]
    constructor
    · rintro (⟨g, hg, r⟩ | h)
      · exact ⟨g, by omega, r⟩
      · by_cases q : isMin f n m = true
        · rw [if_pos q] at h
          exact ⟨m, by omega, q, List.mem_singleton.mp h⟩
        · rw [if_neg q] at h
          cases h
    · rintro ⟨g, hg, q, e⟩
      by_cases hm : g = m
      · subst hm
        right
        rw [if_pos q]
        exact List.mem_singleton.mpr e
      · exact .inl ⟨g, by omega, q, e⟩
theorem mem_flat {x m : Nat} : x ∈ (rnds f n m).flatten ↔ ∃ g, g < m ∧ isMin f n g = true ∧ x ∈ cyc f n g := by
  rw [List.mem_flatten]
  constructor
  · rintro ⟨c, hc, hx⟩
    obtain ⟨g, hg, q, rfl⟩ := (mem_rnds m).mp hc
    exact ⟨g, hg, q, hx⟩
  · rintro ⟨g, hg, q, hx⟩
    exact ⟨_, (mem_rnds m).mpr ⟨g, hg, q, rfl⟩, hx⟩
theorem has_min (p : PermOn f n) {h : Nat} (hh : h < n) : ∃ g, g ≤ h ∧ g ∈ cyc f n h ∧ isMin f n g = true := by
  obtain ⟨g, hg, hl, hm⟩ := MM.least (P := fun x => x ∈ cyc f n h) h (cyc_self h)
  refine ⟨g, hl, hg, isMin_iff.mpr fun x hx => ?_⟩
  have hx' := cyc_trans p hh hg hx
  exact Nat.le_of_not_lt fun z => hm x z hx'
theorem not_min_in (p : PermOn f n) {h : Nat} (hh : h < n) (q : isMin f n h = false) : h ∈ (rnds f n h).flatten := by
  obtain ⟨g, hg, hm, hq⟩ := has_min p hh
  have hne : g ≠ h := fun e => by rw [e, q] at hq; cases hq
  exact mem_flat.mpr ⟨g, by omega, hq, cyc_symm p hh hm⟩
theorem min_out (p : PermOn f n) {h x : Nat} (hh : h < n) (q : isMin f n h = true) (hx : x ∈ cyc f n h) : x ∉ (rnds f n h).flatten := fun hf => by
  obtain ⟨g, hg, hgm, hxg⟩ := mem_flat.mp hf
  have h1 : g ∈ cyc f n x := cyc_symm p (by omega) hxg
  have := isMin_iff.mp q g (cyc_trans p hh hx h1)
  omega
theorem rnds_len : ∀ m, (rnds f n m).length ≤ m
  | 0 => Nat.le_refl _
  | m + 1 => by
    show (rnds f n m ++ (if isMin f n m = true then [cyc f n m] else [])).length ≤ m + 1
    rw [List.length_append]
    have := rnds_len m
    by_cases q : isMin f n m = true
    · rw [if_pos q]; show _ + 1 ≤ _; omega
    · rw [if_neg q]; show _ + 0 ≤ _; omega
theorem rnds_each (p : PermOn f n) {m : Nat} (hm : m ≤ n) {c : List Nat} (hc : c ∈ rnds f n m) : c.length ≤ n ∧ 0 < c.length := by
  obtain ⟨g, hg, _, rfl⟩ := (mem_rnds m).mp hc
  exact ⟨cyc_len p (by omega), Nat.succ_pos _⟩
theorem rnds_nodup (p : PermOn f n) : ∀ m, m ≤ n → (rnds f n m).flatten.Nodup
  | 0, _ => List.nodup_nil
  | m + 1, hm => by
    show (rnds f n m ++ (if isMin f n m = true then [cyc f n m] else [])).flatten.Nodup
    by_cases q : isMin f n m = true
    · rw [if_pos q, List.flatten_append]
      refine List.nodup_append.mpr ⟨rnds_nodup p m (by omega), ?_, ?_⟩
      · simpa using cyc_nodup p (show m < n by omega)
      · intro x hx y hy e
        subst e
        have hy' : x ∈ cyc f n m := by simpa using hy
        exact min_out p (by omega) q hy' hx
    · rw [if_neg q, List.append_nil]
      exact rnds_nodup p m (by omega)
end
theorem perm_erase {α : Type} : ∀ (l : List α) (i : Nat) (h : i < l.length), (l[i] :: l.eraseIdx i).Perm l
  | a :: l, 0, _ => List.Perm.refl _
  | a :: l, i + 1, h => by
    have hi : i < l.length := Nat.lt_of_succ_lt_succ h
    show (l[i]'hi :: a :: l.eraseIdx i).Perm (a :: l)
    exact (List.Perm.swap a _ _).trans (List.Perm.cons a (perm_erase l i hi))
/-! meshes as lists of next halves -/
def fn (st : List Nat) (x : Nat) : Nat := st.getD x 0
def tw (h : Nat) : Nat := if h % 2 = 0 then h + 1 else h - 1
def inv (ns : List Nat) : List Nat := (List.range ns.length).map fun h => ns.idxOf h
def stp (ns : List Nat) (b : Bool) : List Nat := if b = true then ns else (inv ns).map tw
structure IsMesh (ns : List Nat) : Prop where
  perm : ns.Perm (List.range ns.length)
  even : ns.length % 2 = 0
theorem tw_tw (h : Nat) : tw (tw h) = h := by
  unfold tw
  by_cases q : h % 2 = 0
  · rw [if_pos q, if_neg (by omega)]; omega
  · rw [if_neg q, if_pos (by omega)]; omega
theorem tw_inj {a b : Nat} (e : tw a = tw b) : a = b := by rw [← tw_tw a, e, tw_tw]
theorem tw_lt {h n : Nat} (hn : n % 2 = 0) (hh : h < n) : tw h < n := by
  unfold tw
  by_cases q : h % 2 = 0
  · rw [if_pos q]; omega
  · rw [if_neg q]; omega
theorem fn_at {st : List Nat} {x : Nat} (h : x < st.length) : st[x]? = some (fn st x) := by
  unfold fn
  rw [List.getD_eq_getElem?_getD, List.getElem?_eq_getElem h]
  rfl
section
variable {ns : List Nat}
theorem IsMesh.lt (m : IsMesh ns) {x : Nat} (h : x ∈ ns) : x < ns.length := List.mem_range.mp (m.perm.mem_iff.mp h)
theorem IsMesh.mem (m : IsMesh ns) {x : Nat} (h : x < ns.length) : x ∈ ns := m.perm.mem_iff.mpr (List.mem_range.mpr h)
theorem IsMesh.nodup (m : IsMesh ns) : ns.Nodup := m.perm.nodup_iff.mpr List.nodup_range
theorem fn_mem {st : List Nat} {x : Nat} (h : x < st.length) : fn st x ∈ st := List.mem_of_getElem? (fn_at h)
theorem IsMesh.fnp (m : IsMesh ns) : PermOn (fn ns) ns.length where
  lt := fun x hx => m.lt (fn_mem hx)
  inj := fun x y hx hy e => by
    have h1 := fn_at hx
    have h2 := fn_at hy
    rw [e, ← h2] at h1
    exact (List.getElem?_inj hx m.nodup).mp h1
theorem inv_len : (inv ns).length = ns.length := by unfold inv; rw [List.length_map, List.length_range]
theorem idx_lt {x : Nat} (h : x ∈ ns) : ns.idxOf x < ns.length := List.idxOf_lt_length_iff.mpr h
theorem idx_at {x : Nat} (h : x ∈ ns) : ns[ns.idxOf x]? = some x := by
  rw [List.getElem?_eq_getElem (idx_lt h), List.getElem_idxOf (idx_lt h)]
theorem inv_at {x : Nat} (h : x < ns.length) : (inv ns)[x]? = some (ns.idxOf x) := by
  unfold inv
  rw [List.getElem?_map, List.getElem?_range h]
  rfl
theorem fn_inv {x : Nat} (h : x < ns.length) : fn (inv ns) x = ns.idxOf x := by
  have := fn_at (st := inv ns) (x := x) (by rw [inv_len]; exact h)
  rw [inv_at h] at this
  exact (Option.some.inj this).symm
theorem IsMesh.idx_inj (m : IsMesh ns) {x y : Nat} (hx : x ∈ ns) (hy : y ∈ ns) (e : ns.idxOf x = ns.idxOf y) : x = y := by
  have h1 := idx_at hx
  have h2 := idx_at hy
  rw [e, h2] at h1
  exact (Option.some.inj h1).symm
theorem stp_len (b : Bool) : (stp ns b).length = ns.length := by
  cases b
  · show ((inv ns).map tw).length = _
    rw [List.length_map, inv_len]
  · rfl
theorem stp_at {x : Nat} (h : x < ns.length) : (stp ns false)[x]? = some (tw (ns.idxOf x)) := by
  show ((inv ns).map tw)[x]? = _
  rw [List.getElem?_map, inv_at h]
  rfl
theorem fn_stp {x : Nat} (h : x < ns.length) : fn (stp ns false) x = tw (ns.idxOf x) := by
  have := fn_at (st := stp ns false) (x := x) (by rw [stp_len]; exact h)
  rw [stp_at h] at this
  exact (Option.some.inj this).symm
theorem IsMesh.stp (m : IsMesh ns) (b : Bool) : PermOn (fn (stp ns b)) ns.length := by
  cases b
  · refine ⟨fun x hx => ?_, fun x y hx hy e => ?_⟩
    · rw [fn_stp hx]
      exact tw_lt m.even (idx_lt (m.mem hx))
    · rw [fn_stp hx, fn_stp hy] at e
      exact m.idx_inj (m.mem hx) (m.mem hy) (tw_inj e)
  · exact m.fnp
end
end MM

namespace Pf
open PySem PySem.Spec PyProof.Rows L2
theorem sq {K : PySem.W.Frag} {H : Hp} {a : Addr} {xs : List V} (h : H a = some (.lst xs)) : SqL K H a xs := .inl (.inl h)
theorem st {K : PySem.W.Frag} {H : Hp} {a : Addr} {xs : List V} (h : H a = some (.tup xs)) : SqT K H a xs := .inl (.inl h)
theorem szl {n : Nat} (h : n ≤ 100000) : n ≤ sizeLine := Nat.le_trans h (by decide)
theorem szt {n : Nat} (h : n < 100000) : n < sizeLine := Nat.lt_of_lt_of_le h (by decide)
abbrev vn (n : Nat) : V := .int (n : Int)
def vns (l : List Nat) : List V := l.map vn
theorem vns_len (l : List Nat) : (vns l).length = l.length := List.length_map _
theorem vns_int (l : List Nat) : vns l = (l.map (fun n : Nat => (n : Int))).map V.int := by
  unfold vns
  rw [List.map_map]
  rfl
theorem vns_at {l : List Nat} {i x : Nat} (h : l[i]? = some x) : (vns l)[i]? = some (vn x) := by
  unfold vns
  rw [List.getElem?_map, h]
  rfl
theorem vns_app (l m : List Nat) : vns (l ++ m) = vns l ++ vns m := List.map_append
theorem of_vns {l : List Nat} {i : Nat} {x : V} (h : (vns l)[i]? = some x) : ∃ n, l[i]? = some n ∧ x = vn n := by
  unfold vns at h
  rw [List.getElem?_map] at h
  cases e : l[i]? with
  | none => rw [e] at h; cases h
  | some n => rw [e] at h; exact ⟨n, rfl, (Option.some.inj h).symm⟩
theorem at_n {xs : List V} {j : Nat} {v : V} (h : xs[j]? = some v) : atI xs ((j : Nat) : Int) = some v := atI_nat h
theorem ix_n {n j : Nat} (h : j < n) : ixN n ((j : Nat) : Int) = some j := by
  unfold ixN
  rw [if_pos (by omega), if_pos (by omega), Int.toNat_natCast]
/-! cuts -/
theorem cut_to (xs : List V) (k : Nat) : cutV xs none (some (k : Int)) = xs.take k := by
  unfold cutV
  rw [HT.sIx_none, HT.sIx_nat]
  show List.take (min k xs.length - 0) xs = _
  rw [Nat.sub_zero]
  by_cases h : k ≤ xs.length
  · rw [Nat.min_eq_left h]
  · rw [Nat.min_eq_right (by omega), List.take_length, List.take_of_length_le (by omega)]
theorem cut_from (xs : List V) (k : Nat) : cutV xs (some (k : Int)) none = xs.drop k := by
  unfold cutV
  rw [HT.sIx_none, HT.sIx_nat]
  by_cases h : k ≤ xs.length
  · rw [Nat.min_eq_left h]
    exact List.take_of_length_le (by rw [List.length_drop]; exact Nat.le_refl _)
  · rw [Nat.min_eq_right (by omega), List.drop_of_length_le (Nat.le_refl _), List.drop_of_length_le (by omega), List.take_nil]
/-! data -/
def dI (l : List Int) : PyData := .list (l.map PyData.int)
def dN (l : List Nat) : PyData := dI (l.map fun n : Nat => (n : Int))
def dLL (l : List (List Nat)) : PyData := .list (l.map dN)
theorem eqv_ints : ∀ l m : List Int, PyData.eqvAll (l.map PyData.int) (m.map PyData.int) = decide (l = m)
  | [], [] => by simp [PyData.eqvAll]
  | [], _ :: _ => by simp [PyData.eqvAll]
  | _ :: _, [] => by simp [PyData.eqvAll]
  | a :: l, b :: m => by
    simp only [List.map_cons, PyData.eqvAll, PyData.eqv, eqv_ints l m]
    by_cases e : a = b
    · subst e; simp
    · simp [e]
theorem eqv_dI (l m : List Int) : PyData.eqv (dI l) (dI m) = decide (l = m) := by
  unfold dI
  rw [PyData.eqv]
  exact eqv_ints l m
theorem map_nat_inj : ∀ {l m : List Nat}, l.map (fun n : Nat => (n : Int)) = m.map (fun n : Nat => (n : Int)) → l = m
  | [], [], _ => rfl
  | [], _ :: _, h => by cases h
  | _ :: _, [], h => by cases h
  | a :: l, b :: m, h => by
    rw [List.map_cons, List.map_cons, List.cons.injEq] at h
    rw [map_nat_inj h.2, Int.ofNat.inj h.1]
theorem eqv_dN (l m : List Nat) : PyData.eqv (dN l) (dN m) = decide (l = m) := by
  unfold dN
  rw [eqv_dI]
  by_cases e : l = m
  · rw [decide_eq_true e, e, decide_eq_true rfl]
  · rw [decide_eq_false e, decide_eq_false fun z => e (map_nat_inj z)]
theorem eqv_lls : ∀ l m : List (List Nat), PyData.eqvAll (l.map dN) (m.map dN) = decide (l = m)
  | [], [] => by simp [PyData.eqvAll]
  | [], _ :: _ => by simp [PyData.eqvAll]
  | _ :: _, [] => by simp [PyData.eqvAll]
  | a :: l, b :: m => by
    simp only [List.map_cons, PyData.eqvAll, eqv_dN, eqv_lls l m]
    by_cases e : a = b
    · subst e; simp
    · simp [e]
theorem eqv_dLL (l m : List (List Nat)) : PyData.eqv (dLL l) (dLL m) = decide (l = m) := by
  unfold dLL
  rw [PyData.eqv]
  exact eqv_lls l m
theorem lay_ints : ∀ l : List Int, PyData.canLayAll0 (l.map PyData.int) = true
  | [] => by simp [PyData.canLayAll0]
  | a :: l => by simp [PyData.canLayAll0, PyData.canLay0, lay_ints l]
theorem dep_ints : ∀ l : List Int, PyData.depthAll (l.map PyData.int) = 0
  | [] => by simp [PyData.depthAll]
  | a :: l => by simp [PyData.depthAll, PyData.depth, dep_ints l]
theorem sh_dI (l : List Int) : SeqAt.shaped (dI l) = true := by
  unfold SeqAt.shaped dI
  rw [PyData.canLay0, PyData.depth, lay_ints, dep_ints]
  rfl
theorem sh_dN (l : List Nat) : SeqAt.shaped (dN l) = true := sh_dI _
theorem lay_dN (l : List Nat) : PyData.canLay0 (dN l) = true := by
  unfold dN dI
  rw [PyData.canLay0]
  exact lay_ints _
theorem dep_dN (l : List Nat) : PyData.depth (dN l) = 1 := by
  unfold dN dI
  rw [PyData.depth, dep_ints]
theorem lay_lls : ∀ l : List (List Nat), PyData.canLayAll0 (l.map dN) = true
  | [] => by simp [PyData.canLayAll0]
  | a :: l => by simp [PyData.canLayAll0, lay_dN, lay_lls l]
theorem dep_lls : ∀ l : List (List Nat), PyData.depthAll (l.map dN) ≤ 1
  | [] => by simp [PyData.depthAll]
  | a :: l => by
    have := dep_lls l
    simp only [List.map_cons, PyData.depthAll, dep_dN]
    omega
theorem sh_dLL (l : List (List Nat)) : SeqAt.shaped (dLL l) = true := by
  unfold SeqAt.shaped dLL
  rw [PyData.canLay0, PyData.depth, lay_lls]
  have := dep_lls l
  simp
  omega
theorem dp_ints {K : PySem.W.Frag} {H : Hp} : ∀ l : List Int, DpAll K H (l.map V.int) (l.map PyData.int)
  | [] => .nil
  | a :: l => .cons (.int a) (dp_ints l)
theorem dp_I {K : PySem.W.Frag} {H : Hp} {a : Addr} {l : List Int} (h : SqL K H a (l.map V.int)) : Dp K H (.ref a) (dI l) := .lst h (dp_ints l)
theorem dp_N {K : PySem.W.Frag} {H : Hp} {a : Addr} {l : List Nat} (h : SqL K H a (vns l)) : Dp K H (.ref a) (dN l) := by
  rw [vns_int] at h
  exact dp_I h
/-- a list of lists of numbers, at p, its lists at ps -/
structure LL (H : Hp) (p : Addr) (ps : List Addr) (xss : List (List Nat)) : Prop where
  top : H p = some (.lst (ps.map V.ref))
  each : Paired (fun q xs => H q = some (.lst (vns xs))) ps xss
theorem paired_imp {α β : Type} {F G : α → β → Prop} (k : ∀ a b, F a b → G a b) : ∀ {l : List α} {m : List β}, Paired F l m → Paired G l m
  | _, _, .nil => .nil
  | _, _, .cons r t => .cons (k _ _ r) (paired_imp k t)
theorem LL.same {H H' : Hp} {p : Addr} {ps : List Addr} {xss : List (List Nat)} (h : LL H p ps xss) (s : Same H H') : LL H' p ps xss := ⟨s _ _ h.top, paired_imp (fun _ _ e => s _ _ e) h.each⟩
theorem dp_all {K : PySem.W.Frag} {H : Hp} : ∀ {ps : List Addr} {xss : List (List Nat)}, Paired (fun q xs => H q = some (.lst (vns xs))) ps xss → DpAll K H (ps.map V.ref) (xss.map dN)
  | _, _, .nil => .nil
  | _, _, .cons r t => .cons (dp_N (sq r)) (dp_all t)
theorem dp_LL {K : PySem.W.Frag} {H : Hp} {p : Addr} {ps : List Addr} {xss : List (List Nat)} (h : LL H p ps xss) : Dp K H (.ref p) (dLL xss) := .lst (sq h.top) (dp_all h.each)
theorem paired_app {α β : Type} {F : α → β → Prop} : ∀ {l l' : List α} {m m' : List β}, Paired F l m → Paired F l' m' → Paired F (l ++ l') (m ++ m')
  | _, _, _, _, .nil, s => s
  | _, _, _, _, .cons r t, s => .cons r (paired_app t s)
theorem paired_len {α β : Type} {F : α → β → Prop} : ∀ {l : List α} {m : List β}, Paired F l m → l.length = m.length
  | _, _, .nil => rfl
  | _, _, .cons _ t => by rw [List.length_cons, List.length_cons, paired_len t]
theorem paired_mem {α β : Type} {F : α → β → Prop} : ∀ {l : List α} {m : List β}, Paired F l m → ∀ a ∈ l, ∃ b ∈ m, F a b
  | _, _, .nil, _, h => by cases h
  | _, _, .cons (a := x) (b := y) r t, a, h => by
    rcases List.mem_cons.mp h with rfl | h
    · exact ⟨y, List.mem_cons_self, r⟩
    · obtain ⟨b, hb, f⟩ := paired_mem t a h
      exact ⟨b, List.mem_cons_of_mem _ hb, f⟩
theorem paired_upd {H : Hp} {p : Addr} {o : HO} : ∀ {l : List Addr} {m : List (List Nat)}, Paired (fun q xs => H q = some (.lst (vns xs))) l m → (∀ x ∈ l, x ≠ p) → Paired (fun q xs => (upd H p o) q = some (.lst (vns xs))) l m
  | _, _, .nil, _ => .nil
  | _, _, .cons r t, h => .cons (by rw [upd_ne (h _ List.mem_cons_self)]; exact r) (paired_upd t fun x hx => h x (List.mem_cons_of_mem _ hx))
theorem same_but {H H' : Hp} {p : Addr} {o : HO} (h : Same H H') (hp : H p = none) : Same H (upd H' p o) := RD.same_mut h hp
/-- all but what stands at a is as it was -/
def SameX (a : Addr) (H H' : Hp) : Prop := ∀ b o, H b = some o → b ≠ a → H' b = some o
theorem SameX.refl (a : Addr) (H : Hp) : SameX a H H := fun _ _ h _ => h
theorem SameX.trans {a : Addr} {H H1 H2 : Hp} (x : SameX a H H1) (y : SameX a H1 H2) : SameX a H H2 := fun b o h hb => y b o (x b o h hb) hb
theorem Same.x {a : Addr} {H H1 : Hp} (x : Same H H1) : SameX a H H1 := fun b o h _ => x b o h
theorem SameX.put {a : Addr} {H H1 : Hp} {o : HO} (x : SameX a H H1) : SameX a H (upd H1 a o) := fun b u h hb => by rw [upd_ne hb]; exact x b u h hb
theorem SameX.same {a : Addr} {H H1 : Hp} (x : SameX a H H1) (h : H a = none) : Same H H1 := fun b o e => x b o e (ne_of_none e h)
theorem SameX.mut {a : Addr} {H H' : Hp} {p : Addr} {o : HO} (e : SameX a H H') (h : H p = none) : SameX a H (upd H' p o) := fun b u hb hn => by
  rw [upd_ne (ne_of_none hb h)]
  exact e b u hb hn
theorem SameX.free {a : Addr} {H H' : Hp} (e : SameX a H H') {l : Addr} (h : H' l = Option.none) (hl : l ≠ a) : H l = Option.none := by
  cases q : H l with
  | none => rfl
  | some o =>
    rw [e l o q hl] at h
    cases h
theorem SameX.under {t : Addr} {H H1 H2 : Hp} (x : SameX t H1 H2) (s : Same H H1) (n : H t = none) : Same H H2 := fun b o e => x b o (s b o e) (ne_of_none e n)
theorem same_not {H H' : Hp} {p q : Addr} {o : HO} (_ : Same H H') (e : H p = some o) (n : H q = none) : p ≠ q := ne_of_none e n
end Pf

namespace RD
open PySem PySem.Spec PyProof.Rows L2
section
variable {σ : L2.St} {H : Hp} {Q : VK} {a b : Addr} {xs zs : List V}
theorem pop {y : V} (h : H a = some (.lst (xs ++ [y]))) (q : Q y (upd H a (.lst xs))) : rPop (.ref a) [] H Q := ⟨a, xs ++ [y], y, rfl, rfl, h, by simp, by rw [List.dropLast_concat]; exact q⟩
theorem ext (h : H a = some (.lst xs)) (h' : H b = some (.lst zs)) (hl : xs.length + zs.length ≤ sizeLine) (q : Q .non (upd H a (.lst (xs ++ zs)))) : rExtend (.ref a) [.ref b] H Q := ⟨a, b, xs, zs, rfl, rfl, h, h', hl, q⟩
theorem prop {C : Addr} {sp : Sp} {dvs : List V} {E : XK} {ta : TE} (h : ta σ H fun x H1 => ∃ a dx fs, x = .ref a ∧ H1 a = some (.ins C dx fs) ∧ sp (.ref a :: dvs) H1 Q E) : tProp C sp dvs E ta σ H Q := h
theorem min3 {i j k : Nat} (q : Q (.int ((min (min i j) k : Nat) : Int)) H) : rNuC3 nuMin3 [.int (i : Int), .int (j : Int), .int (k : Int)] H Q := by
  refine ⟨_, _, _, _, rfl, ?_, q⟩
  show (Option.map _ (some (decide ((j : Int) < (i : Int))))).bind _ = _
  show nuMin2 (if decide ((j : Int) < (i : Int)) = true then V.int j else V.int i) (.int k) = _
  by_cases h : (j : Int) < (i : Int)
  · rw [if_pos (decide_eq_true h)]
    show some (if decide ((k : Int) < (j : Int)) = true then V.int k else V.int j) = _
    by_cases h2 : (k : Int) < (j : Int)
    · rw [if_pos (decide_eq_true h2)]
      congr 2
      omega
    · rw [if_neg (by rw [decide_eq_false h2]; exact Bool.false_ne_true)]
      congr 2
      omega
  · rw [if_neg (by rw [decide_eq_false h]; exact Bool.false_ne_true)]
    show some (if decide ((k : Int) < (i : Int)) = true then V.int k else V.int i) = _
    by_cases h2 : (k : Int) < (i : Int)
    · rw [if_pos (decide_eq_true h2)]
      congr 2
      omega
    · rw [if_neg (by rw [decide_eq_false h2]; exact Bool.false_ne_true)]
      congr 2
      omega
/-- a comprehension over a list of objects, each with its datum -/
theorem lcP {K : PySem.W.Frag} {te : TE} {g : TG} {tt : TT} {vs : List Nat} {qs : List Addr} {β : Type} (ds : List β) (hq : SqL K H a (qs.map V.ref)) (hl : qs.length = ds.length) (hsz : qs.length ≤ sizeLine) (p : β → Bool) (f : β → V)
    (turn : ∀ (i : Nat) c d H1 (Q' : VK) (R' : Hp → Prop), qs[i]? = some c → ds[i]? = some d → Same H H1 → (p d = true → ∀ H4, Same H1 H4 → Q' (f d) H4) → (p d = false → ∀ H4, Same H1 H4 → R' H4) →
      g (.ref c) (wipe σ vs) H1 fun σ2 H3 => wipe σ2 vs = wipe σ vs ∧ tt σ2 H3 fun b H5 => if b = true then te σ2 H5 Q' else R' H5)
    (hd : ∀ H' q, H q = none → Same H H' → H' q = some (.lst (pick p f ds)) → Q (.ref q) H') :
    ∃ a', V.ref a = .ref a' ∧ (∃ ys, SqL K H a' ys) ∧ LR (Itl K a') g tt te vs σ H Q := by
  refine ⟨a, rfl, ⟨_, hq⟩, lcAny (walk_list (K := K) (a := a) (xs := qs.map V.ref)) ds (by rw [List.length_map]; exact hl.symm) (by rw [List.length_map]; exact hsz) p f hq (fun H' s => s.seq hq) (fun i H1 x H2 s y => ?_) (fun i b x H1 H2 Q' R' hb s y kT kF => ?_) hd⟩
  · obtain ⟨rfl, _⟩ := y
    exact Same.refl _
  · obtain ⟨rfl, y⟩ := y
    rw [List.getElem?_map] at y
    cases e : qs[i]? with
    | none => rw [e] at y; cases y
    | some c =>
      rw [e] at y
      cases y
      exact turn i c b _ Q' R' e hb s kT kF
/-- [a new list of numbers for each item] -/
theorem lcN {K : PySem.W.Frag} {te : TE} {g : TG} {tt : TT} {vs : List Nat} {β : Type} (ds : List β) (v : β → V) (F : β → List Nat) (hq : SqL K H a (ds.map v)) (hsz : ds.length ≤ 100000)
    (turn : ∀ (i : Nat) d H1 (Q' : VK) (R' : Hp → Prop), ds[i]? = some d → Same H H1 → (∀ H4 c, Same H1 H4 → H1 c = none → H4 c = some (.lst (Pf.vns (F d))) → Q' (.ref c) H4) →
      g (v d) (wipe σ vs) H1 fun σ2 H3 => wipe σ2 vs = wipe σ vs ∧ tt σ2 H3 fun b H5 => if b = true then te σ2 H5 Q' else R' H5)
    (hd : ∀ H' q qs, H q = none → Same H H' → (∀ x ∈ qs, H x = none ∧ x ≠ q) → Pf.LL H' q qs (ds.map F) → Q (.ref q) H') :
    ∃ a', V.ref a = .ref a' ∧ (∃ ys, SqL K H a' ys) ∧ LR (Itl K a') g tt te vs σ H Q := by
  refine ⟨a, rfl, ⟨_, hq⟩, ?_⟩
  intro D hD
  refine lc_it (walk_list (K := K) (a := a) (xs := ds.map v)) (fun i H1 => Same H H1 ∧ ∃ qs, (∀ x ∈ qs, H x = none ∧ x ≠ D) ∧ Pf.LL H1 D qs ((ds.take i).map F)) ⟨same_new hD, [], (fun x hx => nomatch hx), upd_same, .nil⟩ (fun i H1 _ hp => hp.1.seq hq) (fun i x H1 H2 hi hp y => ?_) (fun H1 hp => ?_)
  · obtain ⟨rfl, y⟩ := y
    obtain ⟨s1, qs, hqs, ll⟩ := hp
    rw [List.length_map] at hi
    have ga : ds[i]? = some ds[i] := List.getElem?_eq_getElem hi
    rw [List.getElem?_map, ga] at y
    cases y
    refine turn i ds[i] _ _ _ ga s1 fun H4 c s4 nc ec => ?_
    have ll4 := ll.same s4
    have hlen := Pf.paired_len ll4.each
    rw [List.length_map, List.length_take] at hlen
    have Dc : D ≠ c := ne_of_none ll.top nc
    refine ⟨_, ll4.top, by rw [List.length_map]; exact Pf.szt (by omega), same_mut (s1.trans s4) hD, qs ++ [c], fun x hx => ?_, by rw [upd_same, List.map_append]; rfl, ?_⟩
    · rcases List.mem_append.mp hx with hx | hx
      · exact hqs x hx
      · rw [List.mem_singleton.mp hx]
        exact ⟨s1.free nc, Dc.symm⟩
    · rw [take_one ga, List.map_append]
      refine Pf.paired_app (Pf.paired_upd ll4.each fun x hx => (hqs x hx).2) (.cons ?_ .nil)
      rw [upd_ne Dc.symm]
      exact ec
  · obtain ⟨s1, qs, hqs, ll⟩ := hp
    rw [List.length_map, List.take_length] at ll
    exact hd H1 D qs hD s1 hqs ll
theorem ipi {f : Int → Int → Int} {i j : Int} (q : Q (.int (f i j)) H) : ipI f (.int i) (.int j) H Q := ⟨i, j, rfl, rfl, q⟩
theorem slT {K : PySem.W.Frag} {lo hi : Option Int} (h : SqT K H a xs) (hn : ¬ (HT.sIx xs.length 0 lo = 0 ∧ HT.sIx xs.length xs.length hi = xs.length)) (q : ∀ p, H p = none → Q (.ref p) (upd H p (.tup (cutV xs lo hi)))) : rSlT K (.ref a) lo hi H Q := ⟨a, xs, rfl, h, hn, q⟩
theorem lenO {C : Addr} {sp : Sp} {E : XK} {dx : Addr} {fs : List (Str × V)} (h : H a = some (.ins C dx fs)) (q : sp [.ref a] H (fun v H' => ∃ z : Int, v = .int z ∧ 0 ≤ z ∧ z < 2 ^ 63 ∧ Q (.int z) H') E) : rLenOwn C sp E [.ref a] H Q := ⟨a, dx, fs, rfl, h, q⟩
end
end RD
namespace Pf
open PySem PySem.Spec PyProof.Rows L2
theorem paired_at {α β : Type} {F : α → β → Prop} : ∀ {l : List α} {m : List β}, Paired F l m → ∀ {i : Nat} {a : α} {b : β}, l[i]? = some a → m[i]? = some b → F a b
  | _, _, .nil, i, a, b, h, _ => by cases h
  | _, _, .cons r t, 0, a, b, h, h' => by
    cases h
    cases h'
    exact r
  | _, _, .cons r t, i + 1, a, b, h, h' => paired_at t (by simpa using h) (by simpa using h')
theorem inV_vns (x : Nat) (l : List Nat) : inV (vn x) (vns l) = decide (x ∈ l) := by
  unfold vns
  induction l with
  | nil => simp [inV]
  | cons y r ih =>
    show (((y : Int) == (x : Int)) || inV (vn x) (r.map vn)) = _
    rw [ih]
    by_cases e : x = y
    · subst e; simp
    · have : ((y : Int) == (x : Int)) = false := by
        rw [beq_eq_false_iff_ne]
        intro z
        exact e (Int.ofNat.inj z).symm
      rw [this, Bool.false_or]
      simp [e]
theorem flat_vns (l : List Nat) : (vns l).all flatV = true := by
  unfold vns
  rw [List.all_map]
  exact List.all_eq_true.mpr fun _ _ => rfl
end Pf

namespace MM
/-! new numbers for the halves of some pieces -/
section
variable {ns : List Nat}
def addH (o : List Nat) (h : Nat) : List Nat := if h ∈ o then o else o ++ [h, tw h]
def goO (ns : List Nat) : Nat → List Nat → Nat → List Nat
  | 0, o, _ => o
  | k + 1, o, d => if d < o.length then goO ns k (addH o (fn ns (fn o d))) (d + 1) else o
/-- each even place holds a half, the next place its twin -/
structure Prs (o : List Nat) : Prop where
  ev : o.length % 2 = 0
  t2 : ∀ i, 2 * i < o.length → fn o (2 * i + 1) = tw (fn o (2 * i))
structure Ord (ns o : List Nat) (d : Nat) : Prop where
  nd : o.Nodup
  lt : ∀ x ∈ o, x < ns.length
  pr : Prs o
  cl : ∀ j, j < d → fn ns (fn o j) ∈ o
  le : d ≤ o.length
theorem fn_app_l {o r : List Nat} {i : Nat} (h : i < o.length) : fn (o ++ r) i = fn o i := by
  unfold fn
  rw [List.getD_eq_getElem?_getD, List.getD_eq_getElem?_getD, List.getElem?_append_left h]
theorem fn_app_r {o r : List Nat} {i : Nat} (h : o.length ≤ i) : fn (o ++ r) i = fn r (i - o.length) := by
  unfold fn
  rw [List.getD_eq_getElem?_getD, List.getD_eq_getElem?_getD, List.getElem?_append_right h]
theorem mem_fn {o : List Nat} {x : Nat} (h : x ∈ o) : fn o (o.idxOf x) = x := by
  have := (fn_at (st := o) (x := o.idxOf x) (idx_lt h)).symm.trans (idx_at h)
  exact Option.some.inj this
theorem idx_fn {o : List Nat} (hn : o.Nodup) {i : Nat} (hi : i < o.length) : o.idxOf (fn o i) = i := by
  have h := fn_mem hi
  exact (List.getElem?_inj (idx_lt h) hn).mp ((idx_at h).trans (fn_at hi).symm)
theorem two_cases (i : Nat) : (∃ j, i = 2 * j ∧ tw i = 2 * j + 1) ∨ (∃ j, i = 2 * j + 1 ∧ tw i = 2 * j) := by
  unfold tw
  by_cases h : i % 2 = 0
  · left
    exact ⟨i / 2, by omega, by rw [if_pos h]; omega⟩
  · right
    exact ⟨i / 2, by omega, by rw [if_neg h]; omega⟩
theorem Prs.fn_tw {o : List Nat} (p : Prs o) {i : Nat} (hi : i < o.length) : tw i < o.length ∧ fn o (MM.tw i) = MM.tw (fn o i) := by
  have := p.ev
  rcases two_cases i with ⟨j, rfl, e⟩ | ⟨j, rfl, e⟩
  · rw [e]
    exact ⟨by omega, p.t2 j hi⟩
  · rw [e]
    refine ⟨by omega, ?_⟩
    rw [p.t2 j (by omega), tw_tw]
theorem Prs.mem {o : List Nat} (p : Prs o) {x : Nat} (h : x ∈ o) : MM.tw x ∈ o := by
  have := p.fn_tw (idx_lt h)
  rw [mem_fn h] at this
  rw [← this.2]
  exact fn_mem this.1
theorem Prs.idx {o : List Nat} (p : Prs o) (hn : o.Nodup) {x : Nat} (h : x ∈ o) : o.idxOf (MM.tw x) = MM.tw (o.idxOf x) := by
  have := p.fn_tw (idx_lt h)
  rw [mem_fn h] at this
  rw [← this.2, idx_fn hn this.1]
theorem Prs.add {o : List Nat} (p : Prs o) (h : Nat) : Prs (addH o h) := by
  unfold addH
  by_cases e : h ∈ o
  · rw [if_pos e]; exact p
  · rw [if_neg e]
    have he := p.ev
    refine ⟨by rw [List.length_append]; show (o.length + 2) % 2 = 0; omega, fun i hi => ?_⟩
    rw [List.length_append] at hi
    have hi : 2 * i < o.length + 2 := hi
    rcases Nat.lt_or_ge (2 * i) o.length with hl | hl
    · rw [fn_app_l hl, fn_app_l (by omega)]
      exact p.t2 i hl
    · have : 2 * i = o.length := by omega
      rw [fn_app_r hl, fn_app_r (by omega), show 2 * i - o.length = 0 by omega, show 2 * i + 1 - o.length = 1 by omega]
      rfl
theorem addH_mem {o : List Nat} {h x : Nat} : x ∈ addH o h → x ∈ o ∨ x = h ∨ x = tw h := by
  unfold addH
  by_cases e : h ∈ o
  · rw [if_pos e]; exact .inl
  · rw [if_neg e]
    intro z
    rcases List.mem_append.mp z with z | z
    · exact .inl z
    · rcases List.mem_cons.mp z with z | z
      · exact .inr (.inl z)
      · exact .inr (.inr (List.mem_singleton.mp z))
theorem addH_sub {o : List Nat} {h x : Nat} (m : x ∈ o) : x ∈ addH o h := by
  unfold addH
  by_cases e : h ∈ o
  · rw [if_pos e]; exact m
  · rw [if_neg e]; exact List.mem_append_left _ m
theorem addH_self {o : List Nat} {h : Nat} : h ∈ addH o h := by
  unfold addH
  by_cases e : h ∈ o
  · rw [if_pos e]; exact e
  · rw [if_neg e]; exact List.mem_append_right _ List.mem_cons_self
theorem addH_fn {o : List Nat} {h i : Nat} (hi : i < o.length) : fn (addH o h) i = fn o i := by
  unfold addH
  by_cases e : h ∈ o
  · rw [if_pos e]
  · rw [if_neg e]; exact fn_app_l hi
theorem addH_len {o : List Nat} {h : Nat} : o.length ≤ (addH o h).length := by
  unfold addH
  by_cases e : h ∈ o
  · rw [if_pos e]; exact Nat.le_refl _
  · rw [if_neg e, List.length_append]; omega
theorem tw_ne (h : Nat) : h ≠ tw h := by
  unfold tw
  by_cases e : h % 2 = 0
  · rw [if_pos e]; omega
  · rw [if_neg e]; omega
theorem Ord.add (m : IsMesh ns) {o : List Nat} {d h : Nat} (s : Ord ns o d) (hh : h < ns.length) : Ord ns (addH o h) d := by
  refine ⟨?_, fun x hx => ?_, s.pr.add h, fun j hj => ?_, Nat.le_trans s.le addH_len⟩
  · unfold addH
    by_cases e : h ∈ o
    · rw [if_pos e]; exact s.nd
    · rw [if_neg e]
      have e2 : tw h ∉ o := fun z => e (by have := s.pr.mem z; rwa [tw_tw] at this)
      refine List.nodup_append.mpr ⟨s.nd, ?_, ?_⟩
      · refine List.nodup_cons.mpr ⟨fun z => tw_ne h (List.mem_singleton.mp z), List.nodup_cons.mpr ⟨fun z => (nomatch z), List.nodup_nil⟩⟩
      · intro a ha b hb e3
        subst e3
        rcases List.mem_cons.mp hb with z | z
        · exact e (z ▸ ha)
        · exact e2 (List.mem_singleton.mp z ▸ ha)
  · rcases addH_mem hx with z | z | z
    · exact s.lt x z
    · rw [z]; exact hh
    · rw [z]; exact tw_lt m.even hh
  · have := s.le
    rw [addH_fn (by omega)]
    exact addH_sub (s.cl j hj)
theorem Ord.at_ {o : List Nat} {d i : Nat} (s : Ord ns o d) (hi : i < o.length) : fn o i < ns.length := s.lt _ (fn_mem hi)
theorem Ord.step (m : IsMesh ns) {o : List Nat} {d : Nat} (s : Ord ns o d) (hd : d < o.length) : Ord ns (addH o (fn ns (fn o d))) (d + 1) := by
  have t := s.add m (h := fn ns (fn o d)) (m.fnp.lt _ (s.at_ hd))
  have hl := addH_len (o := o) (h := fn ns (fn o d))
  refine ⟨t.nd, t.lt, t.pr, fun j hj => ?_, by omega⟩
  by_cases e : j < d
  · exact t.cl j e
  · have : j = d := by omega
    subst this
    rw [addH_fn hd]
    exact addH_self
theorem Ord.less {o : List Nat} {d j : Nat} (s : Ord ns o d) (h : j ≤ d) : Ord ns o j := ⟨s.nd, s.lt, s.pr, fun i hi => s.cl i (by omega), Nat.le_trans h s.le⟩
theorem len_le {o : List Nat} {n : Nat} (hN : o.Nodup) (hB : ∀ x ∈ o, x < n) : o.length ≤ n := by
  rcases Nat.lt_or_ge n o.length with h | h
  · exfalso
    obtain ⟨i, j, hij, hj, e⟩ := pigeon n (fun i => fn o i) (fun i hi => hB _ (fn_mem (by omega)))
    have h1 := idx_fn hN (i := i) (by omega)
    have h2 := idx_fn hN (i := j) (by omega)
    have e : fn o i = fn o j := e
    rw [e] at h1
    omega
  · exact h
theorem Ord.len {o : List Nat} {d : Nat} (s : Ord ns o d) : o.length ≤ ns.length := len_le s.nd s.lt
theorem goO_ord (m : IsMesh ns) : ∀ k o d, Ord ns o d → ns.length ≤ k + d → Ord ns (goO ns k o d) (goO ns k o d).length
  | 0, o, d, s, h => by
    have := s.len
    have := s.le
    have e : d = o.length := by omega
    show Ord ns o o.length
    rw [← e]
    exact s
  | k + 1, o, d, s, h => by
    show Ord ns (if d < o.length then goO ns k (addH o (fn ns (fn o d))) (d + 1) else o) (if d < o.length then goO ns k (addH o (fn ns (fn o d))) (d + 1) else o).length
    by_cases e : d < o.length
    · rw [if_pos e]
      exact goO_ord m k _ _ (s.step m e) (by omega)
    · rw [if_neg e]
      have := s.le
      have e : d = o.length := by omega
      rw [← e]
      exact s
theorem goO_fuel (m : IsMesh ns) : ∀ k k' o d, Ord ns o d → ns.length ≤ k + d → ns.length ≤ k' + d → goO ns k o d = goO ns k' o d
  | 0, 0, _, _, _, _, _ => rfl
  | 0, k' + 1, o, d, s, h, h' => by
    have := s.len
    show o = if d < o.length then _ else o
    rw [if_neg (by omega)]
  | k + 1, 0, o, d, s, h, h' => by
    have := s.len
    show (if d < o.length then _ else o) = o
    rw [if_neg (by omega)]
  | k + 1, k' + 1, o, d, s, h, h' => by
    show (if d < o.length then goO ns k (addH o (fn ns (fn o d))) (d + 1) else o) = (if d < o.length then goO ns k' (addH o (fn ns (fn o d))) (d + 1) else o)
    by_cases e : d < o.length
    · rw [if_pos e, if_pos e]
      exact goO_fuel m k k' _ _ (s.step m e) (by omega) (by omega)
    · rw [if_neg e, if_neg e]
/-- all of it -/
def goA (ns o : List Nat) (d : Nat) : List Nat := goO ns ns.length o d
theorem goA_step (m : IsMesh ns) {o : List Nat} {d : Nat} (s : Ord ns o d) (h : d < o.length) : goA ns o d = goA ns (addH o (fn ns (fn o d))) (d + 1) := by
  have := s.len
  unfold goA
  rw [goO_fuel m ns.length (ns.length + 1) o d s (by omega) (by omega)]
  show (if d < o.length then goO ns ns.length (addH o (fn ns (fn o d))) (d + 1) else o) = _
  rw [if_pos h]
theorem goA_stop (m : IsMesh ns) {o : List Nat} {d : Nat} (s : Ord ns o d) (h : ¬ d < o.length) : goA ns o d = o := by
  unfold goA
  rw [goO_fuel m ns.length (ns.length + 1) o d s (by omega) (by omega)]
  show (if d < o.length then goO ns ns.length (addH o (fn ns (fn o d))) (d + 1) else o) = _
  rw [if_neg h]
theorem goA_ord (m : IsMesh ns) {o : List Nat} {d : Nat} (s : Ord ns o d) : Ord ns (goA ns o d) (goA ns o d).length := goO_ord m _ _ _ s (by omega)
theorem goA_less (m : IsMesh ns) {o : List Nat} {d : Nat} (s : Ord ns o d) : ∀ k j, j + k = d → goA ns o j = goA ns o d
  | 0, j, h => by rw [← h]; rfl
  | k + 1, j, h => by
    have hj : j < d := by omega
    have := s.le
    rw [goA_step m (s.less (j := j) (by omega)) (by omega)]
    have e : addH o (fn ns (fn o j)) = o := by
      unfold addH
      rw [if_pos (s.cl j hj)]
    rw [e]
    exact goA_less m s k (j + 1) (by omega)
/-- one more half of the list -/
def nxtO (ns o : List Nat) (h : Nat) : List Nat := goA ns (addH o h) o.length
def ordr (ns : List Nat) (hs : List Nat) : List Nat := hs.foldl (nxtO ns) []
theorem ord_nil (ns : List Nat) : Ord ns [] 0 := ⟨List.nodup_nil, fun _ h => (nomatch h), ⟨rfl, fun i h => absurd h (Nat.not_lt_zero _)⟩, fun j h => absurd h (Nat.not_lt_zero _), Nat.le_refl _⟩
theorem Ord.nxt (m : IsMesh ns) {o : List Nat} (s : Ord ns o o.length) {h : Nat} (hh : h < ns.length) : Ord ns (nxtO ns o h) (nxtO ns o h).length := goA_ord m (s.add m hh)
theorem ordr_snoc (hs : List Nat) (h : Nat) : ordr ns (hs ++ [h]) = nxtO ns (ordr ns hs) h := by
  unfold ordr
  rw [List.foldl_append]
  rfl
theorem ordr_ord (m : IsMesh ns) : ∀ (r : List Nat) (o : List Nat), Ord ns o o.length → (∀ h ∈ r, h < ns.length) → Ord ns (r.foldl (nxtO ns) o) (r.foldl (nxtO ns) o).length
  | [], o, s, _ => s
  | h :: r, o, s, hh => ordr_ord m r _ (s.nxt m (hh h List.mem_cons_self)) fun x hx => hh x (List.mem_cons_of_mem _ hx)
theorem ordr_ok (m : IsMesh ns) {hs : List Nat} (hh : ∀ h ∈ hs, h < ns.length) : Ord ns (ordr ns hs) (ordr ns hs).length := ordr_ord m hs [] (ord_nil ns) hh
theorem goO_sub : ∀ k o d x, x ∈ o → x ∈ goO ns k o d
  | 0, _, _, _, h => h
  | k + 1, o, d, x, h => by
    show x ∈ if d < o.length then goO ns k (addH o (fn ns (fn o d))) (d + 1) else o
    by_cases e : d < o.length
    · rw [if_pos e]; exact goO_sub k _ _ x (addH_sub h)
    · rw [if_neg e]; exact h
theorem nxtO_sub {o : List Nat} {h x : Nat} (hx : x ∈ o) : x ∈ nxtO ns o h := goO_sub _ _ _ _ (addH_sub hx)
theorem nxtO_self {o : List Nat} {h : Nat} : h ∈ nxtO ns o h := goO_sub _ _ _ _ addH_self
theorem fold_sub : ∀ (r o : List Nat) (x : Nat), x ∈ o → x ∈ r.foldl (nxtO ns) o
  | [], _, _, h => h
  | _ :: r, _, x, h => fold_sub r _ x (nxtO_sub h)
theorem ordr_mem : ∀ (r o : List Nat) (x : Nat), x ∈ r → x ∈ r.foldl (nxtO ns) o
  | y :: r, o, x, h => by
    rcases List.mem_cons.mp h with rfl | h
    · exact fold_sub r _ x nxtO_self
    · exact ordr_mem r _ x h
/-! the new mesh -/
def newN (ns o : List Nat) : List Nat := o.map fun h => o.idxOf (fn ns h)
theorem perm_range {l : List Nat} {n : Nat} (hn : l.Nodup) (hb : ∀ x ∈ l, x < n) (hl : l.length = n) : l.Perm (List.range n) := by
  refine (List.perm_ext_iff_of_nodup hn List.nodup_range).mpr fun x => ⟨fun h => List.mem_range.mpr (hb x h), fun h => ?_⟩
  apply Classical.byContradiction
  intro z
  have := len_le (o := x :: l) (n := n) (List.nodup_cons.mpr ⟨z, hn⟩) fun y hy => by
    rcases List.mem_cons.mp hy with rfl | hy
    · exact List.mem_range.mp h
    · exact hb y hy
  rw [List.length_cons] at this
  omega
theorem newN_len (o : List Nat) : (newN ns o).length = o.length := List.length_map _
theorem newN_at {o : List Nat} {i : Nat} (hi : i < o.length) : fn (newN ns o) i = o.idxOf (fn ns (fn o i)) := by
  have h := fn_at (st := newN ns o) (x := i) (by rw [newN_len]; exact hi)
  unfold newN at h
  rw [List.getElem?_map, fn_at hi] at h
  exact (Option.some.inj h).symm
theorem newN_mesh (m : IsMesh ns) {o : List Nat} (s : Ord ns o o.length) : IsMesh (newN ns o) := by
  have hc : ∀ x ∈ o, fn ns x ∈ o := fun x hx => by
    have := s.cl _ (idx_lt hx)
    rwa [mem_fn hx] at this
  refine ⟨perm_range ?_ ?_ rfl, by rw [newN_len]; exact s.pr.ev⟩
  · refine List.pairwise_map.mpr (List.Pairwise.imp_of_mem ?_ s.nd)
    intro a b ha hb hab e
    have e2 : fn o (o.idxOf (fn ns a)) = fn o (o.idxOf (fn ns b)) := by rw [e]
    rw [mem_fn (hc a ha), mem_fn (hc b hb)] at e2
    exact hab (m.fnp.inj _ _ (s.lt a ha) (s.lt b hb) e2)
  · intro x hx
    obtain ⟨y, hy, rfl⟩ := List.mem_map.mp hx
    rw [newN_len]
    exact idx_lt (hc y hy)
/-! a second time nothing changes -/
theorem addH_map {o t : List Nat} {d : Nat} (s : Ord ns o d) {h : Nat} (ht : ∀ x ∈ t, x ∈ o) (hh : h ∈ o) : addH (t.map o.idxOf) (o.idxOf h) = (addH t h).map o.idxOf := by
  unfold addH
  have hm : o.idxOf h ∈ t.map o.idxOf ↔ h ∈ t := by
    constructor
    · intro z
      obtain ⟨y, hy, e⟩ := List.mem_map.mp z
      have e2 : fn o (o.idxOf y) = fn o (o.idxOf h) := by rw [e]
      rw [mem_fn (ht y hy), mem_fn hh] at e2
      rw [← e2]; exact hy
    · exact List.mem_map_of_mem
  by_cases e : h ∈ t
  · rw [if_pos e, if_pos (hm.mpr e)]
  · rw [if_neg e, if_neg fun z => e (hm.mp z), List.map_append]
    congr 1
    show [o.idxOf h, tw (o.idxOf h)] = [o.idxOf h, o.idxOf (tw h)]
    rw [s.pr.idx s.nd hh]
theorem fn_map {t o : List Nat} {i : Nat} (hi : i < t.length) : fn (t.map o.idxOf) i = o.idxOf (fn t i) := by
  have h := fn_at (st := t.map o.idxOf) (x := i) (by rw [List.length_map]; exact hi)
  rw [List.getElem?_map, fn_at hi] at h
  exact (Option.some.inj h).symm
theorem goO_map (m : IsMesh ns) {o : List Nat} (s : Ord ns o o.length) : ∀ k t d, (∀ x ∈ t, x ∈ o) → goO (newN ns o) k (t.map o.idxOf) d = (goO ns k t d).map o.idxOf
  | 0, _, _, _ => rfl
  | k + 1, t, d, ht => by
    show (if d < (t.map o.idxOf).length then goO (newN ns o) k (addH (t.map o.idxOf) (fn (newN ns o) (fn (t.map o.idxOf) d))) (d + 1) else t.map o.idxOf) = (if d < t.length then goO ns k (addH t (fn ns (fn t d))) (d + 1) else t).map o.idxOf
    rw [List.length_map]
    by_cases e : d < t.length
    · rw [if_pos e, if_pos e, fn_map e]
      have h1 : fn t d ∈ o := ht _ (fn_mem e)
      have h2 : fn ns (fn t d) ∈ o := by
        have := s.cl _ (idx_lt h1)
        rwa [mem_fn h1] at this
      rw [newN_at (idx_lt h1), mem_fn h1, addH_map s ht h2]
      refine goO_map m s k _ _ fun x hx => ?_
      rcases addH_mem hx with z | z | z
      · exact ht x z
      · rw [z]; exact h2
      · rw [z]; exact s.pr.mem h2
    · rw [if_neg e, if_neg e]
theorem goO_in {o : List Nat} (s : Ord ns o o.length) : ∀ k t d, (∀ x ∈ t, x ∈ o) → ∀ x ∈ goO ns k t d, x ∈ o
  | 0, _, _, ht => ht
  | k + 1, t, d, ht => by
    show ∀ x ∈ (if d < t.length then goO ns k (addH t (fn ns (fn t d))) (d + 1) else t), x ∈ o
    by_cases e : d < t.length
    · rw [if_pos e]
      refine goO_in s k _ _ fun x hx => ?_
      have h1 : fn t d ∈ o := ht _ (fn_mem e)
      have h2 : fn ns (fn t d) ∈ o := by
        have := s.cl _ (idx_lt h1)
        rwa [mem_fn h1] at this
      rcases addH_mem hx with z | z | z
      · exact ht x z
      · rw [z]; exact h2
      · rw [z]; exact s.pr.mem h2
    · rw [if_neg e]; exact ht
theorem nxt_map (m : IsMesh ns) {o t : List Nat} (s : Ord ns o o.length) (st : Ord ns t t.length) (st' : Ord (newN ns o) (t.map o.idxOf) (t.map o.idxOf).length) (ht : ∀ x ∈ t, x ∈ o) {h : Nat} (hh : h ∈ o) :
    nxtO (newN ns o) (t.map o.idxOf) (o.idxOf h) = (nxtO ns t h).map o.idxOf ∧ ∀ x ∈ nxtO ns t h, x ∈ o := by
  have m' := newN_mesh m s
  have hin : ∀ x ∈ addH t h, x ∈ o := fun x hx => by
    rcases addH_mem hx with z | z | z
    · exact ht x z
    · rw [z]; exact hh
    · rw [z]; exact s.pr.mem hh
  have hb : o.idxOf h < (newN ns o).length := by rw [newN_len]; exact idx_lt hh
  refine ⟨?_, goO_in s _ _ _ hin⟩
  unfold nxtO goA
  have sa := st'.add m' hb
  have sb := st.add m (s.lt h hh)
  rw [goO_fuel m' (newN ns o).length (ns.length + (newN ns o).length) _ _ sa (by omega) (by omega), goO_fuel m ns.length (ns.length + (newN ns o).length) _ _ sb (by omega) (by omega), addH_map s ht hh, List.length_map]
  exact goO_map m s _ _ _ hin
theorem fold_map (m : IsMesh ns) {o : List Nat} (s : Ord ns o o.length) : ∀ (r t : List Nat), (∀ h ∈ r, h ∈ o) → Ord ns t t.length → Ord (newN ns o) (t.map o.idxOf) (t.map o.idxOf).length → (∀ x ∈ t, x ∈ o) →
    (r.map o.idxOf).foldl (nxtO (newN ns o)) (t.map o.idxOf) = (r.foldl (nxtO ns) t).map o.idxOf
  | [], _, _, _, _, _ => rfl
  | h :: r, t, hr, st, st', ht => by
    have hh := hr h List.mem_cons_self
    obtain ⟨e, hi⟩ := nxt_map m s st st' ht hh
    have hb : o.idxOf h < (newN ns o).length := by rw [newN_len]; exact idx_lt hh
    have n1 := st.nxt m (s.lt h hh)
    have n2 := st'.nxt (newN_mesh m s) hb
    rw [e] at n2
    show (r.map o.idxOf).foldl (nxtO (newN ns o)) (nxtO (newN ns o) (t.map o.idxOf) (o.idxOf h)) = _
    rw [e]
    exact fold_map m s r _ (fun x hx => hr x (List.mem_cons_of_mem _ hx)) n1 n2 hi
theorem map_idx {o : List Nat} (hn : o.Nodup) : o.map o.idxOf = List.range o.length := by
  refine List.ext_getElem? fun i => ?_
  rw [List.getElem?_map]
  rcases Nat.lt_or_ge i o.length with h | h
  · rw [fn_at h, List.getElem?_range h]
    exact congrArg some (idx_fn hn h)
  · rw [List.getElem?_eq_none h, List.getElem?_eq_none (by rw [List.length_range]; exact h)]
    rfl
theorem ordr_again (m : IsMesh ns) {hs : List Nat} (hh : ∀ h ∈ hs, h < ns.length) : ordr (newN ns (ordr ns hs)) (hs.map (ordr ns hs).idxOf) = List.range (ordr ns hs).length := by
  have s := ordr_ok m hh
  have := fold_map m s hs [] (fun h hx => ordr_mem hs [] h hx) (ord_nil ns) (ord_nil _) fun x hx => (nomatch hx)
  rw [← map_idx s.nd]
  exact this
theorem idx_range {n x : Nat} (h : x < n) : (List.range n).idxOf x = x := by
  have e : fn (List.range n) x = x := by
    have := fn_at (st := List.range n) (x := x) (by rw [List.length_range]; exact h)
    rw [List.getElem?_range h] at this
    exact (Option.some.inj this).symm
  have := idx_fn (o := List.range n) List.nodup_range (i := x) (by rw [List.length_range]; exact h)
  rwa [e] at this
theorem newN_range {ms : List Nat} (m : IsMesh ms) : newN ms (List.range ms.length) = ms := by
  unfold newN
  refine List.ext_getElem? fun i => ?_
  rw [List.getElem?_map]
  rcases Nat.lt_or_ge i ms.length with h | h
  · rw [List.getElem?_range h, fn_at h]
    exact congrArg some (idx_range (m.fnp.lt i h))
  · rw [List.getElem?_eq_none (by rw [List.length_range]; exact h), List.getElem?_eq_none h]
    rfl
theorem new_again (m : IsMesh ns) {hs : List Nat} (hh : ∀ h ∈ hs, h < ns.length) :
    newN (newN ns (ordr ns hs)) (ordr (newN ns (ordr ns hs)) (hs.map (ordr ns hs).idxOf)) = newN ns (ordr ns hs) ∧
    (hs.map (ordr ns hs).idxOf).map (ordr (newN ns (ordr ns hs)) (hs.map (ordr ns hs).idxOf)).idxOf = hs.map (ordr ns hs).idxOf := by
  have s := ordr_ok m hh
  have m' := newN_mesh m s
  rw [ordr_again m hh]
  constructor
  · have := newN_range m'
    rw [newN_len] at this
    exact this
  · rw [List.map_map]
    refine List.map_congr_left fun x hx => ?_
    exact idx_range (idx_lt (ordr_mem hs [] x hx))
theorem only {l : List Nat} {a : Nat} (hn : l.Nodup) (h : ∀ x, x ∈ l ↔ x = a) : l = [a] := by
  cases l with
  | nil => exact absurd ((h a).mpr rfl) (fun z => nomatch z)
  | cons x r =>
    have hx := (h x).mp List.mem_cons_self
    subst hx
    cases r with
    | nil => rfl
    | cons y r =>
      have hy := (h y).mp (List.mem_cons_of_mem _ List.mem_cons_self)
      subst hy
      exact absurd List.mem_cons_self (List.nodup_cons.mp hn).1
theorem filter_idx {o : List Nat} (hn : o.Nodup) {x : Nat} (h : x ∈ o) : (List.range o.length).filter (fun k => decide (fn o k = x)) = [o.idxOf x] := by
  refine only (List.Pairwise.filter _ List.nodup_range) fun k => ?_
  rw [List.mem_filter, List.mem_range]
  constructor
  · rintro ⟨hk, e⟩
    rw [← of_decide_eq_true e, idx_fn hn hk]
  · rintro rfl
    exact ⟨idx_lt h, decide_eq_true (mem_fn h)⟩
end
end MM

namespace Pf
open PySem PySem.Spec PyProof.Rows L2
def topS (i : Nat) : Stmt := PySem.Challenge.pw_halfmeshes_k21_new_numbers.main.body.getD i (.Pass ⟨0, 0, 0, 0⟩)
abbrev s_twin_of : Stmt := topS 5
theorem sc_twin_of : FnScope ["half"] ["half"] (defScope s_twin_of) := ⟨rfl, rfl, rfl, by decide +kernel, rfl, by decide +kernel, by decide +kernel⟩
abbrev s_are_integers : Stmt := topS 6
theorem sc_are_integers : FnScope ["values", "value"] ["values"] (defScope s_are_integers) := ⟨rfl, rfl, rfl, by decide +kernel, rfl, by decide +kernel, by decide +kernel⟩
abbrev s_Mesh_d_initd_ : Stmt := inClass (topS 7) 0
theorem sc_Mesh_d_initd_ : FnScope ["self", "nexts", "size", "half", "after"] ["self", "nexts"] (defScope s_Mesh_d_initd_) := ⟨rfl, rfl, rfl, by decide +kernel, rfl, by decide +kernel, by decide +kernel⟩
abbrev s_Mesh_d_lend_ : Stmt := inClass (topS 7) 2
theorem sc_Mesh_d_lend_ : FnScope ["self"] ["self"] (defScope s_Mesh_d_lend_) := ⟨rfl, rfl, rfl, by decide +kernel, rfl, by decide +kernel, by decide +kernel⟩
abbrev s_Mesh_d_containsd_ : Stmt := inClass (topS 7) 3
theorem sc_Mesh_d_containsd_ : FnScope ["self", "half"] ["self", "half"] (defScope s_Mesh_d_containsd_) := ⟨rfl, rfl, rfl, by decide +kernel, rfl, by decide +kernel, by decide +kernel⟩
abbrev s_Mesh_d_eqd_ : Stmt := inClass (topS 7) 4
theorem sc_Mesh_d_eqd_ : FnScope ["self", "other"] ["self", "other"] (defScope s_Mesh_d_eqd_) := ⟨rfl, rfl, rfl, by decide +kernel, rfl, by decide +kernel, by decide +kernel⟩
abbrev s_Mesh_after : Stmt := inClass (topS 7) 5
theorem sc_Mesh_after : FnScope ["self", "half"] ["self", "half"] (defScope s_Mesh_after) := ⟨rfl, rfl, rfl, by decide +kernel, rfl, by decide +kernel, by decide +kernel⟩
abbrev s_Mesh_twin : Stmt := inClass (topS 7) 7
theorem sc_Mesh_twin : FnScope ["self", "half"] ["self", "half"] (defScope s_Mesh_twin) := ⟨rfl, rfl, rfl, by decide +kernel, rfl, by decide +kernel, by decide +kernel⟩
abbrev s_Mesh_nexts : Stmt := inClass (topS 7) 9
theorem sc_Mesh_nexts : FnScope ["self"] ["self"] (defScope s_Mesh_nexts) := ⟨rfl, rfl, rfl, by decide +kernel, rfl, by decide +kernel, by decide +kernel⟩
abbrev s_Mesh_pieces : Stmt := inClass (topS 7) 12
theorem sc_Mesh_pieces : FnScope ["self", "seen", "found", "first", "members", "waiting", "half"] ["self"] (defScope s_Mesh_pieces) := ⟨rfl, rfl, rfl, by decide +kernel, rfl, by decide +kernel, by decide +kernel⟩
abbrev s_numbered : Stmt := topS 9
theorem sc_numbered : FnScope ["mesh", "halves", "order", "numbers", "done", "start", "waiting", "half", "entry"] ["mesh", "halves"] (defScope s_numbered) := ⟨rfl, rfl, rfl, by decide +kernel, rfl, by decide +kernel, by decide +kernel⟩
abbrev s_l_tape : Stmt := topS 11
theorem sc_l_tape : FnScope ["_law_script", "_law_k", "_law_cell"] ["_law_script", "_law_k"] (defScope s_l_tape) := ⟨rfl, rfl, rfl, by decide +kernel, rfl, by decide +kernel, by decide +kernel⟩
abbrev s_l_pick : Stmt := topS 12
theorem sc_l_pick : FnScope ["_law_tape_here", "_law_many", "_law_digit", "_law_mixed"] ["_law_tape_here", "_law_many"] (defScope s_l_pick) := ⟨rfl, rfl, rfl, by decide +kernel, rfl, by decide +kernel, by decide +kernel⟩
abbrev s_l_nexts : Stmt := topS 13
theorem sc_l_nexts : FnScope ["_law_tape_here", "_law_edges", "_law_left", "_law_nexts_here", "_law_k", "_law_at"] ["_law_tape_here", "_law_edges"] (defScope s_l_nexts) := ⟨rfl, rfl, rfl, by decide +kernel, rfl, by decide +kernel, by decide +kernel⟩
abbrev s_l_size : Stmt := topS 14
theorem sc_l_size : FnScope ["_law_tape_here", "_law_choice"] ["_law_tape_here"] (defScope s_l_size) := ⟨rfl, rfl, rfl, by decide +kernel, rfl, by decide +kernel, by decide +kernel⟩
abbrev s_l_twin : Stmt := topS 15
theorem sc_l_twin : FnScope ["_law_half"] ["_law_half"] (defScope s_l_twin) := ⟨rfl, rfl, rfl, by decide +kernel, rfl, by decide +kernel, by decide +kernel⟩
abbrev s_l_numbered : Stmt := topS 17
theorem sc_l_numbered : FnScope ["_law_nexts_here", "_law_halves", "_law_order", "_law_start", "_law_at", "_law_after", "_law_numbers", "_law_half", "_law_k"] ["_law_nexts_here", "_law_halves"] (defScope s_l_numbered) := ⟨rfl, rfl, rfl, by decide +kernel, rfl, by decide +kernel, by decide +kernel⟩
abbrev s_law : Stmt := topS 18
theorem sc_law : FnScope ["_law_script", "_law_tape_here", "_law_edges", "_law_nexts_here", "_law_halves", "_law_passed", "_law_found", "_law_numbers", "_law_names", "_law_nothing", "_law_again", "_law_half", "_law_k"] ["_law_script"] (defScope s_law) := ⟨rfl, rfl, rfl, by decide +kernel, rfl, by decide +kernel, by decide +kernel⟩
structure Ad where
  f_twin_of : Addr
  d_twin_of : FuncData
  f_are_integers : Addr
  d_are_integers : FuncData
  f_Mesh_d_initd_ : Addr
  d_Mesh_d_initd_ : FuncData
  f_Mesh_d_lend_ : Addr
  d_Mesh_d_lend_ : FuncData
  f_Mesh_d_containsd_ : Addr
  d_Mesh_d_containsd_ : FuncData
  f_Mesh_d_eqd_ : Addr
  d_Mesh_d_eqd_ : FuncData
  f_Mesh_after : Addr
  d_Mesh_after : FuncData
  f_Mesh_twin : Addr
  d_Mesh_twin : FuncData
  f_Mesh_nexts : Addr
  d_Mesh_nexts : FuncData
  f_Mesh_pieces : Addr
  d_Mesh_pieces : FuncData
  f_numbered : Addr
  d_numbered : FuncData
  f_l_tape : Addr
  d_l_tape : FuncData
  f_l_pick : Addr
  d_l_pick : FuncData
  f_l_nexts : Addr
  d_l_nexts : FuncData
  f_l_size : Addr
  d_l_size : FuncData
  f_l_twin : Addr
  d_l_twin : FuncData
  f_l_numbered : Addr
  d_l_numbered : FuncData
  f_law : Addr
  d_law : FuncData
  c_MeshError : Addr
  c_NotAMesh : Addr
  c_Mesh : Addr
structure Txt (K : PySem.W.Frag) (mg : Str → Option Value) (A : Ad) : Prop where
  F_twin_of : Fun K "twin_of" "twin_of" s_twin_of A.f_twin_of A.d_twin_of
  b_twin_of : Binds K A.d_twin_of ["half"] []
  g_twin_of : mg "twin_of" = some (.ref A.f_twin_of)
  F_are_integers : Fun K "are_integers" "are_integers" s_are_integers A.f_are_integers A.d_are_integers
  b_are_integers : Binds K A.d_are_integers ["values"] []
  g_are_integers : mg "are_integers" = some (.ref A.f_are_integers)
  F_Mesh_d_initd_ : Fun K "__init__" "Mesh.__init__" s_Mesh_d_initd_ A.f_Mesh_d_initd_ A.d_Mesh_d_initd_
  b_Mesh_d_initd_ : Binds K A.d_Mesh_d_initd_ ["self", "nexts"] []
  m_Mesh_d_initd_ : Meth K A.c_Mesh "__init__" A.f_Mesh_d_initd_
  F_Mesh_d_lend_ : Fun K "__len__" "Mesh.__len__" s_Mesh_d_lend_ A.f_Mesh_d_lend_ A.d_Mesh_d_lend_
  b_Mesh_d_lend_ : Binds K A.d_Mesh_d_lend_ ["self"] []
  m_Mesh_d_lend_ : Meth K A.c_Mesh "__len__" A.f_Mesh_d_lend_
  F_Mesh_d_containsd_ : Fun K "__contains__" "Mesh.__contains__" s_Mesh_d_containsd_ A.f_Mesh_d_containsd_ A.d_Mesh_d_containsd_
  b_Mesh_d_containsd_ : Binds K A.d_Mesh_d_containsd_ ["self", "half"] []
  m_Mesh_d_containsd_ : Meth K A.c_Mesh "__contains__" A.f_Mesh_d_containsd_
  F_Mesh_d_eqd_ : Fun K "__eq__" "Mesh.__eq__" s_Mesh_d_eqd_ A.f_Mesh_d_eqd_ A.d_Mesh_d_eqd_
  b_Mesh_d_eqd_ : Binds K A.d_Mesh_d_eqd_ ["self", "other"] []
  m_Mesh_d_eqd_ : Meth K A.c_Mesh "__eq__" A.f_Mesh_d_eqd_
  F_Mesh_after : Fun K "after" "Mesh.after" s_Mesh_after A.f_Mesh_after A.d_Mesh_after
  b_Mesh_after : Binds K A.d_Mesh_after ["self", "half"] []
  m_Mesh_after : Meth K A.c_Mesh "after" A.f_Mesh_after
  F_Mesh_twin : Fun K "twin" "Mesh.twin" s_Mesh_twin A.f_Mesh_twin A.d_Mesh_twin
  b_Mesh_twin : Binds K A.d_Mesh_twin ["self", "half"] []
  m_Mesh_twin : Meth K A.c_Mesh "twin" A.f_Mesh_twin
  F_Mesh_nexts : Fun K "nexts" "Mesh.nexts" s_Mesh_nexts A.f_Mesh_nexts A.d_Mesh_nexts
  b_Mesh_nexts : Binds K A.d_Mesh_nexts ["self"] []
  m_Mesh_nexts : Meth K A.c_Mesh "nexts" A.f_Mesh_nexts
  F_Mesh_pieces : Fun K "pieces" "Mesh.pieces" s_Mesh_pieces A.f_Mesh_pieces A.d_Mesh_pieces
  b_Mesh_pieces : Binds K A.d_Mesh_pieces ["self"] []
  m_Mesh_pieces : Meth K A.c_Mesh "pieces" A.f_Mesh_pieces
  F_numbered : Fun K "numbered" "numbered" s_numbered A.f_numbered A.d_numbered
  b_numbered : Binds K A.d_numbered ["mesh", "halves"] []
  g_numbered : mg "numbered" = some (.ref A.f_numbered)
  F_l_tape : Fun K "_law_tape" "_law_tape" s_l_tape A.f_l_tape A.d_l_tape
  b_l_tape : Binds K A.d_l_tape ["_law_script", "_law_k"] []
  g_l_tape : mg "_law_tape" = some (.ref A.f_l_tape)
  F_l_pick : Fun K "_law_pick" "_law_pick" s_l_pick A.f_l_pick A.d_l_pick
  b_l_pick : Binds K A.d_l_pick ["_law_tape_here", "_law_many"] []
  g_l_pick : mg "_law_pick" = some (.ref A.f_l_pick)
  F_l_nexts : Fun K "_law_nexts" "_law_nexts" s_l_nexts A.f_l_nexts A.d_l_nexts
  b_l_nexts : Binds K A.d_l_nexts ["_law_tape_here", "_law_edges"] []
  g_l_nexts : mg "_law_nexts" = some (.ref A.f_l_nexts)
  F_l_size : Fun K "_law_size" "_law_size" s_l_size A.f_l_size A.d_l_size
  b_l_size : Binds K A.d_l_size ["_law_tape_here"] []
  g_l_size : mg "_law_size" = some (.ref A.f_l_size)
  F_l_twin : Fun K "_law_twin" "_law_twin" s_l_twin A.f_l_twin A.d_l_twin
  b_l_twin : Binds K A.d_l_twin ["_law_half"] []
  g_l_twin : mg "_law_twin" = some (.ref A.f_l_twin)
  F_l_numbered : Fun K "_law_numbered" "_law_numbered" s_l_numbered A.f_l_numbered A.d_l_numbered
  b_l_numbered : Binds K A.d_l_numbered ["_law_nexts_here", "_law_halves"] []
  g_l_numbered : mg "_law_numbered" = some (.ref A.f_l_numbered)
  F_law : Fun K "law" "law" s_law A.f_law A.d_law
  b_law : Binds K A.d_law ["_law_script"] []
  g_law : mg "law" = some (.ref A.f_law)
  g_MeshError : mg "MeshError" = some (.ref A.c_MeshError)
  g_NotAMesh : mg "NotAMesh" = some (.ref A.c_NotAMesh)
  g_Mesh : mg "Mesh" = some (.ref A.c_Mesh)
  cl_Mesh : Cls K A.c_Mesh
  mk_Mesh : Mk K A.c_Mesh A.f_Mesh_d_initd_
  n_Mesh_following : NoAttr K A.c_Mesh "following"
  n_Mesh_preceding : NoAttr K A.c_Mesh "preceding"
  nf_list : PySem.W.notFirst K A.c_Mesh (.type "list") = true
  nf_int : PySem.W.notFirst K A.c_Mesh (.type "int") = true
  xa_Mesh : PySem.W.findIn K (.ref A.c_Mesh) "__class__" = some (some (.builtin "object.__class__"))
  xm_Mesh : PySem.W.mroIn K A.c_Mesh (.type "object") = some true
  ki_list_Mesh : PySem.W.kitOne K (.type "list") (.ref A.c_Mesh) = some false
  ki_int_Mesh : PySem.W.kitOne K (.type "int") (.ref A.c_Mesh) = some false
  z_abs : mg "abs" = none
  z_all : mg "all" = none
  z_bool : mg "bool" = none
  z_enumerate : mg "enumerate" = none
  z_int : mg "int" = none
  z_isinstance : mg "isinstance" = none
  z_len : mg "len" = none
  z_list : mg "list" = none
  z_max : mg "max" = none
  z_range : mg "range" = none
  z_sorted : mg "sorted" = none
  z_tuple : mg "tuple" = none
  oc_get : PySem.W.specialIn K (.builtin "object.__class__") "__get__" = some (some (.builtin "getset_descriptor.__get__"))
  oc_tak : PySem.W.takesIn K (.builtin "object.__class__") = some true

end Pf
local macro_rules | `(tactic| walk_at "rd1") => `(tactic| (with_reducible first
  | refine RD.var0 ?_ | refine RD.varS ?_ | refine RD.cst ?_ | refine RD.op ?_ | refine RD.i0 ?_ | refine RD.eqI ?_ | refine RD.neI ?_ | refine RD.exb ?_ | refine RD.tst ?_ | refine RD.tb' ?_
  | refine RD.seq ?_ | refine RD.asg ?_ | refine RD.gn0 ?_ | refine RD.gnS ?_ | refine RD.ifs ?_ | refine RD.ret ?_ | refine RD.nxt ?_ | refine RD.drp ?_ | refine RD.cons ?_ | refine RD.nil ?_
  | refine RD.cb ?_ | refine RD.call ?_ | refine RD.bT ?_ | refine RD.bF ?_ | refine RD.and ?_ | refine RD.or ?_ | refine RD.not ?_ | refine RD.andV ?_ | refine RD.orV ?_ | refine RD.notV ?_ | refine RD.tif ?_
  | refine RD.for_ ?_ | refine RD.iL ?_ | refine RD.iR1 ?_ | refine RD.iR2 ?_ | refine RD.iE ?_ | refine RD.iT ?_ | refine RD.iZ ?_ | refine RD.iS ?_ | refine RD.lc_ ?_ | refine RD.bm ?_ | refine RD.bm0 ?_ | refine RD.fld ?_ | refine RD.meth ?_ | refine RD.make ?_
  | refine RD.lst ?_ | refine RD.tup ?_ | refine RD.sl ?_ | refine RD.nop ?_ | refine RD.prt ?_ | refine RD.exi ?_ | refine RD.un ?_ | refine RD.u0 ?_ | refine RD.aug ?_ | refine RD.gsub ?_ | refine RD.chain ?_ | refine RD.yes ?_
  | refine RD.eqB ?_ | refine RD.neB ?_ | refine RD.eqS ?_ | refine RD.neS ?_ | refine RD.dput ?_ | refine RD.dget ?_ | refine RD.din ?_ | refine RD.dnin ?_ | refine RD.dnew ?_ | refine RD.sfld ?_ | refine RD.lrg ?_ | refine RD.rg1 ?_ | refine RD.int1 ?_ | refine RD.abs1 ?_ | refine RD.max2 ?_ | refine RD.min2 ?_ | refine RD.tru ?_ | refine RD.retN ?_ | refine RD.brk ?_ | refine RD.cnt ?_ | refine RD.prop ?_ | refine RD.ipi ?_))
local macro_rules | `(tactic| walk_at "rd") => `(tactic| (repeat (walk_at "rd1")))
local macro_rules | `(tactic| walk_at "hp") => `(tactic| first | assumption | exact upd_same | (rw [upd_ne (by first | assumption | (apply Ne.symm; assumption) | (exact ne_of_none (by assumption) (by assumption)) | (exact Ne.symm (ne_of_none (by assumption) (by assumption))))]; walk_at "hp"))
local macro_rules | `(tactic| walk_at "wp") => `(tactic| simp only [L2.wipe, List.map_cons, List.map_nil, List.set_cons_succ, List.set_cons_zero])
local macro_rules | `(tactic| walk_at "gn") => `(tactic| (repeat (with_reducible first | refine RD.gn0 ?_ | refine RD.gnS ?_)))
local macro_rules | `(tactic| walk_at "rn") => `(tactic| (repeat (first | walk_at "rd1" | (with_reducible first | refine RD.nbF ?_ | refine RD.nbT ?_))))
namespace Pf
open PySem PySem.Spec PyProof.Rows L2
/-- a tape: two numbers -/
def TapeAt (H : Hp) (a : Addr) : Prop := ∃ x y : Int, H a = some (.lst [.int x, .int y]) ∧ 0 ≤ x ∧ 0 ≤ y ∧ y < 2147483647
theorem TapeAt.same {H H' : Hp} {a : Addr} (t : TapeAt H a) (s : Same H H') : TapeAt H' a := by
  obtain ⟨x, y, h, r⟩ := t
  exact ⟨x, y, s _ _ h, r⟩
theorem TapeAt.mk {H : Hp} {a : Addr} {x y : Int} (h : 0 ≤ x) (h1 : 0 ≤ y) (h2 : y < 2147483647) : TapeAt (upd H a (.lst [.int x, .int y])) a := ⟨x, y, upd_same, h, h1, h2⟩
def sp_l_pick : Sp := fun vs H Q _ => ∃ (a : Addr) (m : Int), vs = [.ref a, .int m] ∧ TapeAt H a ∧ 0 < m ∧ m < 1000001 ∧
  ∀ (v : Nat) (H' : Hp), (v : Int) < m → TapeAt H' a → SameX a H H' → Q (vn v) H'
theorem pick_end {H : Hp} {a : Addr} {m : Int} {Q : VK} (k : ∀ (v : Nat) (H' : Hp), (v : Int) < m → TapeAt H' a → SameX a H H' → Q (vn v) H') {z x y : Int} (h0 : 0 ≤ z) (h1 : z < m) (hx : 0 ≤ x) (hy : 0 ≤ y) (hy2 : y < 2147483647) : Q (.int z) (upd H a (.lst [.int x, .int y])) := by
  obtain ⟨v, rfl⟩ := Int.eq_ofNat_of_zero_le h0
  exact k v _ h1 (TapeAt.mk hx hy hy2) (SameX.put (SameX.refl a H))
def sp_l_tape (K : PySem.W.Frag) : Sp := fun vs H Q _ => ∃ (a : Addr) (ns : List Int) (k : Int), vs = [.ref a, .int k] ∧ SqL K H a (ns.map V.int) ∧ 0 ≤ k ∧ k < 100 ∧
  ∀ H' p, Same H H' → H p = none → TapeAt H' p → Q (.ref p) H'
def sp_l_size : Sp := fun vs H Q _ => ∃ (a : Addr), vs = [.ref a] ∧ TapeAt H a ∧ ∀ (v : Nat) (H' : Hp), v ≤ 30 → TapeAt H' a → SameX a H H' → Q (vn v) H'
def sp_l_nexts : Sp := fun vs H Q _ => ∃ (a : Addr) (e : Nat), vs = [.ref a, vn e] ∧ TapeAt H a ∧ e ≤ 30 ∧
  ∀ (H' : Hp) (p : Addr) (ns : List Nat), MM.IsMesh ns → ns.length = 2 * e → H p = none → TapeAt H' a → SameX a H H' → H' p = some (.lst (vns ns)) → Q (.ref p) H'
section
variable {P : Program} {w : World} {K : PySem.W.Frag} {mg : Str → Option Value} {base : Heap} {A : Ad}
theorem ok_l_pick (T : Txt K mg A) : FnOk P w K mg base CX0 1 A.f_l_pick A.d_l_pick ["_law_tape_here", "_law_many"] (sp_l_pick) := by
  refine T.F_l_pick.ok sc_l_pick (fun vs H Q E h => ?_) (fun cdv Ar outer s H vs Q E hr h => ?_)
  · obtain ⟨a, m, rfl, _⟩ := h
    rfl
  · obtain ⟨a, m, rfl, ⟨x, y, hA, hx, hy, hy2⟩, hm, hm2, k⟩ := h
    refine ⟨_, (pss_cons (ps_if (pt_cmpR op_ge (pe_ix (RD.k_ixL (K := K) rfl) (pv 0) pe_int (fun _ _ => rfl)) (pe_op op_pow pe_int pe_int) (nomark _))
      (pss_cons (ps_set (i := 2) sc_l_pick.nd rfl (Or.inl rfl) (pe_op op_mod (pe_callTy RD.k_int (by rfl) T.z_int (by decide +kernel) (pa_cons (pe_ix (RD.k_ixL (K := K) rfl) (pv 0) pe_int (fun _ _ => rfl)) pa_nil)) (pv 1)))
      (pss_cons (ps_asg (pe_op op_fdiv (pe_ix (RD.k_ixL (K := K) rfl) (pv 0) pe_int (fun _ _ => rfl)) (pv 1)) (pg_sub (pv 0) pe_int set_list))
      (pss_one (ps_ret (pv 2)))))
      pss_nil)
      (pss_cons (ps_asg (pe_op op_mod (pe_callTy RD.k_int (by rfl) T.z_int (by decide +kernel) (pa_cons (pe_op op_add (pe_op op_add (pe_op op_mul (pe_ix (RD.k_ixL (K := K) rfl) (pv 0) pe_int (fun _ _ => rfl)) pe_int) (pe_op op_mul (pe_ix (RD.k_ixL (K := K) rfl) (pv 0) pe_int (fun _ _ => rfl)) pe_int)) pe_int) pa_nil)) pe_int) (pg_sub (pv 0) pe_int set_list))
      (pss_cons (ps_set (i := 3) sc_l_pick.nd rfl (Or.inl rfl) (pe_op op_mod (pe_callTy RD.k_int (by rfl) T.z_int (by decide +kernel) (pa_cons (pe_op op_add (pe_op op_add (pe_op op_mul (pe_ix (RD.k_ixL (K := K) rfl) (pv 0) pe_int (fun _ _ => rfl)) (pe_ix (RD.k_ixL (K := K) rfl) (pv 0) pe_int (fun _ _ => rfl))) (pe_op op_mul (pe_ix (RD.k_ixL (K := K) rfl) (pv 0) pe_int (fun _ _ => rfl)) pe_int)) pe_int) pa_nil)) pe_int))
      (pss_one (ps_ret (pe_op op_mod (pe_callTy RD.k_int (by rfl) T.z_int (by decide +kernel) (pa_cons (pe_op op_fdiv (pv 3) pe_int) pa_nil)) (pv 1))))))), ?_⟩
    show tSeq _ _ _ [some (.ref a), some (.int m), none, none] H
    walk_at "rd"
    refine RD.ixL (sq hA) rfl ?_
    walk_at "rd"
    refine RD.iC ⟨by decide, by decide, by decide⟩ ?_
    walk_at "rd"
    refine RD.dec (fun hbig => ?_) (fun hsm => ?_)
    · walk_at "rd"
      refine RD.ixL (sq hA) rfl ?_
      walk_at "rd"
      refine RD.iC hm ?_
      walk_at "rd"
      refine RD.ixL (sq hA) rfl ?_
      walk_at "rd"
      refine RD.iC ⟨hm, by omega⟩ ?_
      walk_at "rd"
      refine RD.setL hA rfl ?_
      walk_at "rd"
      exact pick_end k (Int.emod_nonneg _ (by omega)) (Int.emod_lt_of_pos _ hm) (Int.ediv_nonneg hx (by omega)) hy hy2
    · have hx18 : x < 1000000000000000000 := by
        have e : ((10 : Int) ^ (18 : Int).toNat) = 1000000000000000000 := by decide
        rw [e] at hsm
        omega
      walk_at "rd"
      refine RD.ixL (sq hA) rfl ?_
      walk_at "rd"
      refine RD.iC (.inr ⟨by decide, by decide⟩) ?_
      walk_at "rd"
      refine RD.ixL (sq hA) rfl ?_
      walk_at "rd"
      refine RD.iC (.inr ⟨by decide, by decide⟩) ?_
      walk_at "rd"
      refine RD.iC (by decide) ?_
      generalize hy' : (y * 48271 + x * 69621 + 11) % 2147483647 = y'
      have y0 : 0 ≤ y' := by rw [← hy']; exact Int.emod_nonneg _ (by decide)
      have y1 : y' < 2147483647 := by rw [← hy']; exact Int.emod_lt_of_pos _ (by decide)
      walk_at "rd"
      refine RD.setL hA rfl ?_
      have hB : (upd H a (.lst [.int x, .int y'])) a = some (.lst [.int x, .int y']) := upd_same
      walk_at "rd"
      refine RD.ixL (sq hB) rfl ?_
      walk_at "rd"
      refine RD.ixL (sq hB) rfl ?_
      walk_at "rd"
      refine RD.iC (.inl ⟨by omega, by omega⟩) ?_
      walk_at "rd"
      refine RD.ixL (sq hB) rfl ?_
      walk_at "rd"
      refine RD.iC (.inr ⟨by decide, by decide⟩) ?_
      walk_at "rd"
      refine RD.iC (by decide) ?_
      walk_at "rd"
      refine RD.iC ⟨by decide, by decide⟩ ?_
      walk_at "rd"
      refine RD.iC hm ?_
      exact pick_end k (Int.emod_nonneg _ (by omega)) (Int.emod_lt_of_pos _ hm) hx y0 y1
theorem ok_l_tape (T : Txt K mg A) : FnOk P w K mg base CX0 1 A.f_l_tape A.d_l_tape ["_law_script", "_law_k"] (sp_l_tape K) := by
  refine T.F_l_tape.ok sc_l_tape (fun vs H Q E h => ?_) (fun cdv Ar outer s H vs Q E hr h => ?_)
  · obtain ⟨a, ns, k, rfl, _⟩ := h
    rfl
  · obtain ⟨a, ns, k, rfl, hS, hk, hk2, q⟩ := h
    refine ⟨_, (pss_cons (ps_set (i := 2) sc_l_tape.nd rfl (Or.inl rfl) pe_int)
      (pss_cons (ps_if (pt_cmpR (RD.k_neD (K := K) rfl hr.units) (pv 0) (pe_lst pa_nil) (nomark _))
      (pss_one (ps_set (i := 2) sc_l_tape.nd rfl (Or.inl rfl) (pe_ix (RD.k_ixL (K := K) rfl) (pv 0) (pe_op op_mod (pe_callTy RD.k_int (by rfl) T.z_int (by decide +kernel) (pa_cons (pv 1) pa_nil)) (pe_callB (RD.k_len (K := K) rfl) (by rfl) T.z_len (by decide +kernel) (pa_cons (pv 0) pa_nil))) (fun _ _ => rfl))))
      pss_nil)
      (pss_one (ps_ret (pe_lst (pa_cons (pe_callB RD.k_abs (by rfl) T.z_abs (by decide +kernel) (pa_cons (pv 2) pa_nil)) (pa_cons (pe_op op_add (pe_op op_mul pe_int (pv 1)) pe_int) pa_nil))))))), ?_⟩
    show tSeq _ _ _ [some (.ref a), some (.int k), none] H
    walk_at "rd"
    refine ⟨Nat.zero_le _, fun p hp => ?_⟩
    have s1 : Same H (upd H p (.lst [])) := RD.same_new hp
    have hS1 := s1.seq hS
    refine RD.neD (d := dI ns) (e := dI []) (dp_I hS1) (dp_I (l := []) (sq upd_same)) (sh_dI _) (sh_dI _) ?_
    rw [eqv_dI]
    walk_at "rd"
    refine RD.ndec (fun hne => ?_) (fun _ => ?_)
    · have hl : 0 < ns.length := by
        cases ns with
        | nil => exact absurd rfl hne
        | cons _ _ => exact Nat.succ_pos _
      walk_at "rd"
      refine RD.len hS1 ?_
      rw [List.length_map]
      refine RD.iC (show (0 : Int) < _ by omega) ?_
      obtain ⟨j, hj⟩ := Int.eq_ofNat_of_zero_le (Int.emod_nonneg k (show ((ns.length : Nat) : Int) ≠ 0 by omega))
      have hj2 := Int.emod_lt_of_pos k (show (0 : Int) < ((ns.length : Nat) : Int) by omega)
      rw [hj] at hj2 ⊢
      have hjl : j < ns.length := by omega
      refine RD.ixL hS1 (at_n (v := .int ns[j]) (by rw [List.getElem?_map, List.getElem?_eq_getElem hjl]; rfl)) ?_
      walk_at "rd"
      refine RD.iC (.inl ⟨by decide, by decide⟩) ?_
      walk_at "rd"
      refine ⟨(show 2 ≤ sizeLine by decide), fun r hr => ?_⟩
      refine q _ r (s1.trans (RD.same_new hr)) (s1.free hr) (TapeAt.mk ?_ (by omega) (by omega))
      split <;> omega
    · walk_at "rd"
      refine RD.iC (.inl ⟨by decide, by decide⟩) ?_
      walk_at "rd"
      refine ⟨(show 2 ≤ sizeLine by decide), fun r hr => ?_⟩
      refine q _ r (s1.trans (RD.same_new hr)) (s1.free hr) (TapeAt.mk ?_ (by omega) (by omega))
      split <;> omega
theorem ok_l_size (T : Txt K mg A) : FnOk P w K mg base CX0 2 A.f_l_size A.d_l_size ["_law_tape_here"] (sp_l_size) := by
  have G_l_pick := ok_l_pick (P := P) (w := w) (base := base) T
  refine T.F_l_size.ok sc_l_size (fun vs H Q E h => ?_) (fun cdv Ar outer s H vs Q E hr h => ?_)
  · obtain ⟨a, rfl, _⟩ := h
    rfl
  · obtain ⟨a, rfl, tA, q⟩ := h
    refine ⟨_, (pss_cons (ps_set (i := 1) sc_l_size.nd rfl (Or.inl rfl) (pe_call G_l_pick (hr.mono (by decide)) (by rfl) T.g_l_pick T.F_l_pick.kp T.b_l_pick .nil pass0 (pa_cons (pv 0) (pa_cons pe_int pa_nil))))
      (pss_cons (ps_if (pt_cmpR op_eq (pv 1) pe_int (nomark _))
      (pss_one (ps_ret pe_int))
      pss_nil)
      (pss_cons (ps_if (pt_cmpR op_lt (pv 1) pe_int (nomark _))
      (pss_one (ps_ret (pe_call G_l_pick (hr.mono (by decide)) (by rfl) T.g_l_pick T.F_l_pick.kp T.b_l_pick .nil pass0 (pa_cons (pv 0) (pa_cons pe_int pa_nil)))))
      pss_nil)
      (pss_one (ps_ret (pe_call G_l_pick (hr.mono (by decide)) (by rfl) T.g_l_pick T.F_l_pick.kp T.b_l_pick .nil pass0 (pa_cons (pv 0) (pa_cons pe_int pa_nil)))))))), ?_⟩
    show tSeq _ _ _ [some (.ref a), none] H
    walk_at "rd"
    refine ⟨a, 32, rfl, tA, by decide, by decide, fun v H1 hv t1 s1 => ?_⟩
    walk_at "rd"
    refine RD.dec (fun _ => ?_) (fun _ => ?_)
    · walk_at "rd"
      exact q 30 H1 (by omega) t1 s1
    · walk_at "rd"
      refine RD.dec (fun _ => ?_) (fun _ => ?_)
      · walk_at "rd"
        exact ⟨a, 13, rfl, t1, by decide, by decide, fun v H2 hv t2 s2 => q v H2 (by omega) t2 (s1.trans s2)⟩
      · walk_at "rd"
        exact ⟨a, 8, rfl, t1, by decide, by decide, fun v H2 hv t2 s2 => q v H2 (by omega) t2 (s1.trans s2)⟩
theorem ok_l_nexts (T : Txt K mg A) : FnOk P w K mg base CX0 2 A.f_l_nexts A.d_l_nexts ["_law_tape_here", "_law_edges"] (sp_l_nexts) := by
  have G_l_pick := ok_l_pick (P := P) (w := w) (base := base) T
  refine T.F_l_nexts.ok sc_l_nexts (fun vs H Q E h => ?_) (fun cdv Ar outer s H vs Q E hr h => ?_)
  · obtain ⟨a, e, rfl, _⟩ := h
    rfl
  · obtain ⟨a, e, rfl, tA, he, q⟩ := h
    refine ⟨_, (pss_cons (ps_setLc (i := 2) (own := [("_law_k", 4)]) (g := gName 4) (by rfl) sc_l_nexts.nd rfl rfl (sw_true rfl rfl rfl (by decide +kernel)) (pi_range1 (by rfl) T.z_range (pa_cons (pe_op op_mul pe_int (pv 1)) pa_nil)) (blkOk_by (own := [("_law_k", 4)]) (N := ["_law_tape_here", "_law_edges", "_law_left", "_law_nexts_here", "_law_k", "_law_at"]) (sc := defScope s_l_nexts) (by decide +kernel)) (fun _ _ _ _ _ => (pg_name (i := 4) sc_l_nexts.nd rfl (Or.inl rfl))) (fun _ _ _ _ _ => pts_nil) (fun _ _ _ _ _ => (pv 4)))
      (pss_cons (ps_set (i := 3) sc_l_nexts.nd rfl (Or.inl rfl) (pe_lst pa_nil))
      (pss_cons (ps_for PassesOwn.never rfl (pi_range1 (by rfl) T.z_range (pa_cons (pe_op op_mul pe_int (pv 1)) pa_nil)) (pg_name (i := 4) sc_l_nexts.nd rfl (Or.inl rfl))
      (pss_cons (ps_set (i := 5) sc_l_nexts.nd rfl (Or.inl rfl) (pe_call G_l_pick (hr.mono (by decide)) (by rfl) T.g_l_pick T.F_l_pick.kp T.b_l_pick .nil pass0 (pa_cons (pv 0) (pa_cons (pe_callB (RD.k_len (K := K) rfl) (by rfl) T.z_len (by decide +kernel) (pa_cons (pv 2) pa_nil)) pa_nil))))
      (pss_cons (ps_expr (RD.k_bm (K := K) rfl PySem.F.plainAttrs_list PySem.F.slot_list_append PySem.F.type_list_append mt_append (pv 3) (pa_cons (pe_ix (RD.k_ixL (K := K) rfl) (pv 2) (pv 5) (fun _ _ => rfl)) pa_nil)))
      (pss_one (ps_set (i := 2) sc_l_nexts.nd rfl (Or.inl rfl) (pe_op op_cat (pe_slice (RD.k_slL (K := K) rfl) (pv 2) po_none (po_some (pv 5))) (pe_slice (RD.k_slL (K := K) rfl) (pv 2) (po_some (pe_op op_add (pv 5) pe_int)) po_none)))))))
      (pss_one (ps_ret (pv 3)))))), ?_⟩
    show tSeq _ _ _ [some (.ref a), some (vn e), none, none, none, none] H
    walk_at "rd"
    refine RD.iC (.inl ⟨by decide, by decide⟩) ?_
    walk_at "rd"
    refine RD.lcR (z := 2 * (e : Int)) (n := 2 * e) (by omega) (by omega) (by omega) (fun _ => true) vn (fun i H1 Q' R' hi s1 kT kF => ?_) (fun H1 l nl s1 el => ?_)
    · walk_at "wp"
      walk_at "rd"
      refine ⟨rfl, ?_⟩
      walk_at "rd"
      exact kT rfl _ (Same.refl _)
    rw [RD.pick_all (fun _ => rfl)] at el
    walk_at "rd"
    refine ⟨Nat.zero_le _, fun p np => ?_⟩
    walk_at "rd"
    refine RD.iC (.inl ⟨by decide, by decide⟩) ?_
    walk_at "rd"
    have la : l ≠ a := fun z => by
      obtain ⟨x, y, hA, _⟩ := tA
      rw [z, hA] at nl
      cases nl
    have tA1 : TapeAt (upd H1 p (.lst [])) a := (tA.same s1).same (RD.same_new np)
    have pa : p ≠ a := fun z => by
      obtain ⟨x, y, hA, _⟩ := tA.same s1
      rw [z, hA] at np
      cases np
    have np0 : H p = none := s1.free np
    refine RD.goR (n := 2 * e) (by omega) (by omega) (by omega) (fun i σ H2 => ∃ (l' : Addr) (ns left : List Nat) (o4 o5 : Option V), σ = [some (.ref a), some (vn e), some (.ref l'), some (.ref p), o4, o5] ∧ l' ≠ a ∧ l' ≠ p ∧ TapeAt H2 a ∧ SameX a H H2 ∧ H2 l' = some (.lst (vns left)) ∧ H2 p = some (.lst (vns ns)) ∧ (ns ++ left).Perm (List.range (2 * e)) ∧ ns.length = i)
      ⟨l, [], List.range (2 * e), none, none, rfl, la, ne_of_none el np, tA1, (Same.x s1).mut np0, by rw [upd_ne (ne_of_none el np)]; exact el, upd_same, List.Perm.refl _, rfl⟩ ?_ ?_
    · rintro i σ H2 hi ⟨l', ns, left, o4, o5, rfl, la', lp', tA2, s2, el2, ep2, pm, hl⟩
      have hlen := pm.length_eq
      rw [List.length_append, List.length_range, hl] at hlen
      walk_at "rd"
      refine RD.len (sq el2) ?_
      walk_at "rd"
      refine ⟨a, _, rfl, tA2, by rw [vns_len]; omega, by rw [vns_len]; omega, fun v H3 hv tA3 s3 => ?_⟩
      rw [vns_len] at hv
      have hv' : v < left.length := by omega
      have el3 := s3 _ _ el2 la'
      have ep3 := s3 _ _ ep2 pa
      walk_at "rd"
      refine ⟨RD.tyL (sq ep3), ?_⟩
      walk_at "rd"
      refine RD.ixL (sq el3) (at_n (vns_at (List.getElem?_eq_getElem hv'))) ?_
      walk_at "rd"
      refine RD.app ep3 (by rw [vns_len]; exact szt (by omega)) ?_
      have el4 : (upd H3 p (.lst (vns ns ++ [vn left[v]]))) l' = some (.lst (vns left)) := by rw [upd_ne lp']; exact el3
      walk_at "rd"
      refine RD.slL (sq el4) fun c1 nc1 => ?_
      have s4 := RD.same_new (o := .lst (cutV (vns left) none (some (v : Int)))) nc1
      walk_at "rd"
      refine RD.slL (sq (s4 _ _ el4)) fun c2 nc2 => ?_
      have s5 := RD.same_new (o := .lst (cutV (vns left) (some ((v : Int) + 1)) none)) nc2
      have e1 : cutV (vns left) none (some (v : Int)) = vns (left.take v) := by rw [cut_to]; exact (List.map_take ..).symm
      have e2 : cutV (vns left) (some ((v : Int) + 1)) none = vns (left.drop (v + 1)) := by
        rw [show ((v : Int) + 1) = ((v + 1 : Nat) : Int) by omega, cut_from]
        exact (List.map_drop ..).symm
      rw [e1] at nc2 s4 s5 ⊢
      rw [e2] at s5 ⊢
      refine RD.cat (s5 _ _ upd_same) upd_same (by rw [vns_len, vns_len, List.length_take, List.length_drop]; exact szl (by omega)) fun c3 nc3 => ?_
      have s6 := RD.same_new (o := .lst (vns (left.take v) ++ vns (left.drop (v + 1)))) nc3
      walk_at "rd"
      have sA := (s4.trans s5).trans s6
      have ta5 : TapeAt (upd H3 p (.lst (vns ns ++ [vn left[v]]))) a := by
        obtain ⟨x, y, hA, r⟩ := tA3
        exact ⟨x, y, by rw [upd_ne pa.symm]; exact hA, r⟩
      have ep5 : (upd H3 p (.lst (vns ns ++ [vn left[v]]))) p = some (.lst (vns (ns ++ [left[v]]))) := by rw [upd_same, vns_app]; rfl
      have fr : ∀ b o, (upd H3 p (.lst (vns ns ++ [vn left[v]]))) b = some o → b ≠ c3 := fun b o h => ne_of_none ((s4.trans s5) _ _ h) nc3
      refine ⟨c3, ns ++ [left[v]], left.take v ++ left.drop (v + 1), _, _, rfl, ?_, ?_, ta5.same sA, ?_, by rw [upd_same, vns_app], sA _ _ ep5, ?_, by rw [List.length_append, hl]; rfl⟩
      · obtain ⟨x, y, hA, r⟩ := ta5
        exact (fr _ _ hA).symm
      · exact (fr _ _ ep5).symm
      · exact ((s2.trans s3).mut np0).trans (Same.x sA)
      · rw [List.append_assoc]
        refine List.Perm.trans (List.Perm.append_left ns ?_) pm
        rw [← List.eraseIdx_eq_take_drop_succ]
        exact MM.perm_erase left v hv'
    · rintro σ H2 ⟨l', ns, left, o4, o5, rfl, la', lp', tA2, s2, el2, ep2, pm, hl⟩
      have hlen := pm.length_eq
      rw [List.length_append, List.length_range, hl] at hlen
      have e0 : left = [] := List.eq_nil_of_length_eq_zero (by omega)
      subst e0
      rw [List.append_nil] at pm
      walk_at "rd"
      exact q H2 p ns ⟨by rw [hl]; exact pm, by omega⟩ hl np0 tA2 s2 ep2
end
end Pf

namespace Pf
open PySem PySem.Spec PyProof.Rows L2 MM
/-! ### the object -/
theorem fp_ne : ¬ (("following" : Str) = "preceding") := by decide +kernel
def mflds (a b : Addr) : List (Str × V) := putF "preceding" (.ref b) (putF "following" (.ref a) [])
theorem mf_f (a b : Addr) : (mflds a b).lookup ("following" : Str) = some (.ref a) := by
  unfold mflds
  rw [lookup_putF, if_neg fp_ne, lookup_putF, if_pos rfl]
theorem mf_p (a b : Addr) : (mflds a b).lookup ("preceding" : Str) = some (.ref b) := by
  unfold mflds
  rw [lookup_putF, if_pos rfl]
theorem mf_no (a b : Addr) {m : Str} (h1 : ¬ m = "preceding") (h2 : ¬ m = "following") : (mflds a b).lookup m = none := by
  unfold mflds
  rw [lookup_putF, if_neg h1, lookup_putF, if_neg h2]
  rfl
structure MeshAt (A : Ad) (H : Hp) (p a b : Addr) (ns : List Nat) : Prop where
  ob : ∃ dx, H p = some (.ins A.c_Mesh dx (mflds a b))
  fo : H a = some (.lst (vns ns))
  pr : H b = some (.lst (vns (inv ns)))
theorem MeshAt.same {A : Ad} {H H' : Hp} {p a b : Addr} {ns : List Nat} (m : MeshAt A H p a b ns) (s : Same H H') : MeshAt A H' p a b ns := by
  obtain ⟨⟨dx, h⟩, h1, h2⟩ := m
  exact ⟨⟨dx, s _ _ h⟩, s _ _ h1, s _ _ h2⟩
theorem MeshAt.sameX {A : Ad} {H H' : Hp} {p a b t : Addr} {ns : List Nat} (m : MeshAt A H p a b ns) (s : SameX t H H') (n1 : p ≠ t) (n2 : a ≠ t) (n3 : b ≠ t) : MeshAt A H' p a b ns := by
  obtain ⟨⟨dx, h⟩, h1, h2⟩ := m
  exact ⟨⟨dx, s _ _ h n1⟩, s _ _ h1 n2, s _ _ h2 n3⟩
/-! ### promises -/
def sp_twin_of : Sp := fun vs H Q _ => ∃ h : Nat, vs = [vn h] ∧ Q (vn (tw h)) H
def sp_rounds (K : PySem.W.Frag) : Sp := fun vs H Q _ => ∃ (a : Addr) (st : List Nat), vs = [.ref a] ∧ SqL K H a (vns st) ∧ PermOn (fn st) st.length ∧ st.length ≤ 1000 ∧
  ∀ (H' : Hp) (q : Addr) (qs : List Addr), Same H H' → H q = none → (∀ x ∈ qs, H x = none ∧ x ≠ q) → LL H' q qs (rnds (fn st) st.length st.length) → Q (.ref q) H'
def sp_are (K : PySem.W.Frag) : Sp := fun vs H Q _ => ∃ (a : Addr) (ns : List Int), vs = [.ref a] ∧ SqL K H a (ns.map V.int) ∧ ns.length ≤ 1000 ∧ ∀ H', Same H H' → Q (.bl true) H'
def sp_init (A : Ad) : Sp := fun vs H Q _ => ∃ (p dx q : Addr) (ns : List Nat), vs = [.ref p, .ref q] ∧ H p = some (.ins A.c_Mesh dx []) ∧ H q = some (.lst (vns ns)) ∧ IsMesh ns ∧ ns.length ≤ 62 ∧
  ∀ (H' : Hp) (a b : Addr), H a = none → H b = none → a ≠ b → MeshAt A H' p a b ns → SameX p H H' → Q .non H'
def sp_after (A : Ad) : Sp := fun vs H Q _ => ∃ (p a b : Addr) (ns : List Nat) (h : Nat), vs = [.ref p, vn h] ∧ MeshAt A H p a b ns ∧ h < ns.length ∧ Q (vn (fn ns h)) H
def sp_before (A : Ad) : Sp := fun vs H Q _ => ∃ (p a b : Addr) (ns : List Nat) (h : Nat), vs = [.ref p, vn h] ∧ MeshAt A H p a b ns ∧ h < ns.length ∧ Q (vn (ns.idxOf h)) H
def sp_twin : Sp := fun vs H Q _ => ∃ (p : Addr) (h : Nat), vs = [.ref p, vn h] ∧ Q (vn (tw h)) H
def sp_turned (A : Ad) : Sp := fun vs H Q _ => ∃ (p a b : Addr) (ns : List Nat) (h : Nat), vs = [.ref p, vn h] ∧ MeshAt A H p a b ns ∧ h < ns.length ∧ Q (vn (tw (ns.idxOf h))) H
def sp_nexts (A : Ad) : Sp := fun vs H Q _ => ∃ (p a b : Addr) (ns : List Nat), vs = [.ref p] ∧ MeshAt A H p a b ns ∧ ∀ q, H q = none → Q (.ref q) (upd H q (.lst (vns ns)))
def sp_lists (A : Ad) (f : Bool) : Sp := fun vs H Q _ => ∃ (p a b : Addr) (ns : List Nat), vs = [.ref p] ∧ MeshAt A H p a b ns ∧ IsMesh ns ∧ ns.length ≤ 1000 ∧
  ∀ (H' : Hp) (q : Addr) (qs : List Addr), Same H H' → H q = none → (∀ x ∈ qs, H x = none ∧ x ≠ q) → LL H' q qs (rnds (fn (stp ns f)) ns.length ns.length) → Q (.ref q) H'
/-! ### mathematics of the loop -/
def mkK (x : Nat) : Key × V := (Sum.inl (x : Int), V.bl true)
theorem val_mk (x : Nat) : ∀ L : List Nat, valV (L.map mkK) (Sum.inl (x : Int) : Key) = if x ∈ L then some (.bl true) else none
  | [] => rfl
  | y :: L => by
    rw [List.map_cons]
    by_cases e : y = x
    · subst e
      rw [valV_pos (by rfl), if_pos List.mem_cons_self]
      rfl
    · have ne : ¬ (mkK y).1 = (Sum.inl (x : Int) : Key) := fun z => e (Int.ofNat.inj (Sum.inl.inj z))
      rw [valV_neg ne, val_mk x L]
      by_cases m : x ∈ L
      · rw [if_pos m, if_pos (List.mem_cons_of_mem _ m)]
      · rw [if_neg m, if_neg fun z => by
          rcases List.mem_cons.mp z with z | z
          · exact e z.symm
          · exact m z]
def cmin (f : Nat → Nat) (n h : Nat) : List Nat := if isMin f n h = true then cyc f n h else []
theorem rnds_next (f : Nat → Nat) (n h : Nat) : rnds f n (h + 1) = rnds f n h ++ (if (cmin f n h).isEmpty = true then [] else [cmin f n h]) := by
  show rnds f n h ++ (if isMin f n h = true then [cyc f n h] else []) = _
  unfold cmin
  by_cases q : isMin f n h = true
  · rw [if_pos q, if_pos q]; rfl
  · rw [if_neg q, if_neg q]; rfl
theorem cmin_stop {f : Nat → Nat} {n h j : Nat} (p : PermOn f n) (hh : h < n) (hj : j ≤ (cmin f n h).length) : it f j h ∈ (rnds f n h).flatten ++ (cmin f n h).take j ↔ j = (cmin f n h).length := by
  by_cases q : isMin f n h = true
  · have ec : cmin f n h = cyc f n h := if_pos q
    rw [ec] at hj ⊢
    constructor
    · intro hm
      rcases Nat.lt_or_ge j (cyc f n h).length with hl | hl
      · exfalso
        have hat := cyc_at p hh hl
        have hmem : it f j h ∈ cyc f n h := List.mem_of_getElem? hat
        rcases List.mem_append.mp hm with hm | hm
        · exact min_out p hh q hmem hm
        · obtain ⟨i, hi, e⟩ := List.mem_take_iff_getElem.mp hm
          have hi' : i < (cyc f n h).length := by omega
          have e2 : (cyc f n h)[i]? = (cyc f n h)[j]? := by rw [List.getElem?_eq_getElem hi', e, hat]
          have := (List.getElem?_inj hi' (cyc_nodup p hh)).mp e2
          omega
      · omega
    · rintro rfl
      rw [cyc_end p hh]
      refine List.mem_append_right _ ?_
      rw [List.take_length]
      exact cyc_self h
  · have ec : cmin f n h = [] := if_neg q
    rw [ec] at hj ⊢
    have : j = 0 := by simpa using hj
    subst this
    constructor
    · intro _; rfl
    · intro _
      exact List.mem_append_left _ (not_min_in p hh (by simpa using q))
theorem cmin_at {f : Nat → Nat} {n h j : Nat} (p : PermOn f n) (hh : h < n) (hj : j < (cmin f n h).length) : (cmin f n h)[j]? = some (it f j h) := by
  by_cases q : isMin f n h = true
  · have ec : cmin f n h = cyc f n h := if_pos q
    rw [ec] at hj ⊢
    exact cyc_at p hh hj
  · have ec : cmin f n h = [] := if_neg q
    rw [ec] at hj
    exact absurd hj (Nat.not_lt_zero _)
theorem cmin_len {f : Nat → Nat} {n h : Nat} (p : PermOn f n) (hh : h < n) : (cmin f n h).length ≤ n := by
  unfold cmin
  by_cases q : isMin f n h = true
  · rw [if_pos q]; exact cyc_len p hh
  · rw [if_neg q]; exact Nat.zero_le _
theorem nodup_len : ∀ (n : Nat) (l : List Nat), l.Nodup → (∀ x ∈ l, x < n) → l.length ≤ n := by
  intro n l hN hB
  rcases Nat.lt_or_ge n l.length with h | h
  · exfalso
    obtain ⟨i, j, hij, hj, e⟩ := pigeon n (fun i => l.getD i 0) (fun i hi => by
      have hi' : i < l.length := by omega
      show l.getD i 0 < n
      rw [List.getD_eq_getElem?_getD, List.getElem?_eq_getElem hi']
      exact hB _ (List.getElem_mem _))
    have hi' : i < l.length := by omega
    have hj' : j < l.length := by omega
    have e' : l.getD i 0 = l.getD j 0 := e
    rw [List.getD_eq_getElem?_getD, List.getD_eq_getElem?_getD, List.getElem?_eq_getElem hi', List.getElem?_eq_getElem hj'] at e'
    have e2 : l[i]? = l[j]? := by
      rw [List.getElem?_eq_getElem hi', List.getElem?_eq_getElem hj']
      exact congrArg some e'
    have := (List.getElem?_inj hi' hN).mp e2
    omega
  · exact h
theorem flat_len {f : Nat → Nat} {n m : Nat} (p : PermOn f n) (hm : m ≤ n) : (rnds f n m).flatten.length ≤ n := by
  refine nodup_len n _ (rnds_nodup p m hm) fun x hx => ?_
  obtain ⟨g, hg, _, hx⟩ := mem_flat.mp hx
  exact cyc_lt p (by omega) hx
theorem inv_of {ns L : List Nat} (m : IsMesh ns) (hl : L.length = ns.length) (h : ∀ j x : Nat, ns[j]? = some x → L[x]? = some j) : L = inv ns := by
  refine List.ext_getElem? fun x => ?_
  rcases Nat.lt_or_ge x ns.length with hx | hx
  · rw [inv_at hx, h _ _ (idx_at (m.mem hx))]
  · rw [List.getElem?_eq_none (by omega), List.getElem?_eq_none (by rw [inv_len]; omega)]
end Pf

namespace Pf
open PySem PySem.Spec PyProof.Rows L2 MM
section
variable {P : Program} {w : World} {K : PySem.W.Frag} {mg : Str → Option Value} {base : Heap} {A : Ad}
theorem ok_twin_of (T : Txt K mg A) : FnOk P w K mg base CX0 1 A.f_twin_of A.d_twin_of ["half"] (sp_twin_of) := by
  refine T.F_twin_of.ok sc_twin_of (fun vs H Q E h => ?_) (fun cdv Ar outer s H vs Q E hr h => ?_)
  · obtain ⟨n, rfl, _⟩ := h
    rfl
  · obtain ⟨n, rfl, q⟩ := h
    refine ⟨_, (pss_one (ps_ret (pe_ifExp (pt_cmpR op_eq (pe_op op_mod (pv 0) pe_int) pe_int (nomark _)) (pe_op op_add (pv 0) pe_int) (pe_op op_sub (pv 0) pe_int)))), ?_⟩
    show tRet _ _ [some (vn n)] H
    walk_at "rd"
    refine RD.iC (by decide) ?_
    walk_at "rd"
    refine RD.dec (fun e => ?_) (fun e => ?_)
    · walk_at "rd"
      have e2 : ((n : Int) + 1) = ((tw n : Nat) : Int) := by unfold tw; rw [if_pos (by omega)]; omega
      rw [e2]
      exact q
    · walk_at "rd"
      have e2 : ((n : Int) - 1) = ((tw n : Nat) : Int) := by unfold tw; rw [if_neg (by omega)]; omega
      rw [e2]
      exact q

end
end Pf

namespace Pf
open PySem PySem.Spec PyProof.Rows L2 MM
section
variable {P : Program} {w : World} {K : PySem.W.Frag} {mg : Str → Option Value} {base : Heap} {A : Ad}
theorem ok_are_integers (T : Txt K mg A) : FnOk P w K mg base CX0 1 A.f_are_integers A.d_are_integers ["values"] (sp_are K) := by
  refine T.F_are_integers.ok sc_are_integers (fun vs H Q E h => ?_) (fun cdv Ar outer s H vs Q E hr h => ?_)
  · obtain ⟨a, ns, rfl, _⟩ := h
    rfl
  · obtain ⟨a, ns, rfl, hS, hl, q⟩ := h
    refine ⟨_, (pss_one (ps_ret (pe_callB (RD.k_all (K := K) rfl rfl) (by rfl) T.z_all (by decide +kernel) (pa_cons (pe_lc (own := [("value", 1)]) (g := gName 1) (by rfl) sc_are_integers.nd (RD.k_pil (K := K) rfl (pv 0)) (blkOk_by (own := [("value", 1)]) (N := ["values", "value"]) (sc := defScope s_are_integers) (by decide +kernel)) (fun _ _ _ _ _ => (pg_name (i := 1) sc_are_integers.nd rfl (Or.inl rfl))) (fun _ _ _ _ _ => pts_nil) (fun _ _ _ _ _ => (pe_and (pe_callB (RD.k_isi (K := K) rfl) (by rfl) T.z_isinstance (by decide +kernel) (pa_cons (pv 1) (pa_cons (pe_bltn (v := .ty "int") (by rfl) T.z_int (by decide +kernel) rfl) pa_nil))) (pe_one (pe_not (pe_callB (RD.k_isi (K := K) rfl) (by rfl) T.z_isinstance (by decide +kernel) (pa_cons (pv 1) (pa_cons (pe_bltn (v := .ty "bool") (by rfl) T.z_bool (by decide +kernel) rfl) pa_nil)))))))) pa_nil)))), ?_⟩
    show tRet _ _ [some (.ref a), none] H
    walk_at "rd"
    refine RD.lcL hS (by rw [List.length_map]; exact szl (by omega)) (fun _ => true) (fun _ => .bl true) (fun i x H1 Q' R' hx s1 kT kF => ?_) (fun H1 l nl s1 el => ?_)
    · obtain ⟨z, rfl⟩ : ∃ z, x = V.int z := by
        rw [List.getElem?_map] at hx
        cases e : ns[i]? with
        | none => rw [e] at hx; cases hx
        | some z => rw [e] at hx; exact ⟨z, (Option.some.inj hx).symm⟩
      walk_at "wp"
      walk_at "rd"
      refine ⟨rfl, ?_⟩
      walk_at "rd"
      refine RD.isi (.ty "int") (.base (.int z)) (kit_ty (r := true) (by decide +kernel)) ?_
      walk_at "rd"
      refine RD.isi (.ty "bool") (.base (.int z)) (kit_ty (r := false) (by decide +kernel)) ?_
      walk_at "rd"
      exact kT rfl _ (Same.refl _)
    rw [RD.pick_all (fun _ => rfl)] at el
    walk_at "rd"
    refine RD.all1 (bs := ns.map fun _ => true) (sq (by rw [el, List.map_map, List.map_map]; rfl)) ?_
    have e : (ns.map fun _ => true).all id = true := by simp
    rw [e]
    exact q H1 s1
theorem ok_Mesh_d_initd_ (T : Txt K mg A) : FnOk P w K mg base CX0 2 A.f_Mesh_d_initd_ A.d_Mesh_d_initd_ ["self", "nexts"] (sp_init A) := by
  have G_are_integers := ok_are_integers (P := P) (w := w) (base := base) T
  refine T.F_Mesh_d_initd_.ok sc_Mesh_d_initd_ (fun vs H Q E h => ?_) (fun cdv Ar outer s H vs Q E hr h => ?_)
  · obtain ⟨p, dx, r, ns, rfl, _⟩ := h
    rfl
  · obtain ⟨p, dx, r, ns, rfl, hp, hr0, hM, hl, q⟩ := h
    refine ⟨_, (pss_cons (ps_set (i := 2) sc_Mesh_d_initd_.nd rfl (Or.inl rfl) (pe_callB (RD.k_len (K := K) rfl) (by rfl) T.z_len (by decide +kernel) (pa_cons (pv 1) pa_nil)))
      (pss_cons (ps_if (PW.pt (pw_or (pt_cmpR op_eq (pe_op op_mod (pv 2) pe_int) pe_int (nomark _)) (pw_or (pt_not (pt_val (pe_call G_are_integers (hr.mono (by decide)) (by rfl) T.g_are_integers T.F_are_integers.kp T.b_are_integers .nil pass0 (pa_cons (pv 1) pa_nil)))) (pw_or1 (pt_cmpR (RD.k_neD (K := K) rfl hr.units) (pe_callB (RD.k_sorted (K := K) rfl) (by rfl) T.z_sorted (by decide +kernel) (pa_cons (pv 1) pa_nil)) (pe_listRg (by rfl) (by rfl) T.z_list (prg_1 (by rfl) T.z_range (pv 2))) (nomark _))))))
      (pss_one ps_never)
      pss_nil)
      (pss_cons (RD.k_sfld (K := K) rfl (pv 0) (pe_callTy (RD.k_list (K := K) rfl) (by rfl) T.z_list (by decide +kernel) (pa_cons (pv 1) pa_nil)) rfl)
      (pss_cons (RD.k_sfld (K := K) rfl (pv 0) (pe_op op_rep (pe_lst (pa_cons pe_int pa_nil)) (pv 2)) rfl)
      (pss_one (ps_for PassesOwn.never rfl (RD.k_pie (K := K) rfl (by rfl) T.z_enumerate (pa_cons (RD.k_fld (K := K) rfl (pv 0) rfl) pa_nil)) (RD.k_gtup (K := K) (n := 2) rfl rfl (pgs_cons (pg_name (i := 3) sc_Mesh_d_initd_.nd rfl (Or.inl rfl)) (pgs_cons (pg_name (i := 4) sc_Mesh_d_initd_.nd rfl (Or.inl rfl)) pgs_nil)))
      (pss_one (ps_asg (pv 3) (pg_sub (RD.k_fld (K := K) rfl (pv 0) rfl) (pv 4) set_list))))))))), ?_⟩
    show tSeq _ _ _ [some (.ref p), some (.ref r), none, none, none] H
    walk_at "rd"
    refine RD.len (sq hr0) ?_
    rw [vns_len]
    walk_at "rd"
    refine RD.iC (by decide) ?_
    walk_at "rd"
    have he := hM.even
    refine RD.decF (by omega) ?_
    walk_at "rd"
    refine ⟨r, ns.map (fun n : Nat => (n : Int)), rfl, by rw [← vns_int]; exact sq hr0, by rw [List.length_map]; omega, fun H1 s1 => ?_⟩
    walk_at "rd"
    show (if false = true then _ else _)
    walk_at "rd"
    have hr1 := s1 _ _ hr0
    refine RD.sort1 (ns := ns.map (fun n : Nat => (n : Int))) (by rw [← vns_int]; exact sq hr1) (by rw [List.length_map]; omega) fun ns' c pm so nc => ?_
    have en : ns' = (List.range ns.length).map (fun n : Nat => (n : Int)) := by
      refine List.Perm.eq_of_pairwise (le := (· ≤ ·)) (fun x y _ _ h1 h2 => Int.le_antisymm h1 h2) so ?_ (pm.trans (hM.perm.map _))
      refine List.pairwise_map.mpr (List.Pairwise.imp ?_ (List.pairwise_lt_range (n := ns.length)))
      intro x y hxy
      omega
    subst en
    have s2 := RD.same_new (o := .lst (((List.range ns.length).map (fun n : Nat => (n : Int))).map V.int)) nc
    walk_at "rd"
    refine ⟨RgOk.of_le (by omega) (by omega) (by omega) (by omega), fun c2 nc2 => ?_⟩
    have erg : rgV 0 (ns.length : Int) = ((List.range ns.length).map (fun n : Nat => (n : Int))).map V.int := by
      unfold rgV
      rw [List.map_map, show ((ns.length : Int) - 0).toNat = ns.length by omega]
      refine List.map_congr_left fun x _ => ?_
      show V.int (0 + (x : Int)) = V.int (x : Int)
      rw [Int.zero_add]
    rw [erg]
    have s3 := RD.same_new (o := .lst (((List.range ns.length).map (fun n : Nat => (n : Int))).map V.int)) nc2
    refine RD.neD (dp_I (sq (s3 _ _ upd_same))) (dp_I (sq upd_same)) (sh_dI _) (sh_dI _) ?_
    rw [eqv_dI]
    walk_at "rd"
    refine RD.ndF rfl ?_
    have s4 := (s1.trans s2).trans s3
    clear s2 s3
    generalize (upd (upd H1 c (.lst (((List.range ns.length).map (fun n : Nat => (n : Int))).map V.int))) c2 (.lst (((List.range ns.length).map (fun n : Nat => (n : Int))).map V.int))) = Hk at s4 ⊢
    walk_at "rd"
    refine RD.list (sq (s4 _ _ hr0)) fun a na => ?_
    have s5 := RD.same_new (o := .lst (vns ns)) na
    have pa : p ≠ a := ne_of_none (s4 _ _ hp) na
    walk_at "rd"
    refine ⟨p, _, dx, [], rfl, s5 _ _ (s4 _ _ hp), T.cl_Mesh, T.n_Mesh_following, by decide, ?_⟩
    walk_at "rd"
    refine ⟨szl (by simp), fun z nz => ?_⟩
    walk_at "rd"
    refine RD.rep upd_same (by omega) (by omega) ?_ fun b nb => ?_
    · rw [Int.toNat_natCast]
      exact szl (by simp; omega)
    have ezr : (List.replicate ((ns.length : Int)).toNat [V.int 0]).flatten = vns (List.replicate ns.length 0) := by
      rw [Int.toNat_natCast]
      unfold vns
      rw [List.map_replicate]
      generalize ns.length = m0
      induction m0 with
      | zero => rfl
      | succ m ih => rw [List.replicate_succ, List.flatten_cons, ih, List.replicate_succ]; rfl
    rw [ezr]
    have pz : p ≠ z := ne_of_none upd_same nz
    have s6 := RD.same_new (o := .lst [V.int 0]) nz
    have pb : p ≠ b := ne_of_none (s6 _ _ upd_same) nb
    have s7 := RD.same_new (o := .lst (vns (List.replicate ns.length 0))) nb
    have ab : a ≠ b := ne_of_none (s6 _ _ (by rw [upd_ne pa.symm]; exact upd_same)) nb
    have s8 := s6.trans s7
    have na0 : H a = none := s4.free na
    have nb0 : H b = none := by
      have e1 : H b = none ∨ b = p := by
        by_cases e : b = p
        · exact .inr e
        · left
          have := s6.free nb
          rw [upd_ne e] at this
          exact s4.free (s5.free this)
      rcases e1 with e | e
      · exact e
      · exact absurd e.symm pb
    walk_at "rd"
    refine ⟨p, _, dx, _, rfl, s8 _ _ upd_same, T.cl_Mesh, T.n_Mesh_preceding, (by show 1 < 1000; decide), ?_⟩
    have ep : ∀ X : Hp, (upd X p (.ins A.c_Mesh dx (putF "preceding" (.ref b) (putF "following" (.ref a) [])))) p = some (.ins A.c_Mesh dx (mflds a b)) := fun _ => upd_same
    walk_at "rd"
    refine ⟨p, _, dx, _, _, rfl, ep _, T.cl_Mesh, T.n_Mesh_following, mf_f a b, ?_⟩
    walk_at "rd"
    have ea : (upd (upd (upd (upd (upd Hk a (.lst (vns ns))) p (.ins A.c_Mesh dx (putF "following" (.ref a) []))) z (.lst [V.int 0])) b (.lst (vns (List.replicate ns.length 0)))) p (.ins A.c_Mesh dx (putF "preceding" (.ref b) (putF "following" (.ref a) [])))) a = some (.lst (vns ns)) := by
      rw [upd_ne pa.symm]
      exact s8 _ _ (by rw [upd_ne pa.symm]; exact upd_same)
    refine RD.goE (sq ea) (fun i σ H3 => ∃ (L : List Nat) (o3 o4 : Option V), σ = [some (.ref p), some (.ref r), some (.int (ns.length : Int)), o3, o4] ∧ L.length = ns.length ∧ (∀ j x : Nat, j < i → ns[j]? = some x → L[x]? = some j) ∧
        H3 p = some (.ins A.c_Mesh dx (mflds a b)) ∧ H3 a = some (.lst (vns ns)) ∧ H3 b = some (.lst (vns L)) ∧ SameX p H H3)
      ⟨List.replicate ns.length 0, none, none, rfl, List.length_replicate, fun j x hj => absurd hj (Nat.not_lt_zero _), upd_same, ea, by rw [upd_ne pb.symm, upd_same], ?_⟩ (fun i σ H3 _ ⟨L, o3, o4, _, _, _, _, e, _⟩ => sq e) ?_ ?_
    · exact (((((Same.x s4).trans (Same.x s5)).put).trans (Same.x s8))).put
    · rintro i x σ H3 tp hx ⟨L, o3, o4, rfl, hL, hj, e1, e2, e3, s9⟩ ntp
      obtain ⟨m, hm, rfl⟩ := of_vns hx
      have sT := RD.same_new (o := .tup [V.int ((i : Nat) : Int), vn m]) ntp
      refine RD.gtup2 (st upd_same) ?_
      walk_at "rd"
      refine ⟨p, _, dx, _, _, rfl, sT _ _ e1, T.cl_Mesh, T.n_Mesh_preceding, mf_p a b, ?_⟩
      walk_at "rd"
      have hml : m < L.length := by rw [hL]; exact hM.lt (List.mem_of_getElem? hm)
      refine RD.setL (sT _ _ e3) (by rw [vns_len]; exact ix_n hml) ?_
      have ebt : b ≠ tp := ne_of_none e3 ntp
      refine ⟨L.set m i, _, _, rfl, by rw [List.length_set]; exact hL, fun j x hji hjx => ?_, by rw [upd_ne pb]; exact sT _ _ e1, by rw [upd_ne ab]; exact sT _ _ e2, ?_, ?_⟩
      · by_cases e : j = i
        · subst e
          rw [hm] at hjx
          cases hjx
          rw [List.getElem?_set_self hml]
        · have hne : m ≠ x := fun z => by
            subst z
            have hjl : j < ns.length := (List.getElem?_eq_some_iff.mp hjx).1
            exact e ((List.getElem?_inj hjl hM.nodup).mp (hjx.trans hm.symm))
          rw [List.getElem?_set_ne hne]
          exact hj j x (by omega) hjx
      · rw [upd_same]
        show some (HO.lst ((vns L).set m (vn i))) = _
        unfold vns
        rw [List.map_set]
      · exact (s9.trans (Same.x sT)).mut nb0
    · rintro σ H3 ⟨L, o3, o4, rfl, hL, hj, e1, e2, e3, s9⟩
      rw [vns_len] at hj
      have eL : L = inv ns := inv_of hM hL fun j x hjx => hj j x (List.getElem?_eq_some_iff.mp hjx).1 hjx
      subst eL
      exact q H3 a b na0 nb0 ab ⟨⟨dx, e1⟩, e2, e3⟩ s9
end
end Pf

namespace Pf
open PySem PySem.Spec PyProof.Rows L2 MM
section
variable {P : Program} {w : World} {K : PySem.W.Frag} {mg : Str → Option Value} {base : Heap} {A : Ad}
theorem ok_Mesh_after (T : Txt K mg A) : FnOk P w K mg base CX0 1 A.f_Mesh_after A.d_Mesh_after ["self", "half"] (sp_after A) := by
  refine T.F_Mesh_after.ok sc_Mesh_after (fun vs H Q E h => ?_) (fun cdv Ar outer s H vs Q E hr h => ?_)
  · obtain ⟨p, a, b, ns, n, rfl, _⟩ := h
    rfl
  · obtain ⟨p, a, b, ns, n, rfl, ⟨⟨dx, h1⟩, h2, h3⟩, hn, q⟩ := h
    refine ⟨_, (pss_one (ps_ret (pe_ix (RD.k_ixL (K := K) rfl) (RD.k_fld (K := K) rfl (pv 0) rfl) (pv 1) (fun _ _ => rfl)))), ?_⟩
    show tRet _ _ [some (.ref p), some (vn n)] H
    walk_at "rd"
    refine ⟨p, _, dx, _, _, rfl, h1, T.cl_Mesh, T.n_Mesh_following, mf_f a b, ?_⟩
    walk_at "rd"
    exact RD.ixL (sq h2) (at_n (vns_at (fn_at hn))) q
end
end Pf

namespace Pf
open PySem PySem.Spec PyProof.Rows L2 MM
section
variable {P : Program} {w : World} {K : PySem.W.Frag} {mg : Str → Option Value} {base : Heap} {A : Ad}
theorem ok_Mesh_nexts (T : Txt K mg A) : FnOk P w K mg base CX0 1 A.f_Mesh_nexts A.d_Mesh_nexts ["self"] (sp_nexts A) := by
  refine T.F_Mesh_nexts.ok sc_Mesh_nexts (fun vs H Q E h => ?_) (fun cdv Ar outer s H vs Q E hr h => ?_)
  · obtain ⟨p, a, b, ns, rfl, _⟩ := h
    rfl
  · obtain ⟨p, a, b, ns, rfl, ⟨⟨dx, h1⟩, h2, h3⟩, q⟩ := h
    refine ⟨_, (pss_one (ps_ret (pe_callTy (RD.k_list (K := K) rfl) (by rfl) T.z_list (by decide +kernel) (pa_cons (RD.k_fld (K := K) rfl (pv 0) rfl) pa_nil)))), ?_⟩
    show tRet _ _ [some (.ref p)] H
    walk_at "rd"
    refine ⟨p, _, dx, _, _, rfl, h1, T.cl_Mesh, T.n_Mesh_following, mf_f a b, ?_⟩
    walk_at "rd"
    exact RD.list (sq h2) q
end
end Pf

namespace Pf
open PySem PySem.Spec PyProof.Rows L2 MM
def sp_mlen (A : Ad) : Sp := fun vs H Q _ => ∃ (p a b : Addr) (ns : List Nat), vs = [.ref p] ∧ MeshAt A H p a b ns ∧ Q (vn ns.length) H
def sp_mcont (A : Ad) : Sp := fun vs H Q _ => ∃ (p a b : Addr) (ns : List Nat) (z : Int), vs = [.ref p, .int z] ∧ MeshAt A H p a b ns ∧ Q (.bl (decide (0 ≤ z ∧ z < (ns.length : Int)))) H
def sp_meq (K : PySem.W.Frag) (A : Ad) : Sp := fun vs H Q _ => ∃ (p a b : Addr) (ns : List Nat) (y : V), vs = [.ref p, y] ∧ MeshAt A H p a b ns ∧
  ((∃ p2 a2 b2 ms, y = .ref p2 ∧ MeshAt A H p2 a2 b2 ms ∧ Q (.bl (decide (ns = ms))) H) ∨ (∃ t, TyX K H y t ∧ PySem.W.kitOne K t (.ref A.c_Mesh) = some false ∧ Q (.bl false) H))
theorem kit_self {K : PySem.W.Frag} {t : Value} : PySem.W.kitOne K t t = some true := by
  unfold PySem.W.kitOne
  rw [if_pos (by simp)]
theorem nf_self {K : PySem.W.Frag} {C : Addr} : PySem.W.notFirst K C (.ref C) = true := by
  unfold PySem.W.notFirst
  simp
section
variable {P : Program} {w : World} {K : PySem.W.Frag} {mg : Str → Option Value} {base : Heap} {A : Ad}
theorem mesh_ty (T : Txt K mg A) {H : Hp} {p a b : Addr} {ns : List Nat} (m : MeshAt A H p a b ns) : TyX K H (.ref p) (.ref A.c_Mesh) := by
  obtain ⟨dx, h⟩ := m.ob
  exact .base (.ins h T.cl_Mesh T.xa_Mesh T.oc_get T.oc_tak T.xm_Mesh)
theorem ok_Mesh_d_lend_ (T : Txt K mg A) : FnOk P w K mg base CX0 1 A.f_Mesh_d_lend_ A.d_Mesh_d_lend_ ["self"] (sp_mlen A) := by
  refine T.F_Mesh_d_lend_.ok sc_Mesh_d_lend_ (fun vs H Q E h => ?_) (fun cdv Ar outer s H vs Q E hr h => ?_)
  · obtain ⟨p, a, b, ns, rfl, _⟩ := h
    rfl
  · obtain ⟨p, a, b, ns, rfl, ⟨⟨dx, h1⟩, h2, h3⟩, q⟩ := h
    refine ⟨_, (pss_one (ps_ret (pe_callB (RD.k_len (K := K) rfl) (by rfl) T.z_len (by decide +kernel) (pa_cons (RD.k_fld (K := K) rfl (pv 0) rfl) pa_nil)))), ?_⟩
    show tRet _ _ [some (.ref p)] H
    walk_at "rd"
    refine ⟨p, _, dx, _, _, rfl, h1, T.cl_Mesh, T.n_Mesh_following, mf_f a b, ?_⟩
    walk_at "rd"
    refine RD.len (sq h2) ?_
    rw [vns_len]
    exact q
theorem ok_Mesh_d_containsd_ (T : Txt K mg A) : FnOk P w K mg base CX0 1 A.f_Mesh_d_containsd_ A.d_Mesh_d_containsd_ ["self", "half"] (sp_mcont A) := by
  refine T.F_Mesh_d_containsd_.ok sc_Mesh_d_containsd_ (fun vs H Q E h => ?_) (fun cdv Ar outer s H vs Q E hr h => ?_)
  · obtain ⟨p, a, b, ns, z, rfl, _⟩ := h
    rfl
  · obtain ⟨p, a, b, ns, z, rfl, ⟨⟨dx, h1⟩, h2, h3⟩, q⟩ := h
    refine ⟨_, (pss_one (ps_ret (pe_chain op_le op_lt pe_int (pv 1) (pe_callB (RD.k_len (K := K) rfl) (by rfl) T.z_len (by decide +kernel) (pa_cons (RD.k_fld (K := K) rfl (pv 0) rfl) pa_nil))))), ?_⟩
    show tRet _ _ [some (.ref p), some (.int z)] H
    walk_at "rd"
    refine RD.dec (fun e => ?_) (fun e => ?_)
    · walk_at "rd"
      refine ⟨p, _, dx, _, _, rfl, h1, T.cl_Mesh, T.n_Mesh_following, mf_f a b, ?_⟩
      walk_at "rd"
      refine RD.len (sq h2) ?_
      rw [vns_len]
      walk_at "rd"
      have e2 : decide (0 ≤ z ∧ z < (ns.length : Int)) = decide (z < (ns.length : Int)) := by simp [e]
      rw [← e2]
      exact q
    · have e2 : decide (0 ≤ z ∧ z < (ns.length : Int)) = false := decide_eq_false fun h => e h.1
      rw [e2] at q
      exact q
theorem ok_Mesh_d_eqd_ (T : Txt K mg A) : FnOk P w K mg base CX0 1 A.f_Mesh_d_eqd_ A.d_Mesh_d_eqd_ ["self", "other"] (sp_meq K A) := by
  refine T.F_Mesh_d_eqd_.ok sc_Mesh_d_eqd_ (fun vs H Q E h => ?_) (fun cdv Ar outer s H vs Q E hr h => ?_)
  · obtain ⟨p, a, b, ns, y, rfl, _⟩ := h
    rfl
  · obtain ⟨p, a, b, ns, y, rfl, m, hy⟩ := h
    refine ⟨_, (pss_one (ps_ret (pe_and (pe_callB (RD.k_isi (K := K) rfl) (by rfl) T.z_isinstance (by decide +kernel) (pa_cons (pv 1) (pa_cons (pe_glob (v := .ref A.c_Mesh) rfl T.g_Mesh rfl) pa_nil))) (pe_one (pe_cmpR (RD.k_eqD (K := K) rfl hr.units) (RD.k_fld (K := K) rfl (pv 0) rfl) (RD.k_fld (K := K) rfl (pv 1) rfl) (nomark _)))))), ?_⟩
    show tRet _ _ [some (.ref p), some (y)] H
    walk_at "rd"
    rcases hy with ⟨p2, a2, b2, ms, rfl, m2, q⟩ | ⟨t, ty, kt, q⟩
    · refine RD.isi (.own _) (mesh_ty T m2) kit_self ?_
      obtain ⟨⟨dx, h1⟩, h2, h3⟩ := m
      obtain ⟨⟨dy, g1⟩, g2, g3⟩ := m2
      walk_at "rd"
      refine ⟨p, _, dx, _, _, rfl, h1, T.cl_Mesh, T.n_Mesh_following, mf_f a b, ?_⟩
      walk_at "rd"
      refine ⟨p2, _, dy, _, _, rfl, g1, T.cl_Mesh, T.n_Mesh_following, mf_f a2 b2, ?_⟩
      refine RD.eqD (dp_N (sq h2)) (dp_N (sq g2)) (sh_dN _) (sh_dN _) ?_
      rw [eqv_dN]
      exact q
    · refine RD.isi (.own _) ty kt ?_
      walk_at "rd"
      exact q
theorem eq_mesh (T : Txt K mg A) {H : Hp} {Q : VK} {E : XK} {p a b p2 a2 b2 : Addr} {ns ms : List Nat} (m : MeshAt A H p a b ns) (m2 : MeshAt A H p2 a2 b2 ms) (q : Q (.bl (decide (ns = ms))) H) : RD.rEqOwn K A.c_Mesh (sp_meq K A) E (.ref p) (.ref p2) H Q := by
  obtain ⟨dx, h1⟩ := m.ob
  exact ⟨p, dx, _, _, rfl, h1, mesh_ty T m2, nf_self, p, a, b, ns, _, rfl, m, .inl ⟨p2, a2, b2, ms, rfl, m2, _, rfl, q⟩⟩
theorem eq_other {H : Hp} {Q : VK} {E : XK} {p a b : Addr} {ns : List Nat} {y : V} {t : Value} (m : MeshAt A H p a b ns) (ty : TyX K H y t) (nf : PySem.W.notFirst K A.c_Mesh t = true) (kt : PySem.W.kitOne K t (.ref A.c_Mesh) = some false) (q : Q (.bl false) H) : RD.rEqOwn K A.c_Mesh (sp_meq K A) E (.ref p) y H Q := by
  obtain ⟨dx, h1⟩ := m.ob
  exact ⟨p, dx, _, _, rfl, h1, ty, nf, p, a, b, ns, _, rfl, m, .inr ⟨t, ty, kt, _, rfl, q⟩⟩
theorem len_mesh {H : Hp} {Q : VK} {E : XK} {p a b : Addr} {ns : List Nat} (m : MeshAt A H p a b ns) (hl : ns.length ≤ 1000) (q : Q (vn ns.length) H) : RD.rLenOwn A.c_Mesh (sp_mlen A) E [.ref p] H Q := by
  obtain ⟨dx, h1⟩ := m.ob
  exact ⟨p, dx, _, rfl, h1, p, a, b, ns, rfl, m, _, rfl, by omega, by omega, q⟩
theorem in_mesh {H : Hp} {Q : VK} {E : XK} {p a b : Addr} {ns : List Nat} {z : Int} (m : MeshAt A H p a b ns) (q : Q (.bl (decide (0 ≤ z ∧ z < (ns.length : Int)))) H) : RD.rInOwn A.c_Mesh (sp_mcont A) E false (.int z) (.ref p) H Q := by
  obtain ⟨dx, h1⟩ := m.ob
  exact ⟨p, dx, _, rfl, h1, p, a, b, ns, z, rfl, m, _, rfl, q⟩
theorem nin_mesh {H : Hp} {Q : VK} {E : XK} {p a b : Addr} {ns : List Nat} {z : Int} (m : MeshAt A H p a b ns) (q : Q (.bl (!decide (0 ≤ z ∧ z < (ns.length : Int)))) H) : RD.rInOwn A.c_Mesh (sp_mcont A) E true (.int z) (.ref p) H Q := by
  obtain ⟨dx, h1⟩ := m.ob
  exact ⟨p, dx, _, rfl, h1, p, a, b, ns, z, rfl, m, _, rfl, q⟩
end
end Pf

namespace Pf
open PySem PySem.Spec PyProof.Rows L2 MM
/-- Mesh(r), r a right list -/
theorem mk_mesh {A : Ad} {H : Hp} {r : Addr} {ns : List Nat} {Q : VK} {E : XK} (hr : H r = some (.lst (vns ns))) (hM : IsMesh ns) (hl : ns.length ≤ 62)
    (q : ∀ (H' : Hp) (p a b : Addr), H p = none → H a = none → H b = none → Same H H' → MeshAt A H' p a b ns → Q (.ref p) H') :
    RD.MKE A.c_Mesh (sp_init A) [] E [.ref r] H Q := by
  intro x dx nx ndx ne
  have s0 : Same H (upd (upd H dx (.own x)) x (.ins A.c_Mesh dx [])) := RD.same_mut (RD.same_new ndx) nx
  refine ⟨x, dx, r, ns, rfl, upd_same, s0 _ _ hr, hM, hl, fun H' a b na nb _ m sx => ⟨rfl, ?_⟩⟩
  refine q H' x a b nx (s0.free na) (s0.free nb) (fun c o e => sx c o (s0 c o e) (ne_of_none e nx)) m
end Pf

namespace Pf
open PySem PySem.Spec PyProof.Rows L2 MM
/-! the dict of the new numbers -/
def nKf : Nat → List Nat → List (Key × V)
  | _, [] => []
  | k, x :: r => (Sum.inl (x : Int), vn k) :: nKf (k + 1) r
theorem nKf_len : ∀ k o, (nKf k o).length = o.length
  | _, [] => rfl
  | k, x :: r => by
    show (nKf (k + 1) r).length + 1 = r.length + 1
    rw [nKf_len]
theorem nKf_app : ∀ (k : Nat) (o : List Nat) (x : Nat), nKf k (o ++ [x]) = nKf k o ++ [(Sum.inl (x : Int), vn (k + o.length))]
  | _, [], _ => rfl
  | k, y :: r, x => by
    show _ :: nKf (k + 1) (r ++ [x]) = _ :: (nKf (k + 1) r ++ _)
    rw [nKf_app (k + 1) r x, List.length_cons, show k + 1 + r.length = k + (r.length + 1) by omega]
theorem val_nK (x : Nat) : ∀ k o, valV (nKf k o) (Sum.inl (x : Int) : Key) = if x ∈ o then some (vn (k + o.idxOf x)) else none
  | _, [] => rfl
  | k, y :: r => by
    show valV ((Sum.inl (y : Int), vn k) :: nKf (k + 1) r) _ = _
    by_cases e : y = x
    · subst e
      rw [valV_pos (by rfl), if_pos List.mem_cons_self, List.idxOf_cons_self]
      rfl
    · have ne : ¬ ((Sum.inl (y : Int), vn k) : Key × V).1 = (Sum.inl (x : Int) : Key) := fun z => e (Int.ofNat.inj (Sum.inl.inj z))
      rw [valV_neg ne, val_nK x (k + 1) r]
      by_cases m : x ∈ r
      · have e3 : (y :: r).idxOf x = r.idxOf x + 1 := by rw [List.idxOf_cons, show (y == x) = false from beq_false_of_ne e]; rfl
        rw [if_pos m, if_pos (List.mem_cons_of_mem _ m), e3, show k + 1 + r.idxOf x = k + (r.idxOf x + 1) by omega]
      · rw [if_neg m, if_neg fun z => by
          rcases List.mem_cons.mp z with z | z
          · exact e z.symm
          · exact m z]
def sp_numbered (A : Ad) : Sp := fun vs H Q _ => ∃ (p a b q : Addr) (ns hs : List Nat), vs = [.ref p, .ref q] ∧ MeshAt A H p a b ns ∧ IsMesh ns ∧ ns.length ≤ 62 ∧ H q = some (.lst (vns hs)) ∧ (∀ h ∈ hs, h < ns.length) ∧ hs.length ≤ 1000 ∧
  ∀ (H' : Hp) (t p' a' b' l : Addr), Same H H' → H t = none → H p' = none → H a' = none → H b' = none → H l = none → p' ≠ l → a' ≠ l → b' ≠ l → H' t = some (.tup [.ref p', .ref l]) → MeshAt A H' p' a' b' (newN ns (ordr ns hs)) → H' l = some (.lst (vns (hs.map (ordr ns hs).idxOf))) → Q (.ref t) H'
section
variable {P : Program} {w : World} {K : PySem.W.Frag} {mg : Str → Option Value} {base : Heap} {A : Ad}
theorem ok_numbered (T : Txt K mg A) : FnOk P w K mg base CX0 4 A.f_numbered A.d_numbered ["mesh", "halves"] (sp_numbered A) := by
  have G_twin_of := ok_twin_of (P := P) (w := w) (base := base) T
  have G_Mesh_after := ok_Mesh_after (P := P) (w := w) (base := base) T
  have G_Mesh_d_initd_ := ok_Mesh_d_initd_ (P := P) (w := w) (base := base) T
  refine T.F_numbered.ok sc_numbered (fun vs H Q E h => ?_) (fun cdv Ar outer s H vs Q E hr h => ?_)
  · obtain ⟨p, a, b, q, ns, hs, rfl, _⟩ := h
    rfl
  · obtain ⟨p, a, b, r, ns, hs, rfl, m, hM, hl, er, hh, hhl, q⟩ := h
    refine ⟨_, (pss_cons (ps_set (i := 2) sc_numbered.nd rfl (Or.inl rfl) (pe_lst pa_nil))
      (pss_cons (ps_set (i := 3) sc_numbered.nd rfl (Or.inr rfl) pe_dnewK)
      (pss_cons (ps_set (i := 4) sc_numbered.nd rfl (Or.inl rfl) pe_int)
      (pss_cons (ps_for PassesOwn.never rfl (RD.k_pil (K := K) rfl (pv 1)) (pg_name (i := 5) sc_numbered.nd rfl (Or.inl rfl))
      (pss_cons (ps_set (i := 6) sc_numbered.nd rfl (Or.inl rfl) (pe_lst (pa_cons (pv 5) pa_nil)))
      (pss_one (ps_while PassesOwn.never (RD.k_tru (K := K) rfl (pv 6) (by intro _; rfl))
      (pss_cons (ps_set (i := 7) sc_numbered.nd rfl (Or.inl rfl) (RD.k_bm0 (K := K) rfl PySem.F.plainAttrs_list PySem.F.slot_list_pop PySem.F.type_list_pop mt_pop (pv 6)))
      (RD.pss_cut (ps_if (pt_cmp (pc_dnotin (hu_of hr) (pv 7) (pv 3)))
      (pss_one (ps_for PassesOwn.never rfl (RD.k_pit (K := K) rfl (pe_tup (pa_cons (pv 7) (pa_cons (pe_call G_twin_of (hr.mono (by decide)) (by rfl) T.g_twin_of T.F_twin_of.kp T.b_twin_of .nil pass0 (pa_cons (pv 7) pa_nil)) pa_nil)))) (pg_name (i := 8) sc_numbered.nd rfl (Or.inl rfl))
      (pss_cons (ps_dput (hu_of hr) (pv 3) (pv 8) (pe_callB (RD.k_len (K := K) rfl) (by rfl) T.z_len (by decide +kernel) (pa_cons (pv 2) pa_nil)) rfl)
      (pss_one (ps_expr (RD.k_bm (K := K) rfl PySem.F.plainAttrs_list PySem.F.slot_list_append PySem.F.type_list_append mt_append (pv 2) (pa_cons (pv 8) pa_nil)))))))
      pss_nil)
      (pss_one (ps_if (pt_cmpR op_lt (pv 4) (pe_callB (RD.k_len (K := K) rfl) (by rfl) T.z_len (by decide +kernel) (pa_cons (pv 2) pa_nil)) (nomark _))
      (pss_cons (ps_expr (RD.k_bm (K := K) rfl PySem.F.plainAttrs_list PySem.F.slot_list_append PySem.F.type_list_append mt_append (pv 6) (pa_cons (pe_meth (pv 0) T.cl_Mesh T.m_Mesh_after G_Mesh_after (hr.mono (by decide)) T.b_Mesh_after .nil pass0 (pa_cons (pe_ix (RD.k_ixL (K := K) rfl) (pv 2) (pv 4) (fun _ _ => rfl)) pa_nil)) pa_nil)))
      (pss_one (ps_aug (i := 4) sc_numbered.nd rfl (Or.inl rfl) pe_int ip_add)))
      pss_nil))))))))
      (pss_one (ps_ret (pe_tup (pa_cons (pe_make T.mk_Mesh G_Mesh_d_initd_ (hr.mono (by decide)) (by rfl) T.g_Mesh T.b_Mesh_d_initd_ .nil pass0 (pa_cons (pe_lc (own := [("half", 7)]) (g := gName 7) (by rfl) sc_numbered.nd (RD.k_pil (K := K) rfl (pv 2)) (blkOk_by (own := [("half", 7)]) (N := ["mesh", "halves", "order", "numbers", "done", "start", "waiting", "half", "entry"]) (sc := defScope s_numbered) (by decide +kernel)) (fun _ _ _ _ _ => (pg_name (i := 7) sc_numbered.nd rfl (Or.inl rfl))) (fun _ _ _ _ _ => pts_nil) (fun _ _ _ _ _ => (pe_dget (hu_of hr) (pv 3) (pe_meth (pv 0) T.cl_Mesh T.m_Mesh_after G_Mesh_after (hr.mono (by decide)) T.b_Mesh_after .nil pass0 (pa_cons (pv 7) pa_nil)) (fun _ _ => rfl)))) pa_nil)) (pa_cons (pe_lc (own := [("half", 7)]) (g := gName 7) (by rfl) sc_numbered.nd (RD.k_pil (K := K) rfl (pv 1)) (blkOk_by (own := [("half", 7)]) (N := ["mesh", "halves", "order", "numbers", "done", "start", "waiting", "half", "entry"]) (sc := defScope s_numbered) (by decide +kernel)) (fun _ _ _ _ _ => (pg_name (i := 7) sc_numbered.nd rfl (Or.inl rfl))) (fun _ _ _ _ _ => pts_nil) (fun _ _ _ _ _ => (pe_dget (hu_of hr) (pv 3) (pv 7) (fun _ _ => rfl)))) pa_nil))))))))), ?_⟩
    show tSeq _ _ _ [some (.ref p), some (.ref r), none, none, none, none, none, none, none] H
    walk_at "rd"
    refine ⟨Nat.zero_le _, fun o no => ?_⟩
    have s0 := RD.same_new (o := .lst []) no
    walk_at "rd"
    intro d nd
    have nd0 : H d = none := s0.free nd
    have od : o ≠ d := ne_of_none upd_same nd
    have s1 := s0.trans (RD.same_new (o := .dK []) nd)
    walk_at "rd"
    refine RD.goL (K := K) (sq (s1 _ _ er)) (fun i σ H2 => ∃ o5 o6 o7 o8, σ = [some (.ref p), some (.ref r), some (.ref o), some (.ref d), some (vn (ordr ns (hs.take i)).length), o5, o6, o7, o8] ∧ Same H H2 ∧
        H2 o = some (.lst (vns (ordr ns (hs.take i)))) ∧ H2 d = some (.dK (nKf 0 (ordr ns (hs.take i)))))
      ⟨_, _, _, _, rfl, s1, by rw [upd_ne od, upd_same]; rfl, by rw [upd_same]; rfl⟩ (fun i σ H2 _ ⟨_, _, _, _, _, s, _⟩ => sq (s _ _ er)) ?_ ?_
    · rintro i x σ H2 hx ⟨o5, o6, o7, o8, rfl, s2, eo, ed⟩
      obtain ⟨x, hx1, rfl⟩ := of_vns hx
      have hxn := hh x (List.mem_of_getElem? hx1)
      have htk : ∀ h ∈ hs.take i, h < ns.length := fun h hm => hh h (List.mem_of_mem_take hm)
      have hO := ordr_ok hM htk
      rw [RD.take_one hx1, ordr_snoc]
      generalize ordr ns (hs.take i) = O at eo ed hO ⊢
      walk_at "rd"
      refine ⟨szl (by simp), fun wa nw => ?_⟩
      have nw0 : H wa = none := s2.free nw
      have ow : o ≠ wa := ne_of_none eo nw
      have dw : d ≠ wa := ne_of_none ed nw
      have s3 := RD.same_new (o := .lst [vn x]) nw
      walk_at "rd"
      refine RD.whl (fun k σ H3 => ∃ (O' : List Nat) (D : Nat) (W : List Nat) (o7 o8 : Option V), σ = [some (.ref p), some (.ref r), some (.ref o), some (.ref d), some (vn D), some (vn x), some (.ref wa), o7, o8] ∧ Same H H3 ∧
          H3 o = some (.lst (vns O')) ∧ H3 d = some (.dK (nKf 0 O')) ∧ H3 wa = some (.lst (vns W)) ∧ 2 * (ns.length - D) + W.length = k ∧
          ((∃ y, W = [y] ∧ Ord ns (addH O' y) D ∧ goA ns (addH O' y) D = nxtO ns O x) ∨ (W = [] ∧ O' = nxtO ns O x ∧ D = O'.length)))
        _ ⟨O, O.length, [x], _, _, rfl, s2.trans s3, s3 _ _ eo, s3 _ _ ed, upd_same, rfl, .inl ⟨x, rfl, hO.add hM hxn, rfl⟩⟩ ?_
      rintro k σ H3 ⟨O', D, W, o7, o8, rfl, s4, eo3, ed3, ew3, hk, hW⟩
      walk_at "rd"
      refine RD.truL (sq ew3) ?_
      rcases hW with ⟨y, rfl, hAd0, hg⟩ | ⟨rfl, hg, hD⟩
      · show (if true = true then _ else _)
        walk_at "rd"
        refine RD.wN ?_
        walk_at "rd"
        refine ⟨RD.tyL (sq ew3), ?_⟩
        refine RD.pop (xs := []) ew3 ?_
        have eo4 : (upd H3 wa (.lst [])) o = some (.lst (vns O')) := by rw [upd_ne ow]; exact eo3
        have ed4 : (upd H3 wa (.lst [])) d = some (.dK (nKf 0 O')) := by rw [upd_ne dw]; exact ed3
        have ew4 : (upd H3 wa (.lst [])) wa = some (.lst []) := upd_same
        have s5 : Same H (upd H3 wa (.lst [])) := RD.same_mut s4 nw0
        generalize upd H3 wa (.lst []) = H4 at eo4 ed4 ew4 s5 ⊢
        walk_at "rd"
        refine RD.cut (fun σ H' => ∃ o8, σ = [some (.ref p), some (.ref r), some (.ref o), some (.ref d), some (vn D), some (vn x), some (.ref wa), some (vn y), o8] ∧ Same H H' ∧ H' o = some (.lst (vns (addH O' y))) ∧ H' d = some (.dK (nKf 0 (addH O' y))) ∧ H' wa = some (.lst [])) ?_ ?_
        · walk_at "rd"
          refine ⟨d, _, rfl, DGet.k (k := Sum.inl ((y : Nat) : Int)) ed4, ?_⟩
          rw [val_nK]
          by_cases hin : y ∈ O'
          · rw [if_pos hin]
            walk_at "rd"
            show (if false = true then _ else _)
            walk_at "rd"
            have e : addH O' y = O' := if_pos hin
            rw [e]
            exact ⟨_, rfl, s5, eo4, ed4, ew4⟩
          · rw [if_neg hin]
            have e : addH O' y = O' ++ [y, tw y] := if_neg hin
            have hAd := hAd0
            rw [e] at hAd ⊢
            have hnd := List.nodup_append.mp hAd.nd
            have hlen := hAd.len
            rw [List.length_append] at hlen
            simp only [List.length_cons, List.length_nil] at hlen
            walk_at "rd"
            show (if true = true then _ else _)
            walk_at "rd"
            refine ⟨y, rfl, ?_⟩
            walk_at "rd"
            refine ⟨szl (by simp), fun tt ntt => ?_⟩
            have s6 := RD.same_new (o := .tup [vn y, vn (tw y)]) ntt
            have ot : o ≠ tt := ne_of_none eo4 ntt
            have dt : d ≠ tt := ne_of_none ed4 ntt
            have wt : wa ≠ tt := ne_of_none ew4 ntt
            refine RD.goT (K := K) (st upd_same) (fun j σ H' => ∃ o8, σ = [some (.ref p), some (.ref r), some (.ref o), some (.ref d), some (vn D), some (vn x), some (.ref wa), some (vn y), o8] ∧ Same H H' ∧ H' tt = some (.tup [vn y, vn (tw y)]) ∧ H' wa = some (.lst []) ∧
                H' o = some (.lst (vns (O' ++ [y, tw y].take j))) ∧ H' d = some (.dK (nKf 0 (O' ++ [y, tw y].take j)))) ⟨_, rfl, s5.trans s6, upd_same, s6 _ _ ew4, ?_, ?_⟩ (fun j σ H' _ ⟨_, _, _, e, _⟩ => st e) ?_ ?_
            · rw [List.take_zero, List.append_nil]; exact s6 _ _ eo4
            · rw [List.take_zero, List.append_nil]; exact s6 _ _ ed4
            · rintro j v σ H' hv ⟨o8, rfl, s7, et, ew7, eo7, ed7⟩
              obtain ⟨v, hv2, rfl⟩ : ∃ v', [y, tw y][j]? = some v' ∧ v = vn v' := of_vns (l := [y, tw y]) hv
              have hj : j < 2 := (List.getElem?_eq_some_iff.mp hv2).1
              have tk := RD.take_one hv2
              have hvn : v ∉ O' ++ [y, tw y].take j := fun z => by
                have nd2 : (O' ++ [y, tw y].take (j + 1)).Nodup := by
                  refine List.nodup_append.mpr ⟨hnd.1, List.Nodup.sublist (List.take_sublist _ _) hnd.2.1, fun a ha b hb => hnd.2.2 a ha b (List.mem_of_mem_take hb)⟩
                rw [tk, ← List.append_assoc, List.nodup_append] at nd2
                exact nd2.2.2 v z v (List.mem_singleton.mpr rfl) rfl
              have hlj : (O' ++ [y, tw y].take j).length ≤ ns.length := by
                rw [List.length_append, List.length_take]
                simp only [List.length_cons, List.length_nil]
                omega
              rw [tk, ← List.append_assoc]
              generalize O' ++ [y, tw y].take j = O2 at eo7 ed7 hvn hlj ⊢
              walk_at "rd"
              refine RD.len (sq eo7) ?_
              rw [vns_len]
              walk_at "rd"
              refine ⟨d, _, rfl, DPut.k (k := Sum.inl ((v : Nat) : Int)) ed7 ?_, ?_⟩
              · rw [nKf_len]
                exact szt (by omega)
              rw [putK_new _ (by rw [val_nK, if_neg hvn])]
              have eo8 : ∀ z, (upd H' d z) o = some (.lst (vns O2)) := fun z => by rw [upd_ne od]; exact eo7
              walk_at "rd"
              refine ⟨RD.tyL (sq (eo8 _)), ?_⟩
              walk_at "rd"
              refine RD.app (eo8 _) (by rw [vns_len]; exact szt (by omega)) ?_
              refine ⟨_, rfl, RD.same_mut (RD.same_mut s7 nd0) no, ?_, ?_, ?_, ?_⟩
              · rw [upd_ne ot.symm, upd_ne dt.symm]; exact et
              · rw [upd_ne ow.symm, upd_ne dw.symm]; exact ew7
              · rw [upd_same, vns_app]; rfl
              · rw [upd_ne od.symm, upd_same, nKf_app, Nat.zero_add]
            · rintro σ H' ⟨o8, rfl, s7, et, ew7, eo7, ed7⟩
              exact ⟨_, rfl, s7, eo7, ed7, ew7⟩
        · rintro σ H5 ⟨o8, rfl, s6, eo6, ed6, ew6⟩
          have hA := hAd0
          clear hAd0
          generalize addH O' y = O2 at eo6 ed6 hA hg ⊢
          walk_at "rd"
          refine RD.len (sq eo6) ?_
          rw [vns_len]
          walk_at "rd"
          have hln := hA.len
          refine RD.dec (fun hlt => ?_) (fun hge => ?_)
          · have hlt : D < O2.length := by omega
            have h1 := hA.at_ hlt
            have m6 := m.same s6
            obtain ⟨dx, hp⟩ := m6.ob
            walk_at "rd"
            refine ⟨RD.tyL (sq ew6), ?_⟩
            walk_at "rd"
            refine ⟨p, dx, _, rfl, hp, mf_no _ _ (by decide +kernel) (by decide +kernel), ?_⟩
            walk_at "rd"
            refine RD.ixL (sq eo6) (at_n (vns_at (fn_at hlt))) ?_
            walk_at "rd"
            refine ⟨p, a, b, ns, _, rfl, m6, h1, ?_⟩
            walk_at "rd"
            refine RD.app ew6 (szt (by simp)) ?_
            walk_at "rd"
            have e1 : ((D : Int) + 1) = ((D + 1 : Nat) : Int) := by omega
            rw [e1]
            rw [goA_step hM hA hlt] at hg
            simp only [List.length_cons, List.length_nil] at hk
            refine ⟨k - 2, by omega, O2, D + 1, [fn ns (fn O2 D)], _, _, rfl, RD.same_mut s6 nw0, ?_, ?_, by rw [upd_same]; rfl, ?_, .inl ⟨_, rfl, hA.step hM hlt, hg⟩⟩
            · rw [upd_ne ow]; exact eo6
            · rw [upd_ne dw]; exact ed6
            · simp only [List.length_cons, List.length_nil]
              omega
          · walk_at "rd"
            rw [goA_stop hM hA (by omega)] at hg
            simp only [List.length_cons, List.length_nil] at hk
            have := hA.le
            exact ⟨k - 1, by omega, O2, D, [], _, _, rfl, s6, eo6, ed6, ew6, by simp only [List.length_nil]; omega, .inr ⟨rfl, hg, by omega⟩⟩
      · show (if false = true then _ else _)
        walk_at "rd"
        rw [hD, hg]
        rw [hg] at eo3 ed3
        exact ⟨_, _, _, _, rfl, s4, eo3, ed3⟩
    · rintro σ H2 ⟨o5, o6, o7, o8, rfl, s2, eo, ed⟩
      rw [vns_len, List.take_length] at eo ed ⊢
      have hO := ordr_ok hM hh
      have hmem : ∀ h ∈ hs, h ∈ ordr ns hs := fun h hx => ordr_mem hs [] h hx
      generalize hOe : ordr ns hs = O at eo ed hO hmem q ⊢
      have hOl := hO.len
      walk_at "rd"
      have m2 := m.same s2
      have dkv : ∀ (H3 : Hp) (x : Nat), Same H2 H3 → x ∈ O → DGet H3 d (vn x) (some (vn (O.idxOf x))) := fun H3 x s hx => by
        have := DGet.k (k := Sum.inl ((x : Nat) : Int)) (s _ _ ed)
        rw [val_nK, if_pos hx, Nat.zero_add] at this
        exact this
      refine RD.lcL (sq eo) (by rw [vns_len]; exact szl (by omega)) (fun _ => true) (fun v => match v with | .int i => vn (O.idxOf (fn ns i.toNat)) | _ => v) (fun i x H3 Q' R' hx s3 kT kF => ?_) (fun H3 l nl s3 el => ?_)
      · obtain ⟨x, hx1, rfl⟩ := of_vns hx
        have hxo := List.mem_of_getElem? hx1
        have hc : fn ns x ∈ O := by
          have := hO.cl _ (idx_lt hxo)
          rwa [mem_fn hxo] at this
        have m3 := m2.same s3
        obtain ⟨dx, hp⟩ := m3.ob
        walk_at "wp"
        walk_at "rd"
        refine ⟨rfl, ?_⟩
        walk_at "rd"
        refine ⟨p, dx, _, rfl, hp, mf_no _ _ (by decide +kernel) (by decide +kernel), ?_⟩
        walk_at "rd"
        refine ⟨p, a, b, ns, x, rfl, m3, hO.lt x hxo, ?_⟩
        exact ⟨d, _, rfl, dkv H3 _ s3 hc, kT rfl _ (Same.refl _)⟩
      rw [RD.pick_all (fun _ => rfl)] at el
      have e1 : (vns O).map (fun v => match v with | .int i => vn (O.idxOf (fn ns i.toNat)) | _ => v) = vns (newN ns O) := by
        unfold vns newN
        rw [List.map_map, List.map_map]
        rfl
      rw [e1] at el
      walk_at "rd"
      refine mk_mesh el (newN_mesh hM hO) (by rw [newN_len]; omega) fun H4 p' a' b' np' na' nb' s4 m4 => ?_
      have s5 := (s2.trans s3).trans s4
      walk_at "rd"
      refine RD.lcL (sq (s5 _ _ er)) (by rw [vns_len]; exact szl (by omega)) (fun _ => true) (fun v => match v with | .int i => vn (O.idxOf i.toNat) | _ => v) (fun i x H5 Q' R' hx s6 kT kF => ?_) (fun H5 l2 nl2 s6 el2 => ?_)
      · obtain ⟨x, hx1, rfl⟩ := of_vns hx
        walk_at "wp"
        walk_at "rd"
        refine ⟨rfl, ?_⟩
        walk_at "rd"
        exact ⟨d, _, rfl, dkv H5 _ ((s3.trans s4).trans s6) (hmem x (List.mem_of_getElem? hx1)), kT rfl _ (Same.refl _)⟩
      rw [RD.pick_all (fun _ => rfl)] at el2
      have e2 : (vns hs).map (fun v => match v with | .int i => vn (O.idxOf i.toNat) | _ => v) = vns (hs.map O.idxOf) := by
        unfold vns
        rw [List.map_map, List.map_map]
        rfl
      rw [e2] at el2
      walk_at "rd"
      refine ⟨szl (by simp), fun t nt => ?_⟩
      have s7 := RD.same_new (o := .tup [V.ref p', V.ref l2]) nt
      obtain ⟨dx, hp4⟩ := m4.ob
      have f4 : ∀ x, H3 x = none → H x = none := fun x hx => s2.free (s3.free hx)
      refine q _ t p' a' b' l2 ((s5.trans s6).trans s7) (s5.free (s6.free nt)) (f4 _ np') (f4 _ na') (f4 _ nb') (s5.free nl2) (ne_of_none hp4 nl2) (ne_of_none m4.fo nl2) (ne_of_none m4.pr nl2) upd_same ((m4.same s6).same s7) (s7 _ _ el2)
end
end Pf

namespace RD
open PySem PySem.Spec PyProof.Rows L2
theorem unl2 {σ : L2.St} {H : Hp} {K : PySem.W.Frag} {i j : Nat} {T : Addr} {x y : V} {QG : L2.St → Hp → Prop} (h : SqL K H T [x, y]) (q : gName i x σ H fun σ1 H1 => gName j y σ1 H1 QG) : gUnl K 2 (gCons (gName i) (gCons (gName j) gNil)) (.ref T) σ H QG := ⟨T, [x, y], rfl, h, rfl, x, [y], rfl, y, [], rfl, rfl, q⟩
end RD
namespace Pf
open PySem PySem.Spec PyProof.Rows L2 MM
def sp_l_numbered (K : PySem.W.Frag) : Sp := fun vs H Q _ => ∃ (a c : Addr) (ns hs : List Nat), vs = [.ref a, .ref c] ∧ SqL K H a (vns ns) ∧ IsMesh ns ∧ ns.length ≤ 62 ∧ H c = some (.lst (vns hs)) ∧ (∀ h ∈ hs, h < ns.length) ∧ hs.length ≤ 1000 ∧
  ∀ (H' : Hp) (t u l : Addr), Same H H' → H u = none → H l = none → H' t = some (.lst [.ref u, .ref l]) → H' u = some (.lst (vns (newN ns (ordr ns hs)))) → H' l = some (.lst (vns (hs.map (ordr ns hs).idxOf))) → Q (.ref t) H'
section
variable {P : Program} {w : World} {K : PySem.W.Frag} {mg : Str → Option Value} {base : Heap} {A : Ad}
theorem ok_l_twin (T : Txt K mg A) : FnOk P w K mg base CX0 1 A.f_l_twin A.d_l_twin ["_law_half"] (sp_twin_of) := by
  refine T.F_l_twin.ok sc_l_twin (fun vs H Q E h => ?_) (fun cdv Ar outer s H vs Q E hr h => ?_)
  · obtain ⟨n, rfl, _⟩ := h
    rfl
  · obtain ⟨n, rfl, q⟩ := h
    refine ⟨_, (pss_one (ps_ret (pe_op op_sub (pe_op op_add (pv 0) pe_int) (pe_op op_mul pe_int (pe_op op_mod (pe_callTy RD.k_int (by rfl) T.z_int (by decide +kernel) (pa_cons (pv 0) pa_nil)) pe_int))))), ?_⟩
    show tRet _ _ [some (vn n)] H
    walk_at "rd"
    refine RD.iC (by decide) ?_
    walk_at "rd"
    refine RD.iC (.inl ⟨by decide, by decide⟩) ?_
    walk_at "rd"
    have e2 : ((n : Int) + 1 - 2 * ((n : Int) % 2)) = ((tw n : Nat) : Int) := by
      unfold tw
      by_cases h : n % 2 = 0
      · rw [if_pos h]; omega
      · rw [if_neg h]; omega
    rw [e2]
    exact q
theorem ok_l_numbered (T : Txt K mg A) : FnOk P w K mg base CX0 2 A.f_l_numbered A.d_l_numbered ["_law_nexts_here", "_law_halves"] (sp_l_numbered K) := by
  have G_l_twin := ok_l_twin (P := P) (w := w) (base := base) T
  refine T.F_l_numbered.ok sc_l_numbered (fun vs H Q E h => ?_) (fun cdv Ar outer s H vs Q E hr h => ?_)
  · obtain ⟨a, c, ns, hs, rfl, _⟩ := h
    rfl
  · obtain ⟨a, c, ns, hs, rfl, hS, hM, hl, ec, hh, hhl, q⟩ := h
    refine ⟨_, (pss_cons (ps_set (i := 2) sc_l_numbered.nd rfl (Or.inr rfl) (pe_lst pa_nil))
      (pss_cons (ps_for PassesOwn.never rfl (RD.k_pil (K := K) rfl (pv 1)) (pg_name (i := 3) sc_l_numbered.nd rfl (Or.inl rfl))
      (RD.pss_cut (ps_if (pt_cmpR (RD.k_notin (K := K) rfl) (pv 3) (pv 2) (by rfl))
      (pss_one (ps_set (i := 2) sc_l_numbered.nd rfl (Or.inr rfl) (pe_op op_cat (pv 2) (pe_lst (pa_cons (pv 3) (pa_cons (pe_call G_l_twin (hr.mono (by decide)) (by rfl) T.g_l_twin T.F_l_twin.kp T.b_l_twin .nil pass0 (pa_cons (pv 3) pa_nil)) pa_nil))))))
      pss_nil)
      (pss_cons (ps_set (i := 4) sc_l_numbered.nd rfl (Or.inl rfl) pe_int)
      (pss_one (ps_while PassesOwn.never (PW.pt (pw_and (pt_cmpR op_lt (pv 4) (pe_callB (RD.k_len (K := K) rfl) (by rfl) T.z_len (by decide +kernel) (pa_cons (pv 2) pa_nil)) (nomark _)) (pw_and1 (pt_cmpR op_lt (pv 4) (pe_callB (RD.k_len (K := K) rfl) (by rfl) T.z_len (by decide +kernel) (pa_cons (pv 0) pa_nil)) (nomark _)))))
      (pss_cons (ps_set (i := 5) sc_l_numbered.nd rfl (Or.inl rfl) (pe_ix (RD.k_ixL (K := K) rfl) (pv 0) (pe_ix (RD.k_ixL (K := K) rfl) (pv 2) (pv 4) (fun _ _ => rfl)) (fun _ _ => rfl)))
      (RD.pss_cut (ps_if (pt_cmpR (RD.k_notin (K := K) rfl) (pv 5) (pv 2) (by rfl))
      (pss_one (ps_set (i := 2) sc_l_numbered.nd rfl (Or.inr rfl) (pe_op op_cat (pv 2) (pe_lst (pa_cons (pv 5) (pa_cons (pe_call G_l_twin (hr.mono (by decide)) (by rfl) T.g_l_twin T.F_l_twin.kp T.b_l_twin .nil pass0 (pa_cons (pv 5) pa_nil)) pa_nil))))))
      pss_nil)
      (pss_one (ps_set (i := 4) sc_l_numbered.nd rfl (Or.inl rfl) (pe_op op_add (pv 4) pe_int))))))))))
      (pss_cons (ps_set (i := 6) sc_l_numbered.nd rfl (Or.inl rfl) (pe_lst pa_nil))
      (pss_cons (ps_for PassesOwn.never rfl (RD.k_pil (K := K) rfl (pv 2)) (pg_name (i := 7) sc_l_numbered.nd rfl (Or.inr rfl))
      (pss_one (ps_expr (RD.k_bm (K := K) rfl PySem.F.plainAttrs_list PySem.F.slot_list_append PySem.F.type_list_append mt_append (pv 6) (pa_cons (pe_ix (RD.k_ixL (K := K) rfl) (pe_lc (own := [("_law_k", 8)]) (g := gName 8) (by rfl) sc_l_numbered.nd (pi_range1 (by rfl) T.z_range (pa_cons (pe_callB (RD.k_len (K := K) rfl) (by rfl) T.z_len (by decide +kernel) (pa_cons (pv 2) pa_nil)) pa_nil)) (blkOk_by (own := [("_law_k", 8)]) (N := ["_law_nexts_here", "_law_halves", "_law_order", "_law_start", "_law_at", "_law_after", "_law_numbers", "_law_half", "_law_k"]) (sc := defScope s_l_numbered) (by decide +kernel)) (fun _ _ _ _ _ => (pg_name (i := 8) sc_l_numbered.nd rfl (Or.inl rfl))) (fun _ _ _ _ _ => (pts_one (pt_cmpR op_eq (pe_ix (RD.k_ixL (K := K) rfl) (pv 2) (pv 8) (fun _ _ => rfl)) (pe_ix (RD.k_ixL (K := K) rfl) (pv 0) (pv 7) (fun _ _ => rfl)) (nomark _)))) (fun _ _ _ _ _ => (pv 8))) pe_int (fun _ _ => rfl)) pa_nil)))))
      (pss_one (ps_ret (pe_lst (pa_cons (pv 6) (pa_cons (pe_lc (own := [("_law_half", 7)]) (g := gName 7) (by rfl) sc_l_numbered.nd (RD.k_pil (K := K) rfl (pv 1)) (blkOk_by (own := [("_law_half", 7)]) (N := ["_law_nexts_here", "_law_halves", "_law_order", "_law_start", "_law_at", "_law_after", "_law_numbers", "_law_half", "_law_k"]) (sc := defScope s_l_numbered) (by decide +kernel)) (fun _ _ _ _ _ => (pg_name (i := 7) sc_l_numbered.nd rfl (Or.inr rfl))) (fun _ _ _ _ _ => pts_nil) (fun _ _ _ _ _ => (pe_ix (RD.k_ixL (K := K) rfl) (pe_lc (own := [("_law_k", 8)]) (g := gName 8) (by rfl) sc_l_numbered.nd (pi_range1 (by rfl) T.z_range (pa_cons (pe_callB (RD.k_len (K := K) rfl) (by rfl) T.z_len (by decide +kernel) (pa_cons (pv 2) pa_nil)) pa_nil)) (blkOk_by (own := [("_law_k", 8)]) (N := ["_law_nexts_here", "_law_halves", "_law_order", "_law_start", "_law_at", "_law_after", "_law_numbers", "_law_half", "_law_k"]) (by kernel_rfl)) (fun _ _ _ _ _ => (pg_name (i := 8) sc_l_numbered.nd rfl (Or.inl rfl))) (fun _ _ _ _ _ => (pts_one (pt_cmpR op_eq (pe_ix (RD.k_ixL (K := K) rfl) (pv 2) (pv 8) (fun _ _ => rfl)) (pv 7) (nomark _)))) (fun _ _ _ _ _ => (pv 8))) pe_int (fun _ _ => rfl)))) pa_nil))))))))), ?_⟩
    show tSeq _ _ _ [some (.ref a), some (.ref c), none, none, none, none, none, none, none] H
    walk_at "rd"
    refine ⟨Nat.zero_le _, fun o0 no => ?_⟩
    have s0 := RD.same_new (o := .lst []) no
    walk_at "rd"
    refine RD.goL (K := K) (sq (s0 _ _ ec)) (fun i σ H2 => ∃ o o3 o4 o5, σ = [some (.ref a), some (.ref c), some (.ref o), o3, o4, o5, none, none, none] ∧ Same H H2 ∧ H2 o = some (.lst (vns (ordr ns (hs.take i)))))
      ⟨_, _, _, _, rfl, s0, by rw [upd_same]; rfl⟩ (fun i σ H2 _ ⟨_, _, _, _, _, s, _⟩ => sq (s _ _ ec)) ?_ ?_
    · rintro i x σ H2 hx ⟨o, o3, o4, o5, rfl, s2, eo⟩
      obtain ⟨x, hx1, rfl⟩ := of_vns hx
      have hxn := hh x (List.mem_of_getElem? hx1)
      have htk : ∀ h ∈ hs.take i, h < ns.length := fun h hm => hh h (List.mem_of_mem_take hm)
      have hO := ordr_ok hM htk
      rw [RD.take_one hx1, ordr_snoc]
      generalize ordr ns (hs.take i) = O at eo hO ⊢
      have hA := hO.add hM hxn
      walk_at "rd"
      refine RD.cut (fun σ H' => ∃ o, σ = [some (.ref a), some (.ref c), some (.ref o), some (vn x), o4, o5, none, none, none] ∧ Same H H' ∧ H' o = some (.lst (vns (addH O x)))) ?_ ?_
      · walk_at "rd"
        refine RD.ninL (sq eo) rfl (flat_vns _) ?_
        rw [inV_vns]
        walk_at "rd"
        refine RD.ndec (fun hn => ?_) (fun hn => ?_)
        · have e : addH O x = O ++ [x, tw x] := if_neg hn
          rw [e] at hA ⊢
          have hlen := hA.len
          rw [List.length_append] at hlen
          simp only [List.length_cons, List.length_nil] at hlen
          walk_at "rd"
          refine ⟨x, rfl, ?_⟩
          walk_at "rd"
          refine ⟨szl (by simp), fun t nt => ?_⟩
          have s3 := RD.same_new (o := .lst [vn x, vn (tw x)]) nt
          refine RD.cat (s3 _ _ eo) upd_same (by rw [vns_len]; exact szl (by simp only [List.length_cons, List.length_nil]; omega)) fun o' no' => ?_
          walk_at "rd"
          exact ⟨o', rfl, (s2.trans s3).trans (RD.same_new no'), by rw [upd_same, vns_app]; rfl⟩
        · walk_at "rd"
          have e : addH O x = O := if_pos hn
          rw [e]
          exact ⟨o, rfl, s2, eo⟩
      rintro σ H3 ⟨o, rfl, s3, eo3⟩
      walk_at "rd"
      refine RD.whl (fun k σ H4 => ∃ (o' : Addr) (O' : List Nat) (D : Nat) (o5 : Option V), σ = [some (.ref a), some (.ref c), some (.ref o'), some (vn x), some (vn D), o5, none, none, none] ∧ Same H H4 ∧ H4 o' = some (.lst (vns O')) ∧ Ord ns O' D ∧ goA ns O' D = nxtO ns O x ∧ ns.length - D = k)
        _ ⟨o, addH O x, 0, _, rfl, s3, eo3, hA.less (Nat.zero_le _), goA_less hM hA O.length 0 (Nat.zero_add _), rfl⟩ ?_
      rintro k σ H4 ⟨o', O', D, o5, rfl, s4, eo4, hD, hg, hk⟩
      have hDl := hD.len
      walk_at "rd"
      refine RD.len (sq eo4) ?_
      rw [vns_len]
      walk_at "rd"
      refine RD.dec (fun hlt => ?_) (fun hge => ?_)
      · have hlt : D < O'.length := by omega
        have h1 := hD.at_ hlt
        walk_at "rd"
        refine RD.len (s4.seq hS) ?_
        rw [vns_len]
        walk_at "rd"
        refine RD.decT (by omega) ?_
        refine RD.wN ?_
        walk_at "rd"
        refine RD.ixL (sq eo4) (at_n (vns_at (fn_at hlt))) ?_
        refine RD.ixL (s4.seq hS) (at_n (vns_at (fn_at h1))) ?_
        walk_at "rd"
        have hA4 := hD.step hM hlt
        rw [goA_step hM hD hlt] at hg
        refine RD.cut (fun σ H' => ∃ o2, σ = [some (.ref a), some (.ref c), some (.ref o2), some (vn x), some (vn D), some (vn (fn ns (fn O' D))), none, none, none] ∧ Same H H' ∧ H' o2 = some (.lst (vns (addH O' (fn ns (fn O' D)))))) ?_ ?_
        · walk_at "rd"
          refine RD.ninL (sq eo4) rfl (flat_vns _) ?_
          rw [inV_vns]
          walk_at "rd"
          refine RD.ndec (fun hn => ?_) (fun hn => ?_)
          · have e : addH O' (fn ns (fn O' D)) = O' ++ [fn ns (fn O' D), tw (fn ns (fn O' D))] := if_neg hn
            rw [e]
            walk_at "rd"
            refine ⟨_, rfl, ?_⟩
            walk_at "rd"
            refine ⟨szl (by simp), fun t nt => ?_⟩
            have s5 := RD.same_new (o := .lst [vn (fn ns (fn O' D)), vn (tw (fn ns (fn O' D)))]) nt
            refine RD.cat (s5 _ _ eo4) upd_same (by rw [vns_len]; exact szl (by simp only [List.length_cons, List.length_nil]; omega)) fun o2 no2 => ?_
            walk_at "rd"
            exact ⟨o2, rfl, (s4.trans s5).trans (RD.same_new no2), by rw [upd_same, vns_app]; rfl⟩
          · walk_at "rd"
            have e : addH O' (fn ns (fn O' D)) = O' := if_pos hn
            rw [e]
            exact ⟨o', rfl, s4, eo4⟩
        · rintro σ H5 ⟨o2, rfl, s5, eo5⟩
          walk_at "rd"
          have e1 : ((D : Int) + 1) = ((D + 1 : Nat) : Int) := by omega
          rw [e1]
          exact ⟨k - 1, by omega, o2, _, D + 1, _, rfl, s5, eo5, hA4, hg, by omega⟩
      · walk_at "rd"
        rw [goA_stop hM hD (by omega)] at hg
        rw [← hg]
        exact ⟨o', _, _, _, rfl, s4, eo4⟩
    · rintro σ H2 ⟨o, o3, o4, o5, rfl, s2, eo⟩
      rw [vns_len, List.take_length] at eo
      have hO := ordr_ok hM hh
      have hmem : ∀ h ∈ hs, h ∈ ordr ns hs := fun h hx => ordr_mem hs [] h hx
      generalize hOe : ordr ns hs = O at eo hO hmem q ⊢
      have hOl := hO.len
      walk_at "rd"
      refine ⟨Nat.zero_le _, fun u nu => ?_⟩
      have nu0 : H u = none := s2.free nu
      have ou : o ≠ u := ne_of_none eo nu
      have s3 := RD.same_new (o := .lst []) nu
      walk_at "rd"
      refine RD.goL (K := K) (sq (s3 _ _ eo)) (fun j σ H4 => ∃ o7, σ = [some (.ref a), some (.ref c), some (.ref o), o3, o4, o5, some (.ref u), o7, none] ∧ Same H H4 ∧ H4 o = some (.lst (vns O)) ∧ H4 u = some (.lst (vns ((newN ns O).take j))))
        ⟨_, rfl, s2.trans s3, s3 _ _ eo, upd_same⟩ (fun i σ H2 _ ⟨_, _, _, e, _⟩ => sq e) ?_ ?_
      · rintro j x σ H4 hx ⟨o7, rfl, s4, eo4, eu4⟩
        obtain ⟨x, hx1, rfl⟩ := of_vns hx
        have hxo := List.mem_of_getElem? hx1
        have hj := (List.getElem?_eq_some_iff.mp hx1).1
        have hxf : x = fn O j := by rw [fn_at hj] at hx1; exact (Option.some.inj hx1).symm
        have hc : fn ns x ∈ O := by
          have := hO.cl _ (idx_lt hxo)
          rwa [mem_fn hxo] at this
        walk_at "rd"
        refine ⟨RD.tyL (sq eu4), ?_⟩
        walk_at "rd"
        refine RD.len (sq eo4) ?_
        rw [vns_len]
        walk_at "rd"
        refine RD.lcR (z := (O.length : Int)) (n := O.length) (by omega) (by omega) (by omega) (fun k => decide (fn O k = fn ns x)) vn (fun i H5 Q' R' hi s5 kT kF => ?_) (fun H5 l nl s5 el => ?_)
        · walk_at "wp"
          walk_at "rd"
          refine ⟨rfl, ?_⟩
          walk_at "rd"
          refine RD.ixL (sq (s5 _ _ eo4)) (at_n (vns_at (fn_at hi))) ?_
          walk_at "rd"
          refine RD.ixL ((s4.trans s5).seq hS) (at_n (vns_at (fn_at (hO.lt x hxo)))) ?_
          walk_at "rd"
          refine RD.dec (fun e => ?_) (fun e => ?_)
          · walk_at "rd"
            exact kT (decide_eq_true (Int.ofNat.inj e)) _ (Same.refl _)
          · exact kF (decide_eq_false fun z => e (congrArg _ z)) _ (Same.refl _)
        rw [RD.pick_filter, filter_idx hO.nd hc] at el
        walk_at "rd"
        refine RD.ixL (v := vn (O.idxOf (fn ns x))) (sq el) rfl ?_
        walk_at "rd"
        have hnl := newN_len (ns := ns) O
        refine RD.app (s5 _ _ eu4) (by rw [vns_len, List.length_take]; exact szt (by omega)) ?_
        refine ⟨_, rfl, RD.same_mut (s4.trans s5) nu0, by rw [upd_ne ou]; exact s5 _ _ eo4, ?_⟩
        have hat : (newN ns O)[j]? = some (O.idxOf (fn ns x)) := by
          unfold newN
          rw [List.getElem?_map, hx1]
          rfl
        rw [upd_same, RD.take_one hat, vns_app]
        rfl
      · rintro σ H4 ⟨o7, rfl, s4, eo4, eu4⟩
        rw [vns_len, ← newN_len (ns := ns) O, List.take_length] at eu4
        walk_at "rd"
        refine RD.lcL (sq (s4 _ _ ec)) (by rw [vns_len]; exact szl (by omega)) (fun _ => true) (fun v => match v with | .int i => vn (O.idxOf i.toNat) | _ => v) (fun i x H5 Q' R' hx s5 kT kF => ?_) (fun H5 l nl s5 el => ?_)
        · obtain ⟨x, hx1, rfl⟩ := of_vns hx
          have hxo := hmem x (List.mem_of_getElem? hx1)
          walk_at "wp"
          walk_at "rd"
          refine ⟨rfl, ?_⟩
          walk_at "rd"
          refine RD.len (sq (s5 _ _ eo4)) ?_
          rw [vns_len]
          walk_at "rd"
          refine RD.lcR (z := (O.length : Int)) (n := O.length) (by omega) (by omega) (by omega) (fun k => decide (fn O k = x)) vn (fun i H6 Q' R' hi s6 kT kF => ?_) (fun H6 l nl s6 el => ?_)
          · walk_at "wp"
            walk_at "rd"
            refine ⟨rfl, ?_⟩
            walk_at "rd"
            refine RD.ixL (sq (s6 _ _ (s5 _ _ eo4))) (at_n (vns_at (fn_at hi))) ?_
            walk_at "rd"
            refine RD.dec (fun e => ?_) (fun e => ?_)
            · walk_at "rd"
              exact kT (decide_eq_true (Int.ofNat.inj e)) _ (Same.refl _)
            · exact kF (decide_eq_false fun z => e (congrArg _ z)) _ (Same.refl _)
          rw [RD.pick_filter, filter_idx hO.nd hxo] at el
          walk_at "rd"
          refine RD.ixL (v := vn (O.idxOf x)) (sq el) rfl ?_
          exact kT rfl _ s6
        rw [RD.pick_all (fun _ => rfl)] at el
        have e2 : (vns hs).map (fun v => match v with | .int i => vn (O.idxOf i.toNat) | _ => v) = vns (hs.map O.idxOf) := by
          unfold vns
          rw [List.map_map, List.map_map]
          rfl
        rw [e2] at el
        walk_at "rd"
        refine ⟨szl (by simp), fun t nt => ?_⟩
        have s7 := RD.same_new (o := .lst [V.ref u, V.ref l]) nt
        exact q _ t u l ((s4.trans s5).trans s7) nu0 (s4.free nl) upd_same (s7 _ _ (s5 _ _ eu4)) (s7 _ _ el)
end
end Pf

namespace Pf
open PySem PySem.Spec PyProof.Rows L2
theorem TapeAt.ne {H : Hp} {a p : Addr} (t : TapeAt H a) (n : H p = none) : p ≠ a := fun z => by
  obtain ⟨x, y, h, _⟩ := t
  rw [z, h] at n
  cases n
/-- [_ for _ in range(n)], each a draw from the tape -/
theorem lcTape {σ : L2.St} {H : Hp} {Q : VK} {te : TE} {g : TG} {tt : TT} {vs : List Nat} {z : Int} {n : Nat} {t : Addr} (hz : z.toNat = n) (hz2 : z < 10000) (hz1 : -10000 < z) (R : Nat → Prop) (h0 : TapeAt H t)
    (turn : ∀ i H1 (Q' : VK) (R' : Hp → Prop), i < n → TapeAt H1 t → SameX t H H1 → (∀ (v : Nat) H4, R v → TapeAt H4 t → SameX t H1 H4 → Q' (vn v) H4) →
      g (.int (i : Nat)) (wipe σ vs) H1 fun σ2 H3 => wipe σ2 vs = wipe σ vs ∧ tt σ2 H3 fun b H5 => if b = true then te σ2 H5 Q' else R' H5)
    (hd : ∀ H' q (l : List Nat), H q = none → TapeAt H' t → SameX t H H' → l.length = n → (∀ x ∈ l, R x) → H' q = some (.lst (vns l)) → Q (.ref q) H') :
    ∃ j : Int, [V.int z] = [.int j] ∧ -(2 ^ 62) ≤ j ∧ j < 2 ^ 62 ∧ RD.LR (Itr 0 j.toNat) g tt te vs σ H Q := by
  subst hz
  refine ⟨z, rfl, by omega, by omega, ?_⟩
  intro D hD
  have Dt : D ≠ t := h0.ne hD
  refine lc_it (walk_range (lo := 0) (n := z.toNat)) (fun i H1 => TapeAt H1 t ∧ SameX t H H1 ∧ ∃ l : List Nat, l.length = i ∧ (∀ x ∈ l, R x) ∧ H1 D = some (.lst (vns l))) ⟨h0.same (RD.same_new hD), (SameX.refl t H).mut hD, [], rfl, (fun x hx => nomatch hx), upd_same⟩ (fun i H1 _ hp => trivial) (fun i x H1 H2 hi hp y => ?_) (fun H1 hp => ?_)
  · obtain ⟨rfl, rfl⟩ := y
    obtain ⟨t1, s1, l, hl, hR, eD⟩ := hp
    have e : (0 + (i : Int)) = ((i : Nat) : Int) := by omega
    show g (V.int (0 + (i : Int))) _ _ _
    rw [e]
    refine turn i _ _ _ hi t1 s1 fun v H4 rv t4 s4 => ?_
    have e4 := s4 _ _ eD Dt
    refine ⟨_, e4, by rw [vns_len]; exact szt (by omega), ?_, (s1.trans s4).mut hD, l ++ [v], by rw [List.length_append, hl]; rfl, fun x hx => ?_, by rw [upd_same, vns_app]; rfl⟩
    · obtain ⟨x, y, h, r⟩ := t4
      exact ⟨x, y, by rw [upd_ne Dt.symm]; exact h, r⟩
    · rcases List.mem_append.mp hx with hx | hx
      · exact hR x hx
      · rw [List.mem_singleton.mp hx]; exact rv
  · obtain ⟨t1, s1, l, hl, hR, eD⟩ := hp
    exact hd H1 D l hD t1 s1 hl hR eD
end Pf

namespace Pf
open MM
theorem mesh_twice {ns : List Nat} (m : IsMesh ns) {n : Nat} (h : ns.length = n) : IsMesh (ns ++ ns.map fun x => x + n) := by
  refine ⟨?_, ?_⟩
  · rw [List.length_append, List.length_map, h, List.range_add]
    have p := m.perm
    rw [h] at p
    refine List.Perm.append p ?_
    have := p.map fun x => x + n
    refine this.trans (List.Perm.of_eq ?_)
    exact List.map_congr_left fun x _ => Nat.add_comm x n
  · rw [List.length_append, List.length_map]
    omega
end Pf

namespace Pf
open PySem PySem.Spec PyProof.Rows L2
def sp_law (K : PySem.W.Frag) : Sp := fun vs H Q _ => ∃ (a : Addr) (ns : List Int), vs = [.ref a] ∧ SqL K H a (ns.map V.int) ∧ ns.length ≤ 63 ∧ ∀ H', Q (.bl true) H'
end Pf

namespace Pf
open PySem PySem.Spec PyProof.Rows L2 MM
section
variable {P : Program} {w : World} {K : PySem.W.Frag} {mg : Str → Option Value} {base : Heap} {A : Ad}
theorem ok_law (T : Txt K mg A) : FnOk P w K mg base CX0 5 A.f_law A.d_law ["_law_script"] (sp_law K) := by
  have G_l_tape := ok_l_tape (P := P) (w := w) (base := base) T
  have G_l_size := ok_l_size (P := P) (w := w) (base := base) T
  have G_l_nexts := ok_l_nexts (P := P) (w := w) (base := base) T
  have G_l_pick := ok_l_pick (P := P) (w := w) (base := base) T
  have G_numbered := ok_numbered (P := P) (w := w) (base := base) T
  have G_Mesh_d_initd_ := ok_Mesh_d_initd_ (P := P) (w := w) (base := base) T
  have G_l_numbered := ok_l_numbered (P := P) (w := w) (base := base) T
  have G_Mesh_nexts := ok_Mesh_nexts (P := P) (w := w) (base := base) T
  have G_Mesh_d_eqd_ := ok_Mesh_d_eqd_ (P := P) (w := w) (base := base) T
  refine T.F_law.ok sc_law (fun vs H Q E h => ?_) (fun cdv Ar outer s H vs Q E hr h => ?_)
  · obtain ⟨a, ns, rfl, _⟩ := h
    rfl
  · obtain ⟨a, zs, rfl, hS, hlen, q⟩ := h
    refine ⟨_, (pss_cons (ps_set (i := 1) sc_law.nd rfl (Or.inr rfl) (pe_call G_l_tape (hr.mono (by decide)) (by rfl) T.g_l_tape T.F_l_tape.kp T.b_l_tape .nil pass0 (pa_cons (pv 0) (pa_cons pe_int pa_nil))))
      (pss_cons (ps_set (i := 2) sc_law.nd rfl (Or.inr rfl) (pe_callB (RD.k_max2 rfl) (by rfl) T.z_max (by decide +kernel) (pa_cons pe_int (pa_cons (pe_call G_l_size (hr.mono (by decide)) (by rfl) T.g_l_size T.F_l_size.kp T.b_l_size .nil pass0 (pa_cons (pv 1) pa_nil)) pa_nil))))
      (pss_cons (ps_set (i := 3) sc_law.nd rfl (Or.inr rfl) (pe_call G_l_nexts (hr.mono (by decide)) (by rfl) T.g_l_nexts T.F_l_nexts.kp T.b_l_nexts .nil pass0 (pa_cons (pe_call G_l_tape (hr.mono (by decide)) (by rfl) T.g_l_tape T.F_l_tape.kp T.b_l_tape .nil pass0 (pa_cons (pv 0) (pa_cons pe_int pa_nil))) (pa_cons (pv 2) pa_nil))))
      (RD.pss_cut (ps_if (PW.pt (pw_and (pt_cmpR op_eq (pe_call G_l_pick (hr.mono (by decide)) (by rfl) T.g_l_pick T.F_l_pick.kp T.b_l_pick .nil pass0 (pa_cons (pv 1) (pa_cons pe_int pa_nil))) pe_int (nomark _)) (pw_and1 (pt_cmpR op_lt (pv 2) pe_int (nomark _)))))
      (pss_one (ps_set (i := 3) sc_law.nd rfl (Or.inr rfl) (pe_op op_cat (pv 3) (pe_lc (own := [("_law_half", 11)]) (g := gName 11) (by rfl) sc_law.nd (RD.k_pil (K := K) rfl (pv 3)) (blkOk_by (own := [("_law_half", 11)]) (N := ["_law_script", "_law_tape_here", "_law_edges", "_law_nexts_here", "_law_halves", "_law_passed", "_law_found", "_law_numbers", "_law_names", "_law_nothing", "_law_again", "_law_half", "_law_k"]) (sc := defScope s_law) (by decide +kernel)) (fun _ _ _ _ _ => (pg_name (i := 11) sc_law.nd rfl (Or.inl rfl))) (fun _ _ _ _ _ => pts_nil) (fun _ _ _ _ _ => (pe_op op_add (pv 11) (pe_op op_mul pe_int (pv 2))))))))
      pss_nil)
      (pss_cons (ps_setLc (i := 4) (own := [("_law_k", 12)]) (g := gName 12) (by rfl) sc_law.nd rfl rfl (sw_true rfl rfl rfl (by decide +kernel)) (pi_range1 (by rfl) T.z_range (pa_cons (pe_op op_add pe_int (pe_call G_l_pick (hr.mono (by decide)) (by rfl) T.g_l_pick T.F_l_pick.kp T.b_l_pick .nil pass0 (pa_cons (pv 1) (pa_cons pe_int pa_nil)))) pa_nil)) (blkOk_by (own := [("_law_k", 12)]) (N := ["_law_script", "_law_tape_here", "_law_edges", "_law_nexts_here", "_law_halves", "_law_passed", "_law_found", "_law_numbers", "_law_names", "_law_nothing", "_law_again", "_law_half", "_law_k"]) (sc := defScope s_law) (by decide +kernel)) (fun _ _ _ _ _ => (pg_name (i := 12) sc_law.nd rfl (Or.inl rfl))) (fun _ _ _ _ _ => pts_nil) (fun _ _ _ _ _ => (pe_call G_l_pick (hr.mono (by decide)) (by rfl) T.g_l_pick T.F_l_pick.kp T.b_l_pick .nil pass0 (pa_cons (pv 1) (pa_cons (pe_callB (RD.k_len (K := K) rfl) (by rfl) T.z_len (by decide +kernel) (pa_cons (pv 3) pa_nil)) pa_nil)))))
      (RD.pss_cut (ps_if (pt_cmpR op_eq (pe_call G_l_pick (hr.mono (by decide)) (by rfl) T.g_l_pick T.F_l_pick.kp T.b_l_pick .nil pass0 (pa_cons (pv 1) (pa_cons pe_int pa_nil))) pe_int (nomark _))
      (pss_one (ps_set (i := 4) sc_law.nd rfl (Or.inl rfl) (pe_op op_cat (pv 4) (pe_lst (pa_cons (pe_ix (RD.k_ixL (K := K) rfl) (pv 4) pe_int (fun _ _ => rfl)) pa_nil)))))
      pss_nil)
      (pss_cons (ps_setLc (i := 5) (own := [("_law_half", 11)]) (g := gName 11) (by rfl) sc_law.nd rfl rfl (sw_true rfl rfl rfl (by decide +kernel)) (RD.k_pil (K := K) rfl (pv 4)) (blkOk_by (own := [("_law_half", 11)]) (N := ["_law_script", "_law_tape_here", "_law_edges", "_law_nexts_here", "_law_halves", "_law_passed", "_law_found", "_law_numbers", "_law_names", "_law_nothing", "_law_again", "_law_half", "_law_k"]) (sc := defScope s_law) (by decide +kernel)) (fun _ _ _ _ _ => (pg_name (i := 11) sc_law.nd rfl (Or.inl rfl))) (fun _ _ _ _ _ => pts_nil) (fun _ _ _ _ _ => (pv 11)))
      (pss_cons (ps_set (i := 6) sc_law.nd rfl (Or.inl rfl) (pe_call G_numbered (hr.mono (by decide)) (by rfl) T.g_numbered T.F_numbered.kp T.b_numbered .nil pass0 (pa_cons (pe_make T.mk_Mesh G_Mesh_d_initd_ (hr.mono (by decide)) (by rfl) T.g_Mesh T.b_Mesh_d_initd_ .nil pass0 (pa_cons (pv 3) pa_nil)) (pa_cons (pv 5) pa_nil))))
      (pss_cons (ps_asg (pe_call G_l_numbered (hr.mono (by decide)) (by rfl) T.g_l_numbered T.F_l_numbered.kp T.b_l_numbered .nil pass0 (pa_cons (pv 3) (pa_cons (pv 4) pa_nil))) (pg_unl rfl (pgs_cons (pg_name (i := 7) sc_law.nd rfl (Or.inl rfl)) (pgs_cons (pg_name (i := 8) sc_law.nd rfl (Or.inl rfl)) pgs_nil))))
      (pss_cons (ps_if (PW.pt (pw_or (pt_not (pt_val (pe_callB (RD.k_isi (K := K) rfl) (by rfl) T.z_isinstance (by decide +kernel) (pa_cons (pv 6) (pa_cons (pe_bltn (v := .ty "tuple") (by rfl) T.z_tuple (by decide +kernel) rfl) pa_nil))))) (pw_or (pt_cmpR op_ne (pe_callB (RD.k_len (K := K) rfl) (by rfl) T.z_len (by decide +kernel) (pa_cons (pv 6) pa_nil)) pe_int (nomark _)) (pw_or1 (pt_cmpR (RD.k_neD (K := K) rfl hr.units) (pv 5) (pv 4) (nomark _))))))
      (pss_one (ps_ret pe_bl))
      pss_nil)
      (pss_cons (ps_if (PW.pt (pw_or (pt_not (pt_cmpR (RD.k_eqOwn (K := K) rfl (hr.mono (by decide)) G_Mesh_d_eqd_ T.m_Mesh_d_eqd_.at_ T.m_Mesh_d_eqd_.fn T.b_Mesh_d_eqd_ pass0) (pe_ix (RD.k_ixT (K := K) rfl) (pv 6) pe_int (fun _ _ => rfl)) (pe_make T.mk_Mesh G_Mesh_d_initd_ (hr.mono (by decide)) (by rfl) T.g_Mesh T.b_Mesh_d_initd_ .nil pass0 (pa_cons (pv 7) pa_nil)) (nomark _))) (pw_or (pt_cmpR (RD.k_neD (K := K) rfl hr.units) (pe_meth0 (pe_ix (RD.k_ixT (K := K) rfl) (pv 6) pe_int (fun _ _ => rfl)) T.cl_Mesh T.m_Mesh_nexts G_Mesh_nexts (hr.mono (by decide)) T.b_Mesh_nexts .nil pass0) (pv 7) (nomark _)) (pw_or1 (pt_cmpR (RD.k_neD (K := K) rfl hr.units) (pe_ix (RD.k_ixT (K := K) rfl) (pv 6) pe_int (fun _ _ => rfl)) (pv 8) (nomark _))))))
      (pss_one (ps_ret pe_bl))
      pss_nil)
      (pss_cons (ps_set (i := 9) sc_law.nd rfl (Or.inl rfl) (pe_call G_numbered (hr.mono (by decide)) (by rfl) T.g_numbered T.F_numbered.kp T.b_numbered .nil pass0 (pa_cons (pe_make T.mk_Mesh G_Mesh_d_initd_ (hr.mono (by decide)) (by rfl) T.g_Mesh T.b_Mesh_d_initd_ .nil pass0 (pa_cons (pv 3) pa_nil)) (pa_cons (pe_lst pa_nil) pa_nil))))
      (pss_cons (ps_if (PW.pt (pw_or (pt_cmpR (RD.k_neD (K := K) rfl hr.units) (pe_meth0 (pe_ix (RD.k_ixT (K := K) rfl) (pv 9) pe_int (fun _ _ => rfl)) T.cl_Mesh T.m_Mesh_nexts G_Mesh_nexts (hr.mono (by decide)) T.b_Mesh_nexts .nil pass0) (pe_lst pa_nil) (nomark _)) (pw_or1 (pt_cmpR (RD.k_neD (K := K) rfl hr.units) (pe_ix (RD.k_ixT (K := K) rfl) (pv 9) pe_int (fun _ _ => rfl)) (pe_lst pa_nil) (nomark _)))))
      (pss_one (ps_ret pe_bl))
      pss_nil)
      (pss_cons (ps_set (i := 10) sc_law.nd rfl (Or.inl rfl) (pe_call G_numbered (hr.mono (by decide)) (by rfl) T.g_numbered T.F_numbered.kp T.b_numbered .nil pass0 (pa_cons (pe_ix (RD.k_ixT (K := K) rfl) (pv 6) pe_int (fun _ _ => rfl)) (pa_cons (pe_ix (RD.k_ixT (K := K) rfl) (pv 6) pe_int (fun _ _ => rfl)) pa_nil))))
      (pss_cons (ps_expr (RD.k_bm (K := K) rfl PySem.F.plainAttrs_list PySem.F.slot_list_append PySem.F.type_list_append mt_append (pe_ix (RD.k_ixT (K := K) rfl) (pv 6) pe_int (fun _ _ => rfl)) (pa_cons pe_int pa_nil)))
      (pss_one (ps_ret (pe_and (pe_cmpR (RD.k_eqOwn (K := K) rfl (hr.mono (by decide)) G_Mesh_d_eqd_ T.m_Mesh_d_eqd_.at_ T.m_Mesh_d_eqd_.fn T.b_Mesh_d_eqd_ pass0) (pe_ix (RD.k_ixT (K := K) rfl) (pv 10) pe_int (fun _ _ => rfl)) (pe_make T.mk_Mesh G_Mesh_d_initd_ (hr.mono (by decide)) (by rfl) T.g_Mesh T.b_Mesh_d_initd_ .nil pass0 (pa_cons (pv 7) pa_nil)) (nomark _)) (pe_one (pe_cmpR (RD.k_eqD (K := K) rfl hr.units) (pe_ix (RD.k_ixT (K := K) rfl) (pv 10) pe_int (fun _ _ => rfl)) (pv 8) (nomark _))))))))))))))))))))), ?_⟩
    show tSeq _ _ _ [some (.ref a), none, none, none, none, none, none, none, none, none, none, none, none] H
    walk_at "rd"
    refine ⟨a, zs, 0, rfl, hS, by decide, by decide, fun H1 t0 s1 nt0 tp1 => ?_⟩
    walk_at "rd"
    refine ⟨t0, rfl, tp1, fun e H2 he tp2 sx2 => ?_⟩
    walk_at "rd"
    have ee : (if (e : Int) > 1 then (e : Int) else 1) = ((max 1 e : Nat) : Int) := by split <;> omega
    rw [ee]
    have he1 : 1 ≤ max 1 e ∧ max 1 e ≤ 30 := by omega
    generalize max 1 e = e1 at he1 ⊢
    have s2 : Same H H2 := sx2.under s1 nt0
    refine ⟨a, zs, 1, rfl, s2.seq hS, by decide, by decide, fun H3 t1 s3 nt1 tp3 => ?_⟩
    walk_at "rd"
    refine ⟨t1, e1, rfl, tp3, he1.2, fun H4 n1 ns hM1 hl1 nn1 tp4 sx4 en1 => ?_⟩
    have s4 : Same H2 H4 := sx4.under s3 nt1
    have tp0 := tp2.same s4
    have n1t : n1 ≠ t0 := (tp2.same s3).ne nn1
    have s5 := s2.trans s4
    walk_at "rd"
    refine RD.cut (fun σ H' => ∃ (n' : Addr) (ms : List Nat), σ = [some (.ref a), some (.ref t0), some (vn e1), some (.ref n'), none, none, none, none, none, none, none, none, none] ∧ Same H H' ∧ TapeAt H' t0 ∧ n' ≠ t0 ∧ H' n' = some (.lst (vns ms)) ∧ IsMesh ms ∧ 0 < ms.length ∧ ms.length ≤ 60) ?_ ?_
    · walk_at "rd"
      refine ⟨t0, _, rfl, tp0, by decide, by decide, fun c H5 hc tp5 sx5 => ?_⟩
      have s6 : Same H H5 := sx5.under s5 nt0
      have en5 := sx5 _ _ en1 n1t
      have no : ∃ (n' : Addr) (ms : List Nat), [some (V.ref a), some (.ref t0), some (vn e1), some (.ref n1), none, none, none, none, none, none, none, none, none] = [some (V.ref a), some (.ref t0), some (vn e1), some (.ref n'), none, none, none, none, none, none, none, none, none] ∧ Same H H5 ∧ TapeAt H5 t0 ∧ n' ≠ t0 ∧ H5 n' = some (.lst (vns ms)) ∧ IsMesh ms ∧ 0 < ms.length ∧ ms.length ≤ 60 := ⟨n1, ns, rfl, s6, tp5, n1t, en5, hM1, by omega, by omega⟩
      walk_at "rd"
      refine RD.dec (fun _ => ?_) (fun _ => no)
      walk_at "rd"
      refine RD.dec (fun hlt => ?_) (fun _ => no)
      walk_at "rd"
      refine RD.lcL (sq en5) (by rw [vns_len]; exact szl (by omega)) (fun _ => true) (fun v => match v with | .int i => .int (i + 2 * (e1 : Int)) | _ => v) (fun i x H1 Q' R' hx s1 kT kF => ?_) (fun H6 l nl s7 el => ?_)
      · obtain ⟨n, hn, rfl⟩ := of_vns hx
        walk_at "wp"
        walk_at "rd"
        refine ⟨rfl, ?_⟩
        walk_at "rd"
        refine RD.iC (.inl ⟨by decide, by decide⟩) ?_
        walk_at "rd"
        exact kT rfl _ (Same.refl _)
      rw [RD.pick_all (fun _ => rfl)] at el
      have ev : (vns ns).map (fun v => match v with | .int i => .int (i + 2 * (e1 : Int)) | _ => v) = vns (ns.map fun x => x + 2 * e1) := by
        unfold vns
        rw [List.map_map, List.map_map]
        refine List.map_congr_left fun x _ => ?_
        show V.int ((x : Int) + 2 * (e1 : Int)) = V.int ((x + 2 * e1 : Nat) : Int)
        congr 1
      rw [ev] at el
      have tp6 := tp5.same s7
      refine RD.cat (s7 _ _ en5) el (by rw [vns_len, vns_len, List.length_map]; exact szl (by omega)) fun r nr => ?_
      walk_at "rd"
      exact ⟨r, _, rfl, (s6.trans s7).trans (RD.same_new nr), tp6.same (RD.same_new nr), tp6.ne nr, by rw [upd_same, vns_app], mesh_twice hM1 hl1, by rw [List.length_append, List.length_map]; omega, by rw [List.length_append, List.length_map]; omega⟩
    clear s2 s4 s5 en1 tp0 tp1 tp2 tp3 tp4 sx2 sx4 s3
    rintro σ H5 ⟨n', ms, rfl, s5, tp5, nt, en, hM, h0, hl⟩
    walk_at "rd"
    refine ⟨t0, _, rfl, tp5, by decide, by decide, fun c H6 hc tp6 sx6 => ?_⟩
    have en6 := sx6 _ _ en nt
    walk_at "rd"
    refine lcTape (n := 1 + c) (by omega) (by omega) (by omega) (fun v => v < ms.length) tp6 (fun i H7 Q' R' hi tp7 sx7 k => ?_) (fun H7 h1 hs1 nh1 tp7 sx7 hsl hhs eh1 => ?_)
    · have en7 := sx7 _ _ en6 nt
      walk_at "wp"
      walk_at "rd"
      refine ⟨rfl, ?_⟩
      walk_at "rd"
      refine RD.len (sq en7) ?_
      rw [vns_len]
      exact ⟨t0, _, rfl, tp7, by omega, by omega, fun v H8 hv tp8 sx8 => k v H8 (by omega) tp8 sx8⟩
    have s7 : Same H H7 := (sx6.trans sx7).under s5 nt0
    have en7 := sx7 _ _ en6 nt
    have h1t : h1 ≠ t0 := tp6.ne nh1
    walk_at "rd"
    refine RD.cut (fun σ H' => ∃ (h' : Addr) (hs : List Nat), σ = [some (.ref a), some (.ref t0), some (vn e1), some (.ref n'), some (.ref h'), none, none, none, none, none, none, none, none] ∧ Same H H' ∧ H' n' = some (.lst (vns ms)) ∧ H' h' = some (.lst (vns hs)) ∧ hs.length ≤ 100 ∧ ∀ x ∈ hs, x < ms.length) ?_ ?_
    · walk_at "rd"
      refine ⟨t0, _, rfl, tp7, by decide, by decide, fun c2 H8 hc2 tp8 sx8 => ?_⟩
      have s8 : Same H H8 := sx8.under s7 nt0
      have en8 := sx8 _ _ en7 nt
      have eh8 := sx8 _ _ eh1 h1t
      walk_at "rd"
      refine RD.dec (fun _ => ?_) (fun _ => ?_)
      · walk_at "rd"
        refine RD.ixL (sq eh8) (at_n (j := 0) (vns_at (fn_at (by omega)))) ?_
        walk_at "rd"
        refine ⟨szl (by simp), fun t nt => ?_⟩
        have s9 := RD.same_new (o := .lst [vn (fn hs1 0)]) nt
        refine RD.cat (s9 _ _ eh8) upd_same (by rw [vns_len]; exact szl (by simp only [List.length_cons, List.length_nil]; omega)) fun r nr => ?_
        have s10 := RD.same_new (o := .lst (vns hs1 ++ [vn (fn hs1 0)])) nr
        walk_at "rd"
        refine ⟨r, hs1 ++ [fn hs1 0], rfl, (s8.trans s9).trans s10, s10 _ _ (s9 _ _ en8), by rw [upd_same, vns_app]; rfl, by rw [List.length_append]; simp only [List.length_cons, List.length_nil]; omega, fun x hx => ?_⟩
        rcases List.mem_append.mp hx with hx | hx
        · exact hhs x hx
        · rw [List.mem_singleton.mp hx]
          exact hhs _ (fn_mem (by omega))
      · walk_at "rd"
        exact ⟨h1, hs1, rfl, s8, en8, eh8, by omega, hhs⟩
    clear s7 en7 eh1 en6 sx6 sx7 tp7 tp6 tp5 en s5
    rintro σ H8 ⟨h', hs, rfl, s8, en8, eh8, hhl, hhn⟩
    walk_at "rd"
    refine RD.lcL (sq eh8) (by rw [vns_len]; exact szl (by omega)) (fun _ => true) id (fun i x H1 Q' R' hx s1 kT kF => ?_) (fun H9 ps nps s9 eps => ?_)
    · walk_at "wp"
      walk_at "rd"
      refine ⟨rfl, ?_⟩
      walk_at "rd"
      exact kT rfl _ (Same.refl _)
    rw [RD.pick_all (fun _ => rfl), List.map_id] at eps
    have en9 := s9 _ _ en8
    have eh9 := s9 _ _ eh8
    walk_at "rd"
    refine mk_mesh en9 hM (by omega) fun H10 p1 a1 b1 np1 na1 nb1 s10 m10 => ?_
    walk_at "rd"
    refine ⟨p1, a1, b1, ps, ms, hs, rfl, m10, hM, by omega, s10 _ _ eps, hhn, by omega, fun H11 t p' a' b' l s11 nt' np' na' nb' nl pl al bl et m11 el => ?_⟩
    have s11' := s10.trans s11
    have hO := ordr_ok hM hhn
    have hOl := hO.len
    have hNM := newN_mesh hM hO
    have hNl : (newN ms (ordr ms hs)).length ≤ 62 := by rw [newN_len]; omega
    have ag := new_again hM hhn
    have hin : ∀ x ∈ hs.map (ordr ms hs).idxOf, x < (newN ms (ordr ms hs)).length := fun x hx => by
      obtain ⟨y, hy, rfl⟩ := List.mem_map.mp hx
      rw [newN_len]
      exact idx_lt (ordr_mem hs [] y hy)
    walk_at "rd"
    refine ⟨n', h', ms, hs, rfl, sq (s11' _ _ en9), hM, by omega, s11' _ _ eh9, hhn, by omega, fun H12 r u v s12 nu nv er eu ev => ?_⟩
    refine RD.unl2 (sq er) ?_
    generalize hNe : newN ms (ordr ms hs) = N at m11 eu hNM hNl ag hin
    generalize hLe : hs.map (ordr ms hs).idxOf = Ls at el ev ag hin
    have et12 := s12 _ _ et
    have el12 := s12 _ _ el
    have m12 := m11.same s12
    have sA := (s9.trans s11').trans s12
    walk_at "rd"
    refine RD.isi (.ty "tuple") (.base (.tup et12)) (kit_ty (r := true) (by decide +kernel)) ?_
    walk_at "rd"
    show (if false = true then _ else _)
    walk_at "rd"
    refine RD.lenT (st et12) ?_
    walk_at "rd"
    refine RD.ndF rfl ?_
    walk_at "rd"
    refine RD.neD (dp_N (sq ((s11'.trans s12) _ _ eps))) (dp_N (sq (sA _ _ eh8))) (sh_dN _) (sh_dN _) ?_
    rw [eqv_dN]
    walk_at "rd"
    refine RD.ndF rfl ?_
    walk_at "rd"
    refine RD.ixT (v := .ref p') (st et12) rfl ?_
    walk_at "rd"
    refine mk_mesh eu hNM hNl fun H13 p3 a3 b3 np3 na3 nb3 s13 m13 => ?_
    refine eq_mesh T (m12.same s13) m13 ?_
    walk_at "rd"
    rw [decide_eq_true rfl]
    walk_at "rd"
    show (if false = true then _ else _)
    walk_at "rd"
    refine RD.ixT (v := .ref p') (st (s13 _ _ et12)) rfl ?_
    walk_at "rd"
    obtain ⟨dx, hp13⟩ := (m12.same s13).ob
    refine ⟨p', dx, _, rfl, hp13, mf_no _ _ (by decide +kernel) (by decide +kernel), ?_⟩
    walk_at "rd"
    refine ⟨p', a', b', N, rfl, m12.same s13, fun c1 nc1 => ?_⟩
    have s14 := RD.same_new (o := .lst (vns N)) nc1
    walk_at "rd"
    refine RD.neD (dp_N (sq upd_same)) (dp_N (sq (s14 _ _ (s13 _ _ eu)))) (sh_dN _) (sh_dN _) ?_
    rw [eqv_dN]
    walk_at "rd"
    refine RD.ndF rfl ?_
    have s15 := s13.trans s14
    generalize upd H13 c1 (.lst (vns N)) = H14 at s15 ⊢
    walk_at "rd"
    refine RD.ixT (v := .ref l) (st (s15 _ _ et12)) rfl ?_
    walk_at "rd"
    refine RD.neD (dp_N (sq (s15 _ _ el12))) (dp_N (sq (s15 _ _ ev))) (sh_dN _) (sh_dN _) ?_
    rw [eqv_dN]
    walk_at "rd"
    refine RD.ndF rfl ?_
    walk_at "rd"
    have en14 := s15 _ _ (sA _ _ en8)
    refine mk_mesh en14 hM (by omega) fun H15 p4 a4 b4 np4 na4 nb4 s16 m16 => ?_
    walk_at "rd"
    refine ⟨Nat.zero_le _, fun z nz => ?_⟩
    have s17 := RD.same_new (o := .lst []) nz
    walk_at "rd"
    refine ⟨p4, a4, b4, z, ms, [], rfl, m16.same s17, hM, by omega, upd_same, (fun x hx => nomatch hx), Nat.zero_le _, fun H16 t6 p6 a6 b6 l6 s18 nt6 np6 na6 nb6 nl6 pl6 al6 bl6 et6 m18 el6 => ?_⟩
    walk_at "rd"
    refine RD.ixT (v := .ref p6) (st et6) rfl ?_
    walk_at "rd"
    obtain ⟨dy, hp18⟩ := m18.ob
    refine ⟨p6, dy, _, rfl, hp18, mf_no _ _ (by decide +kernel) (by decide +kernel), ?_⟩
    walk_at "rd"
    refine ⟨p6, a6, b6, _, rfl, m18, fun c2 nc2 => ?_⟩
    have s19 := RD.same_new (o := .lst (vns (newN ms (ordr ms [])))) nc2
    walk_at "rd"
    refine ⟨Nat.zero_le _, fun c3 nc3 => ?_⟩
    have s20 := RD.same_new (o := .lst []) nc3
    refine RD.neD (d := dN []) (e := dN []) (dp_N (l := []) (sq (s20 _ _ upd_same))) (dp_N (l := []) (sq upd_same)) (sh_dN _) (sh_dN _) ?_
    rw [eqv_dN]
    walk_at "rd"
    refine RD.ndF rfl ?_
    walk_at "rd"
    refine RD.ixT (v := .ref l6) (st (s20 _ _ (s19 _ _ et6))) rfl ?_
    walk_at "rd"
    refine ⟨Nat.zero_le _, fun c4 nc4 => ?_⟩
    have s21 := RD.same_new (o := .lst []) nc4
    refine RD.neD (d := dN []) (e := dN []) (dp_N (l := []) (sq (s21 _ _ (s20 _ _ (s19 _ _ el6))))) (dp_N (l := []) (sq upd_same)) (sh_dN _) (sh_dN _) ?_
    rw [eqv_dN]
    walk_at "rd"
    refine RD.ndF rfl ?_
    have sB := (((((s15.trans s16).trans s17).trans s18).trans s19).trans s20).trans s21
    generalize upd (upd (upd H16 c2 (.lst (vns (newN ms (ordr ms []))))) c3 (.lst [])) c4 (.lst []) = H17 at sB ⊢
    walk_at "rd"
    refine RD.ixT (v := .ref p') (st (sB _ _ et12)) rfl ?_
    walk_at "rd"
    refine RD.ixT (v := .ref l) (st (sB _ _ et12)) rfl ?_
    walk_at "rd"
    refine ⟨p', a', b', l, N, Ls, rfl, m12.same sB, hNM, hNl, sB _ _ el12, hin, by rw [← hLe, List.length_map]; omega, fun H18 t7 p7 a7 b7 l7 s22 nt7 np7 na7 nb7 nl7 pl7 al7 bl7 et7 m22 el7 => ?_⟩
    rw [ag.1] at m22
    rw [ag.2] at el7
    have sC := sB.trans s22
    have el18 := sC _ _ el12
    walk_at "rd"
    refine RD.ixT (v := .ref l) (st (sC _ _ et12)) rfl ?_
    walk_at "rd"
    refine ⟨RD.tyL (sq el18), ?_⟩
    walk_at "rd"
    refine RD.app el18 (by rw [vns_len, ← hLe, List.length_map]; exact szt (by omega)) ?_
    have el17 := sB _ _ el12
    have l7l : l7 ≠ l := (ne_of_none el17 nl7).symm
    have t7l : t7 ≠ l := (ne_of_none el17 nt7).symm
    have p7l : p7 ≠ l := (ne_of_none el17 np7).symm
    have a7l : a7 ≠ l := (ne_of_none el17 na7).symm
    have b7l : b7 ≠ l := (ne_of_none el17 nb7).symm
    have ul : u ≠ l := fun z => by
      rw [z, el] at nu
      cases nu
    have vl : v ≠ l := fun z => by
      rw [z, el] at nv
      cases nv
    have sx : SameX l H18 (upd H18 l (.lst (vns Ls ++ [.int 99]))) := (SameX.refl l H18).put
    have eu18 := sx _ _ (sC _ _ eu) ul
    have ev18 := sx _ _ (sC _ _ ev) vl
    have et18 := sx _ _ et7 t7l
    have el18' := sx _ _ el7 l7l
    have m18' := m22.sameX sx p7l a7l b7l
    generalize upd H18 l (.lst (vns Ls ++ [.int 99])) = H19 at eu18 ev18 et18 el18' m18' ⊢
    walk_at "rd"
    refine RD.ixT (v := .ref p7) (st et18) rfl ?_
    walk_at "rd"
    refine mk_mesh eu18 hNM hNl fun H20 p8 a8 b8 np8 na8 nb8 s23 m23 => ?_
    refine eq_mesh T (m18'.same s23) m23 ?_
    walk_at "rd"
    rw [decide_eq_true rfl]
    walk_at "rd"
    refine RD.ixT (v := .ref l7) (st (s23 _ _ et18)) rfl ?_
    walk_at "rd"
    refine RD.eqD (dp_N (sq (s23 _ _ el18'))) (dp_N (sq (s23 _ _ ev18))) (sh_dN _) (sh_dN _) ?_
    rw [eqv_dN, decide_eq_true rfl]
    exact q H20
end
end Pf

namespace Pf
open PySem PySem.Spec PyProof.Rows L2
theorem all_mk {l : PySem.W.OpenLaw} {w : World} {K : PySem.W.Frag} {h : Heap} {mg : Str → Option Value} {fa f1 f2 f3 f4 f5 f6 f7 f8 f9 f10 f11 f12 f13 f14 f15 f16 f17 f18 C_MeshError C_NotAMesh C_Mesh : Addr} (X : K.In h) (G : h.Ns mainGlobals mg) (hfa : mg "law" = some (.ref fa))
    {od1 an1 : Option Addr} {sl1 : Array (Option Value)} {oc1 kV1 dc1 pm1 cd1 ct1 : Value}
    {od2 an2 : Option Addr} {sl2 : Array (Option Value)} {oc2 kV2 dc2 pm2 cd2 ct2 : Value}
    {od3 an3 : Option Addr} {sl3 : Array (Option Value)} {oc3 kV3 dc3 pm3 cd3 ct3 : Value}
    {od4 an4 : Option Addr} {sl4 : Array (Option Value)} {oc4 kV4 dc4 pm4 cd4 ct4 : Value}
    {od5 an5 : Option Addr} {sl5 : Array (Option Value)} {oc5 kV5 dc5 pm5 cd5 ct5 : Value}
    {od6 an6 : Option Addr} {sl6 : Array (Option Value)} {oc6 kV6 dc6 pm6 cd6 ct6 : Value}
    {od7 an7 : Option Addr} {sl7 : Array (Option Value)} {oc7 kV7 dc7 pm7 cd7 ct7 : Value}
    {od8 an8 : Option Addr} {sl8 : Array (Option Value)} {oc8 kV8 dc8 pm8 cd8 ct8 : Value}
    {od9 an9 : Option Addr} {sl9 : Array (Option Value)} {oc9 kV9 dc9 pm9 cd9 ct9 : Value}
    {od10 an10 : Option Addr} {sl10 : Array (Option Value)} {oc10 kV10 dc10 pm10 cd10 ct10 : Value}
    {od11 an11 : Option Addr} {sl11 : Array (Option Value)} {oc11 kV11 dc11 pm11 cd11 ct11 : Value}
    {od12 an12 : Option Addr} {sl12 : Array (Option Value)} {oc12 kV12 dc12 pm12 cd12 ct12 : Value}
    {od13 an13 : Option Addr} {sl13 : Array (Option Value)} {oc13 kV13 dc13 pm13 cd13 ct13 : Value}
    {od14 an14 : Option Addr} {sl14 : Array (Option Value)} {oc14 kV14 dc14 pm14 cd14 ct14 : Value}
    {od15 an15 : Option Addr} {sl15 : Array (Option Value)} {oc15 kV15 dc15 pm15 cd15 ct15 : Value}
    {od16 an16 : Option Addr} {sl16 : Array (Option Value)} {oc16 kV16 dc16 pm16 cd16 ct16 : Value}
    {od17 an17 : Option Addr} {sl17 : Array (Option Value)} {oc17 kV17 dc17 pm17 cd17 ct17 : Value}
    {od18 an18 : Option Addr} {sl18 : Array (Option Value)} {oc18 kV18 dc18 pm18 cd18 ct18 : Value}
    (aC_MeshError : PySem.W.nsIn K mainGlobals "MeshError" = some (some (.ref C_MeshError)))
    (aC_NotAMesh : PySem.W.nsIn K mainGlobals "NotAMesh" = some (some (.ref C_NotAMesh)))
    (aC_Mesh : PySem.W.nsIn K mainGlobals "Mesh" = some (some (.ref C_Mesh)))
    (a1 : PySem.W.nsIn K mainGlobals "twin_of" = some (some (.ref f1)))
    (l1 : K.lookup f1 = some ⟨oc1, od1, .func (PySem.W.fnOf "twin_of" "twin_of" (defArgs s_twin_of) (defBody s_twin_of) (defScope s_twin_of) .none kV1 dc1 pm1 an1 cd1 ct1), sl1⟩)
    (c1 : PySem.W.codeIn K cd1 "twin_of" = true)
    (k1 : PySem.W.keepIn K (.ref f1) = true)
    (a2 : PySem.W.nsIn K mainGlobals "are_integers" = some (some (.ref f2)))
    (l2 : K.lookup f2 = some ⟨oc2, od2, .func (PySem.W.fnOf "are_integers" "are_integers" (defArgs s_are_integers) (defBody s_are_integers) (defScope s_are_integers) .none kV2 dc2 pm2 an2 cd2 ct2), sl2⟩)
    (c2 : PySem.W.codeIn K cd2 "are_integers" = true)
    (k2 : PySem.W.keepIn K (.ref f2) = true)
    (a3 : PySem.W.findIn K (.ref C_Mesh) "__init__" = some (some (.ref f3)))
    (i3 : PySem.W.isFn K (.ref f3) = true)
    (l3 : K.lookup f3 = some ⟨oc3, od3, .func (PySem.W.fnOf "__init__" "Mesh.__init__" (defArgs s_Mesh_d_initd_) (defBody s_Mesh_d_initd_) (defScope s_Mesh_d_initd_) .none kV3 dc3 pm3 an3 cd3 ct3), sl3⟩)
    (c3 : PySem.W.codeIn K cd3 "Mesh.__init__" = true)
    (k3 : PySem.W.keepIn K (.ref f3) = true)
    (a4 : PySem.W.findIn K (.ref C_Mesh) "__len__" = some (some (.ref f4)))
    (i4 : PySem.W.isFn K (.ref f4) = true)
    (l4 : K.lookup f4 = some ⟨oc4, od4, .func (PySem.W.fnOf "__len__" "Mesh.__len__" (defArgs s_Mesh_d_lend_) (defBody s_Mesh_d_lend_) (defScope s_Mesh_d_lend_) .none kV4 dc4 pm4 an4 cd4 ct4), sl4⟩)
    (c4 : PySem.W.codeIn K cd4 "Mesh.__len__" = true)
    (k4 : PySem.W.keepIn K (.ref f4) = true)
    (a5 : PySem.W.findIn K (.ref C_Mesh) "__contains__" = some (some (.ref f5)))
    (i5 : PySem.W.isFn K (.ref f5) = true)
    (l5 : K.lookup f5 = some ⟨oc5, od5, .func (PySem.W.fnOf "__contains__" "Mesh.__contains__" (defArgs s_Mesh_d_containsd_) (defBody s_Mesh_d_containsd_) (defScope s_Mesh_d_containsd_) .none kV5 dc5 pm5 an5 cd5 ct5), sl5⟩)
    (c5 : PySem.W.codeIn K cd5 "Mesh.__contains__" = true)
    (k5 : PySem.W.keepIn K (.ref f5) = true)
    (a6 : PySem.W.findIn K (.ref C_Mesh) "__eq__" = some (some (.ref f6)))
    (i6 : PySem.W.isFn K (.ref f6) = true)
    (l6 : K.lookup f6 = some ⟨oc6, od6, .func (PySem.W.fnOf "__eq__" "Mesh.__eq__" (defArgs s_Mesh_d_eqd_) (defBody s_Mesh_d_eqd_) (defScope s_Mesh_d_eqd_) .none kV6 dc6 pm6 an6 cd6 ct6), sl6⟩)
    (c6 : PySem.W.codeIn K cd6 "Mesh.__eq__" = true)
    (k6 : PySem.W.keepIn K (.ref f6) = true)
    (a7 : PySem.W.findIn K (.ref C_Mesh) "after" = some (some (.ref f7)))
    (i7 : PySem.W.isFn K (.ref f7) = true)
    (l7 : K.lookup f7 = some ⟨oc7, od7, .func (PySem.W.fnOf "after" "Mesh.after" (defArgs s_Mesh_after) (defBody s_Mesh_after) (defScope s_Mesh_after) .none kV7 dc7 pm7 an7 cd7 ct7), sl7⟩)
    (c7 : PySem.W.codeIn K cd7 "Mesh.after" = true)
    (k7 : PySem.W.keepIn K (.ref f7) = true)
    (a8 : PySem.W.findIn K (.ref C_Mesh) "twin" = some (some (.ref f8)))
    (i8 : PySem.W.isFn K (.ref f8) = true)
    (l8 : K.lookup f8 = some ⟨oc8, od8, .func (PySem.W.fnOf "twin" "Mesh.twin" (defArgs s_Mesh_twin) (defBody s_Mesh_twin) (defScope s_Mesh_twin) .none kV8 dc8 pm8 an8 cd8 ct8), sl8⟩)
    (c8 : PySem.W.codeIn K cd8 "Mesh.twin" = true)
    (k8 : PySem.W.keepIn K (.ref f8) = true)
    (a9 : PySem.W.findIn K (.ref C_Mesh) "nexts" = some (some (.ref f9)))
    (i9 : PySem.W.isFn K (.ref f9) = true)
    (l9 : K.lookup f9 = some ⟨oc9, od9, .func (PySem.W.fnOf "nexts" "Mesh.nexts" (defArgs s_Mesh_nexts) (defBody s_Mesh_nexts) (defScope s_Mesh_nexts) .none kV9 dc9 pm9 an9 cd9 ct9), sl9⟩)
    (c9 : PySem.W.codeIn K cd9 "Mesh.nexts" = true)
    (k9 : PySem.W.keepIn K (.ref f9) = true)
    (a10 : PySem.W.findIn K (.ref C_Mesh) "pieces" = some (some (.ref f10)))
    (i10 : PySem.W.isFn K (.ref f10) = true)
    (l10 : K.lookup f10 = some ⟨oc10, od10, .func (PySem.W.fnOf "pieces" "Mesh.pieces" (defArgs s_Mesh_pieces) (defBody s_Mesh_pieces) (defScope s_Mesh_pieces) .none kV10 dc10 pm10 an10 cd10 ct10), sl10⟩)
    (c10 : PySem.W.codeIn K cd10 "Mesh.pieces" = true)
    (k10 : PySem.W.keepIn K (.ref f10) = true)
    (a11 : PySem.W.nsIn K mainGlobals "numbered" = some (some (.ref f11)))
    (l11 : K.lookup f11 = some ⟨oc11, od11, .func (PySem.W.fnOf "numbered" "numbered" (defArgs s_numbered) (defBody s_numbered) (defScope s_numbered) .none kV11 dc11 pm11 an11 cd11 ct11), sl11⟩)
    (c11 : PySem.W.codeIn K cd11 "numbered" = true)
    (k11 : PySem.W.keepIn K (.ref f11) = true)
    (a12 : PySem.W.nsIn K mainGlobals "_law_tape" = some (some (.ref f12)))
    (l12 : K.lookup f12 = some ⟨oc12, od12, .func (PySem.W.fnOf "_law_tape" "_law_tape" (defArgs s_l_tape) (defBody s_l_tape) (defScope s_l_tape) .none kV12 dc12 pm12 an12 cd12 ct12), sl12⟩)
    (c12 : PySem.W.codeIn K cd12 "_law_tape" = true)
    (k12 : PySem.W.keepIn K (.ref f12) = true)
    (a13 : PySem.W.nsIn K mainGlobals "_law_pick" = some (some (.ref f13)))
    (l13 : K.lookup f13 = some ⟨oc13, od13, .func (PySem.W.fnOf "_law_pick" "_law_pick" (defArgs s_l_pick) (defBody s_l_pick) (defScope s_l_pick) .none kV13 dc13 pm13 an13 cd13 ct13), sl13⟩)
    (c13 : PySem.W.codeIn K cd13 "_law_pick" = true)
    (k13 : PySem.W.keepIn K (.ref f13) = true)
    (a14 : PySem.W.nsIn K mainGlobals "_law_nexts" = some (some (.ref f14)))
    (l14 : K.lookup f14 = some ⟨oc14, od14, .func (PySem.W.fnOf "_law_nexts" "_law_nexts" (defArgs s_l_nexts) (defBody s_l_nexts) (defScope s_l_nexts) .none kV14 dc14 pm14 an14 cd14 ct14), sl14⟩)
    (c14 : PySem.W.codeIn K cd14 "_law_nexts" = true)
    (k14 : PySem.W.keepIn K (.ref f14) = true)
    (a15 : PySem.W.nsIn K mainGlobals "_law_size" = some (some (.ref f15)))
    (l15 : K.lookup f15 = some ⟨oc15, od15, .func (PySem.W.fnOf "_law_size" "_law_size" (defArgs s_l_size) (defBody s_l_size) (defScope s_l_size) .none kV15 dc15 pm15 an15 cd15 ct15), sl15⟩)
    (c15 : PySem.W.codeIn K cd15 "_law_size" = true)
    (k15 : PySem.W.keepIn K (.ref f15) = true)
    (a16 : PySem.W.nsIn K mainGlobals "_law_twin" = some (some (.ref f16)))
    (l16 : K.lookup f16 = some ⟨oc16, od16, .func (PySem.W.fnOf "_law_twin" "_law_twin" (defArgs s_l_twin) (defBody s_l_twin) (defScope s_l_twin) .none kV16 dc16 pm16 an16 cd16 ct16), sl16⟩)
    (c16 : PySem.W.codeIn K cd16 "_law_twin" = true)
    (k16 : PySem.W.keepIn K (.ref f16) = true)
    (a17 : PySem.W.nsIn K mainGlobals "_law_numbered" = some (some (.ref f17)))
    (l17 : K.lookup f17 = some ⟨oc17, od17, .func (PySem.W.fnOf "_law_numbered" "_law_numbered" (defArgs s_l_numbered) (defBody s_l_numbered) (defScope s_l_numbered) .none kV17 dc17 pm17 an17 cd17 ct17), sl17⟩)
    (c17 : PySem.W.codeIn K cd17 "_law_numbered" = true)
    (k17 : PySem.W.keepIn K (.ref f17) = true)
    (a18 : PySem.W.nsIn K mainGlobals "law" = some (some (.ref f18)))
    (l18 : K.lookup f18 = some ⟨oc18, od18, .func (PySem.W.fnOf "law" "law" (defArgs s_law) (defBody s_law) (defScope s_law) .none kV18 dc18 pm18 an18 cd18 ct18), sl18⟩)
    (c18 : PySem.W.codeIn K cd18 "law" = true)
    (k18 : PySem.W.keepIn K (.ref f18) = true)
    (pg_Mesh : PySem.W.plainGet K C_Mesh Str.empty = true)
    (hd_Mesh : PySem.W.hasDictIn K C_Mesh = true)
    (po_Mesh : PySem.W.plainOver K C_Mesh = true)
    (sa_Mesh : PySem.W.findIn K (.ref C_Mesh) "__setattr__" = some (some (.builtin "object.__setattr__")))
    (mk_Mesh : PySem.W.makesIn K C_Mesh = true)
    (kc_Mesh : PySem.W.keepIn K (.ref C_Mesh) = true)
    (hn_Mesh_following : PySem.W.findIn K (.ref C_Mesh) "following" = some none)
    (hn_Mesh_preceding : PySem.W.findIn K (.ref C_Mesh) "preceding" = some none)
    (hnf_list : PySem.W.notFirst K C_Mesh (.type "list") = true)
    (hnf_int : PySem.W.notFirst K C_Mesh (.type "int") = true)
    (hxa_Mesh : PySem.W.findIn K (.ref C_Mesh) "__class__" = some (some (.builtin "object.__class__")))
    (hxm_Mesh : PySem.W.mroIn K C_Mesh (.type "object") = some true)
    (hki_list_Mesh : PySem.W.kitOne K (.type "list") (.ref C_Mesh) = some false)
    (hki_int_Mesh : PySem.W.kitOne K (.type "int") (.ref C_Mesh) = some false)
    (hz_abs : PySem.W.nsIn K mainGlobals "abs" = some none)
    (hz_all : PySem.W.nsIn K mainGlobals "all" = some none)
    (hz_bool : PySem.W.nsIn K mainGlobals "bool" = some none)
    (hz_enumerate : PySem.W.nsIn K mainGlobals "enumerate" = some none)
    (hz_int : PySem.W.nsIn K mainGlobals "int" = some none)
    (hz_isinstance : PySem.W.nsIn K mainGlobals "isinstance" = some none)
    (hz_len : PySem.W.nsIn K mainGlobals "len" = some none)
    (hz_list : PySem.W.nsIn K mainGlobals "list" = some none)
    (hz_max : PySem.W.nsIn K mainGlobals "max" = some none)
    (hz_range : PySem.W.nsIn K mainGlobals "range" = some none)
    (hz_sorted : PySem.W.nsIn K mainGlobals "sorted" = some none)
    (hz_tuple : PySem.W.nsIn K mainGlobals "tuple" = some none)
    (hoc_get : PySem.W.specialIn K (.builtin "object.__class__") "__get__" = some (some (.builtin "getset_descriptor.__get__")))
    (hoc_tak : PySem.W.takesIn K (.builtin "object.__class__") = some true)
    : ∃ fd : FuncData, (∀ (s : Shared) (v : Value), BindsTo s fd ⟨[v], []⟩ [("_law_script", v)]) ∧ ∀ base : Heap, K.In base → base.Ns mainGlobals mg → FnOk l.prog w K mg base CX0 5 fa fd ["_law_script"] (sp_law K) := by
  have e := hfa.symm.trans (PySem.W.mg_of X G a18)
  cases e
  let A : Ad := ⟨f1, (PySem.W.fnOf "twin_of" "twin_of" (defArgs s_twin_of) (defBody s_twin_of) (defScope s_twin_of) .none kV1 dc1 pm1 an1 cd1 ct1), f2, (PySem.W.fnOf "are_integers" "are_integers" (defArgs s_are_integers) (defBody s_are_integers) (defScope s_are_integers) .none kV2 dc2 pm2 an2 cd2 ct2), f3, (PySem.W.fnOf "__init__" "Mesh.__init__" (defArgs s_Mesh_d_initd_) (defBody s_Mesh_d_initd_) (defScope s_Mesh_d_initd_) .none kV3 dc3 pm3 an3 cd3 ct3), f4, (PySem.W.fnOf "__len__" "Mesh.__len__" (defArgs s_Mesh_d_lend_) (defBody s_Mesh_d_lend_) (defScope s_Mesh_d_lend_) .none kV4 dc4 pm4 an4 cd4 ct4), f5, (PySem.W.fnOf "__contains__" "Mesh.__contains__" (defArgs s_Mesh_d_containsd_) (defBody s_Mesh_d_containsd_) (defScope s_Mesh_d_containsd_) .none kV5 dc5 pm5 an5 cd5 ct5), f6, (PySem.W.fnOf "__eq__" "Mesh.__eq__" (defArgs s_Mesh_d_eqd_) (defBody s_Mesh_d_eqd_) (defScope s_Mesh_d_eqd_) .none kV6 dc6 pm6 an6 cd6 ct6), f7, (PySem.W.fnOf "after" "Mesh.after" (defArgs s_Mesh_after) (defBody s_Mesh_after) (defScope s_Mesh_after) .none kV7 dc7 pm7 an7 cd7 ct7), f8, (PySem.W.fnOf "twin" "Mesh.twin" (defArgs s_Mesh_twin) (defBody s_Mesh_twin) (defScope s_Mesh_twin) .none kV8 dc8 pm8 an8 cd8 ct8), f9, (PySem.W.fnOf "nexts" "Mesh.nexts" (defArgs s_Mesh_nexts) (defBody s_Mesh_nexts) (defScope s_Mesh_nexts) .none kV9 dc9 pm9 an9 cd9 ct9), f10, (PySem.W.fnOf "pieces" "Mesh.pieces" (defArgs s_Mesh_pieces) (defBody s_Mesh_pieces) (defScope s_Mesh_pieces) .none kV10 dc10 pm10 an10 cd10 ct10), f11, (PySem.W.fnOf "numbered" "numbered" (defArgs s_numbered) (defBody s_numbered) (defScope s_numbered) .none kV11 dc11 pm11 an11 cd11 ct11), f12, (PySem.W.fnOf "_law_tape" "_law_tape" (defArgs s_l_tape) (defBody s_l_tape) (defScope s_l_tape) .none kV12 dc12 pm12 an12 cd12 ct12), f13, (PySem.W.fnOf "_law_pick" "_law_pick" (defArgs s_l_pick) (defBody s_l_pick) (defScope s_l_pick) .none kV13 dc13 pm13 an13 cd13 ct13), f14, (PySem.W.fnOf "_law_nexts" "_law_nexts" (defArgs s_l_nexts) (defBody s_l_nexts) (defScope s_l_nexts) .none kV14 dc14 pm14 an14 cd14 ct14), f15, (PySem.W.fnOf "_law_size" "_law_size" (defArgs s_l_size) (defBody s_l_size) (defScope s_l_size) .none kV15 dc15 pm15 an15 cd15 ct15), f16, (PySem.W.fnOf "_law_twin" "_law_twin" (defArgs s_l_twin) (defBody s_l_twin) (defScope s_l_twin) .none kV16 dc16 pm16 an16 cd16 ct16), f17, (PySem.W.fnOf "_law_numbered" "_law_numbered" (defArgs s_l_numbered) (defBody s_l_numbered) (defScope s_l_numbered) .none kV17 dc17 pm17 an17 cd17 ct17), fa, (PySem.W.fnOf "law" "law" (defArgs s_law) (defBody s_law) (defScope s_law) .none kV18 dc18 pm18 an18 cd18 ct18), C_MeshError, C_NotAMesh, C_Mesh⟩
  have T : Txt K mg A := ⟨fun_mk (st := s_twin_of) l1 c1 k1,
    (fun_mk (st := s_twin_of) l1 c1 k1).binds (ps := ["half"]) fun _ _ _ _ _ _ us hl => match us, hl with | [_], _ => rfl,
    PySem.W.mg_of X G a1,
    fun_mk (st := s_are_integers) l2 c2 k2,
    (fun_mk (st := s_are_integers) l2 c2 k2).binds (ps := ["values"]) fun _ _ _ _ _ _ us hl => match us, hl with | [_], _ => rfl,
    PySem.W.mg_of X G a2,
    fun_mk (st := s_Mesh_d_initd_) l3 c3 k3,
    (fun_mk (st := s_Mesh_d_initd_) l3 c3 k3).binds (ps := ["self", "nexts"]) fun _ _ _ _ _ _ us hl => match us, hl with | [_, _], _ => rfl,
    ⟨a3, i3, k3⟩,
    fun_mk (st := s_Mesh_d_lend_) l4 c4 k4,
    (fun_mk (st := s_Mesh_d_lend_) l4 c4 k4).binds (ps := ["self"]) fun _ _ _ _ _ _ us hl => match us, hl with | [_], _ => rfl,
    ⟨a4, i4, k4⟩,
    fun_mk (st := s_Mesh_d_containsd_) l5 c5 k5,
    (fun_mk (st := s_Mesh_d_containsd_) l5 c5 k5).binds (ps := ["self", "half"]) fun _ _ _ _ _ _ us hl => match us, hl with | [_, _], _ => rfl,
    ⟨a5, i5, k5⟩,
    fun_mk (st := s_Mesh_d_eqd_) l6 c6 k6,
    (fun_mk (st := s_Mesh_d_eqd_) l6 c6 k6).binds (ps := ["self", "other"]) fun _ _ _ _ _ _ us hl => match us, hl with | [_, _], _ => rfl,
    ⟨a6, i6, k6⟩,
    fun_mk (st := s_Mesh_after) l7 c7 k7,
    (fun_mk (st := s_Mesh_after) l7 c7 k7).binds (ps := ["self", "half"]) fun _ _ _ _ _ _ us hl => match us, hl with | [_, _], _ => rfl,
    ⟨a7, i7, k7⟩,
    fun_mk (st := s_Mesh_twin) l8 c8 k8,
    (fun_mk (st := s_Mesh_twin) l8 c8 k8).binds (ps := ["self", "half"]) fun _ _ _ _ _ _ us hl => match us, hl with | [_, _], _ => rfl,
    ⟨a8, i8, k8⟩,
    fun_mk (st := s_Mesh_nexts) l9 c9 k9,
    (fun_mk (st := s_Mesh_nexts) l9 c9 k9).binds (ps := ["self"]) fun _ _ _ _ _ _ us hl => match us, hl with | [_], _ => rfl,
    ⟨a9, i9, k9⟩,
    fun_mk (st := s_Mesh_pieces) l10 c10 k10,
    (fun_mk (st := s_Mesh_pieces) l10 c10 k10).binds (ps := ["self"]) fun _ _ _ _ _ _ us hl => match us, hl with | [_], _ => rfl,
    ⟨a10, i10, k10⟩,
    fun_mk (st := s_numbered) l11 c11 k11,
    (fun_mk (st := s_numbered) l11 c11 k11).binds (ps := ["mesh", "halves"]) fun _ _ _ _ _ _ us hl => match us, hl with | [_, _], _ => rfl,
    PySem.W.mg_of X G a11,
    fun_mk (st := s_l_tape) l12 c12 k12,
    (fun_mk (st := s_l_tape) l12 c12 k12).binds (ps := ["_law_script", "_law_k"]) fun _ _ _ _ _ _ us hl => match us, hl with | [_, _], _ => rfl,
    PySem.W.mg_of X G a12,
    fun_mk (st := s_l_pick) l13 c13 k13,
    (fun_mk (st := s_l_pick) l13 c13 k13).binds (ps := ["_law_tape_here", "_law_many"]) fun _ _ _ _ _ _ us hl => match us, hl with | [_, _], _ => rfl,
    PySem.W.mg_of X G a13,
    fun_mk (st := s_l_nexts) l14 c14 k14,
    (fun_mk (st := s_l_nexts) l14 c14 k14).binds (ps := ["_law_tape_here", "_law_edges"]) fun _ _ _ _ _ _ us hl => match us, hl with | [_, _], _ => rfl,
    PySem.W.mg_of X G a14,
    fun_mk (st := s_l_size) l15 c15 k15,
    (fun_mk (st := s_l_size) l15 c15 k15).binds (ps := ["_law_tape_here"]) fun _ _ _ _ _ _ us hl => match us, hl with | [_], _ => rfl,
    PySem.W.mg_of X G a15,
    fun_mk (st := s_l_twin) l16 c16 k16,
    (fun_mk (st := s_l_twin) l16 c16 k16).binds (ps := ["_law_half"]) fun _ _ _ _ _ _ us hl => match us, hl with | [_], _ => rfl,
    PySem.W.mg_of X G a16,
    fun_mk (st := s_l_numbered) l17 c17 k17,
    (fun_mk (st := s_l_numbered) l17 c17 k17).binds (ps := ["_law_nexts_here", "_law_halves"]) fun _ _ _ _ _ _ us hl => match us, hl with | [_, _], _ => rfl,
    PySem.W.mg_of X G a17,
    fun_mk (st := s_law) l18 c18 k18,
    (fun_mk (st := s_law) l18 c18 k18).binds (ps := ["_law_script"]) fun _ _ _ _ _ _ us hl => match us, hl with | [_], _ => rfl,
    PySem.W.mg_of X G a18,
    PySem.W.mg_of X G aC_MeshError,
    PySem.W.mg_of X G aC_NotAMesh,
    PySem.W.mg_of X G aC_Mesh,
    ⟨pg_Mesh, hd_Mesh, po_Mesh, sa_Mesh⟩,
    ⟨mk_Mesh, a3, i3, kc_Mesh⟩,
    hn_Mesh_following,
    hn_Mesh_preceding,
    hnf_list,
    hnf_int,
    hxa_Mesh,
    hxm_Mesh,
    hki_list_Mesh,
    hki_int_Mesh,
    PySem.W.mg_none_of X G hz_abs,
    PySem.W.mg_none_of X G hz_all,
    PySem.W.mg_none_of X G hz_bool,
    PySem.W.mg_none_of X G hz_enumerate,
    PySem.W.mg_none_of X G hz_int,
    PySem.W.mg_none_of X G hz_isinstance,
    PySem.W.mg_none_of X G hz_len,
    PySem.W.mg_none_of X G hz_list,
    PySem.W.mg_none_of X G hz_max,
    PySem.W.mg_none_of X G hz_range,
    PySem.W.mg_none_of X G hz_sorted,
    PySem.W.mg_none_of X G hz_tuple,
    hoc_get,
    hoc_tak⟩
  exact ⟨A.d_law, fun s v => .of_eq rfl, fun base _ _ => ok_law (A := A) T⟩
end Pf
open PySem PySem.W PyProof.Rows
set_option maxRecDepth 100000 in
set_option maxHeartbeats 0 in
theorem PySem.Challenge.cw_halfmeshes_k21_new_numbers_holds : PySem.Challenge.rw_halfmeshes_k21_new_numbers.Holds := by
  w_on; o_law; k_head; (case hw => w_witness2)
  k_fill
  refine L2.walk_of (l := PySem.Challenge.rw_halfmeshes_k21_new_numbers) (n := 63) (k := 5) (x := "_law_script") (CX := fun _ => L2.CX0) (sp := fun w => Pf.sp_law _) rfl (by decide) rfl ⟨rfl, by decide, by decide⟩ (fun w h Y => PySem.W.kIn_of Y) ?F (fun _ _ a ns hl _ hS => ⟨a, ns, rfl, hS, hl, fun _ => rfl⟩) (fun _ _ _ _ _ h => h)
  case F =>
    intro w mg fa h KX G hmg
    refine' Pf.all_mk KX G hmg ?aC_MeshError ?aC_NotAMesh ?aC_Mesh ?a1 ?l1 ?c1 ?k1 ?a2 ?l2 ?c2 ?k2 ?a3 ?i3 ?l3 ?c3 ?k3 ?a4 ?i4 ?l4 ?c4 ?k4 ?a5 ?i5 ?l5 ?c5 ?k5 ?a6 ?i6 ?l6 ?c6 ?k6 ?a7 ?i7 ?l7 ?c7 ?k7 ?a8 ?i8 ?l8 ?c8 ?k8 ?a9 ?i9 ?l9 ?c9 ?k9 ?a10 ?i10 ?l10 ?c10 ?k10 ?a11 ?l11 ?c11 ?k11 ?a12 ?l12 ?c12 ?k12 ?a13 ?l13 ?c13 ?k13 ?a14 ?l14 ?c14 ?k14 ?a15 ?l15 ?c15 ?k15 ?a16 ?l16 ?c16 ?k16 ?a17 ?l17 ?c17 ?k17 ?a18 ?l18 ?c18 ?k18 ?pg_Mesh ?hd_Mesh ?po_Mesh ?sa_Mesh ?mk_Mesh ?kc_Mesh ?hn_Mesh_following ?hn_Mesh_preceding ?hnf_list ?hnf_int ?hxa_Mesh ?hxm_Mesh ?hki_list_Mesh ?hki_int_Mesh ?hz_abs ?hz_all ?hz_bool ?hz_enumerate ?hz_int ?hz_isinstance ?hz_len ?hz_list ?hz_max ?hz_range ?hz_sorted ?hz_tuple ?hoc_get ?hoc_tak
    (case aC_MeshError => k_is)
    (case aC_NotAMesh => k_is)
    (case aC_Mesh => k_is)
    (case a1 => k_is)
    (case l1 => k_is)
    (case c1 => k_is)
    (case k1 => k_is)
    (case a2 => k_is)
    (case l2 => k_is)
    (case c2 => k_is)
    (case k2 => k_is)
    (case a3 => k_is)
    (case i3 => k_is)
    (case l3 => k_is)
    (case c3 => k_is)
    (case k3 => k_is)
    (case a4 => k_is)
    (case i4 => k_is)
    (case l4 => k_is)
    (case c4 => k_is)
    (case k4 => k_is)
    (case a5 => k_is)
    (case i5 => k_is)
    (case l5 => k_is)
    (case c5 => k_is)
    (case k5 => k_is)
    (case a6 => k_is)
    (case i6 => k_is)
    (case l6 => k_is)
    (case c6 => k_is)
    (case k6 => k_is)
    (case a7 => k_is)
    (case i7 => k_is)
    (case l7 => k_is)
    (case c7 => k_is)
    (case k7 => k_is)
    (case a8 => k_is)
    (case i8 => k_is)
    (case l8 => k_is)
    (case c8 => k_is)
    (case k8 => k_is)
    (case a9 => k_is)
    (case i9 => k_is)
    (case l9 => k_is)
    (case c9 => k_is)
    (case k9 => k_is)
    (case a10 => k_is)
    (case i10 => k_is)
    (case l10 => k_is)
    (case c10 => k_is)
    (case k10 => k_is)
    (case a11 => k_is)
    (case l11 => k_is)
    (case c11 => k_is)
    (case k11 => k_is)
    (case a12 => k_is)
    (case l12 => k_is)
    (case c12 => k_is)
    (case k12 => k_is)
    (case a13 => k_is)
    (case l13 => k_is)
    (case c13 => k_is)
    (case k13 => k_is)
    (case a14 => k_is)
    (case l14 => k_is)
    (case c14 => k_is)
    (case k14 => k_is)
    (case a15 => k_is)
    (case l15 => k_is)
    (case c15 => k_is)
    (case k15 => k_is)
    (case a16 => k_is)
    (case l16 => k_is)
    (case c16 => k_is)
    (case k16 => k_is)
    (case a17 => k_is)
    (case l17 => k_is)
    (case c17 => k_is)
    (case k17 => k_is)
    (case a18 => k_is)
    (case l18 => k_is)
    (case c18 => k_is)
    (case k18 => k_is)
    (case pg_Mesh => k_is)
    (case hd_Mesh => k_is)
    (case po_Mesh => k_is)
    (case sa_Mesh => k_is)
    (case mk_Mesh => k_is)
    (case kc_Mesh => k_is)
    (case hn_Mesh_following => k_is)
    (case hn_Mesh_preceding => k_is)
    (case hnf_list => first | rfl | k_is)
    (case hnf_int => first | rfl | k_is)
    (case hxa_Mesh => first | rfl | k_is)
    (case hxm_Mesh => first | rfl | k_is)
    (case hki_list_Mesh => first | rfl | k_is)
    (case hki_int_Mesh => first | rfl | k_is)
    (case hz_abs => k_is)
    (case hz_all => k_is)
    (case hz_bool => k_is)
    (case hz_enumerate => k_is)
    (case hz_int => k_is)
    (case hz_isinstance => k_is)
    (case hz_len => k_is)
    (case hz_list => k_is)
    (case hz_max => k_is)
    (case hz_range => k_is)
    (case hz_sorted => k_is)
    (case hz_tuple => k_is)
    (case hoc_get => first | rfl | k_is)
    (case hoc_tak => first | rfl | k_is)
