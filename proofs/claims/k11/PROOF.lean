import PyProof.Rows.All
import Wide.All
import OpenK.AllK
import Wide.FinOn
import PyProof.EqAt
import PyProof.EqKinds
import PyProof.TupleCall
import HandS.ForMost
import HandS.Walk
import HandS.Conv
import HandS.IsInst
import HandS.ForExc
import PySem.Challenge.RW_halfmeshes_k11_links_and_rounds

set_option Elab.async false
set_option linter.all false
set_option maxRecDepth 100000
set_option maxHeartbeats 4000000
namespace RD
open PySem PySem.Spec PyProof.Rows L2
section
variable {σ s : L2.St} {H : Hp} {Q : VK} {nx bk ct : L2.St → Hp → Prop} {rt : VK} {te ta tb tc : TE} {t u : TS} {c c2 : TT} {v x : V} {ox : Option V} {i : Nat} {QB : Bool → Hp → Prop}
theorem seq (h : t ⟨u ⟨nx, rt, bk, ct⟩, rt, bk, ct⟩ σ H) : tSeq t u ⟨nx, rt, bk, ct⟩ σ H := h
theorem asg {g : TG} (h : te σ H fun x H1 => g x σ H1 nx) : tAsg te g ⟨nx, rt, bk, ct⟩ σ H := h
theorem ret (h : te σ H rt) : tRet te ⟨nx, rt, bk, ct⟩ σ H := h
theorem retN (h : rt .non H) : tRetN ⟨nx, rt, bk, ct⟩ σ H := h
theorem drp (h : te σ H fun _ H1 => nx σ H1) : tDrop te ⟨nx, rt, bk, ct⟩ σ H := h
theorem ifs (h : c σ H fun b H1 => if b = true then t ⟨nx, rt, bk, ct⟩ σ H1 else u ⟨nx, rt, bk, ct⟩ σ H1) : tIfS c t u ⟨nx, rt, bk, ct⟩ σ H := h
theorem nxt (h : nx σ H) : tNext ⟨nx, rt, bk, ct⟩ σ H := h
theorem brk (h : bk σ H) : tBreak ⟨nx, rt, bk, ct⟩ σ H := h
theorem cnt (h : ct σ H) : tCont ⟨nx, rt, bk, ct⟩ σ H := h
theorem aug {ti : TIp} (h : tVar i σ H fun x _ => te σ H fun y H1 => ti x y H1 fun z H2 => gName i z σ H2 nx) : tAug i te ti ⟨nx, rt, bk, ct⟩ σ H := h
theorem gn0 {QG : L2.St → Hp → Prop} (h : QG (some v :: s) H) : gName 0 v (ox :: s) H QG := h
theorem gnS {QG : L2.St → Hp → Prop} (h : gName i v s H fun s' H' => QG (ox :: s') H') : gName (i + 1) v (ox :: s) H QG := h
theorem var0 (h : Q v H) : tVar 0 (some v :: s) H Q := ⟨v, rfl, h⟩
theorem varS (h : tVar i s H Q) : tVar (i + 1) (ox :: s) H Q := by
  obtain ⟨v, e, q⟩ := h
  exact ⟨v, by simpa using e, q⟩
theorem cst (h : Q v H) : tC v σ H Q := h
theorem op {r : R2} (h : ta σ H fun x H1 => tb σ H1 fun y H2 => r x y H2 Q) : tOp r ta tb σ H Q := h
theorem un {r : V → Hp → VK → Prop} (h : ta σ H fun x H1 => r x H1 Q) : tUn r ta σ H Q := h
theorem i0 {g : Int → Int → V} {a b : Int} (h : Q (g a b) H) : rI0 g (.int a) (.int b) H Q := ⟨a, b, rfl, rfl, h⟩
theorem iC {C : Int → Int → Prop} {g : Int → Int → V} {a b : Int} (hc : C a b) (h : Q (g a b) H) : rI C g (.int a) (.int b) H Q := ⟨a, b, rfl, rfl, hc, h⟩
theorem u0 {g : Int → V} {a : Int} (h : Q (g a) H) : rU g (.int a) H Q := ⟨a, rfl, h⟩
theorem dI {a b : Int} : decide (V.int a = V.int b) = decide (a = b) := by
  by_cases e : a = b
  · rw [decide_eq_true e, e, decide_eq_true rfl]
  · rw [decide_eq_false e, decide_eq_false fun z => e (V.int.inj z)]
theorem dB {a b : Bool} : decide (V.bl a = V.bl b) = decide (a = b) := by
  by_cases e : a = b
  · rw [decide_eq_true e, e, decide_eq_true rfl]
  · rw [decide_eq_false e, decide_eq_false fun z => e (V.bl.inj z)]
theorem dS {a b : Str} : decide (V.str a = V.str b) = decide (a = b) := by
  by_cases e : a = b
  · rw [decide_eq_true e, e, decide_eq_true rfl]
  · rw [decide_eq_false e, decide_eq_false fun z => e (V.str.inj z)]
theorem eqI {a b : Int} (h : Q (.bl (decide (a = b))) H) : rEq (.int a) (.int b) H Q := ⟨rfl, by rw [dI]; exact h⟩
theorem neI {a b : Int} (h : Q (.bl (!decide (a = b))) H) : rNe (.int a) (.int b) H Q := ⟨rfl, by rw [dI]; exact h⟩
theorem eqB {a b : Bool} (h : Q (.bl (decide (a = b))) H) : rEq (.bl a) (.bl b) H Q := ⟨rfl, by rw [dB]; exact h⟩
theorem neB {a b : Bool} (h : Q (.bl (!decide (a = b))) H) : rNe (.bl a) (.bl b) H Q := ⟨rfl, by rw [dB]; exact h⟩
theorem eqS {a b : Str} (h : Q (.bl (decide (a = b))) H) : rEq (.str a) (.str b) H Q := ⟨rfl, by rw [dS]; exact h⟩
theorem neS {a b : Str} (h : Q (.bl (!decide (a = b))) H) : rNe (.str a) (.str b) H Q := ⟨rfl, by rw [dS]; exact h⟩
theorem tst (h : te σ H fun x H' => ∃ k, x = .bl k ∧ QB k H') : tTest te σ H QB := h
theorem tb' (h : te σ H fun x H' => ∃ k, x = .bl k ∧ QB k H') : tB te σ H QB := h
theorem exb {b : Bool} {P : Bool → Prop} (h : P b) : ∃ k, V.bl b = .bl k ∧ P k := ⟨b, rfl, h⟩
theorem and (h : c σ H fun b H1 => if b = true then c2 σ H1 QB else QB false H1) : tAnd c c2 σ H QB := h
theorem or (h : c σ H fun b H1 => if b = true then QB true H1 else c2 σ H1 QB) : tOr c c2 σ H QB := h
theorem not (h : c σ H fun b H1 => QB (!b) H1) : tNot c σ H QB := h
theorem andV (h : ta σ H fun x H1 => ∃ k, x = .bl k ∧ if k = true then tb σ H1 Q else Q (.bl false) H1) : tAndV ta tb σ H Q := h
theorem orV (h : ta σ H fun x H1 => ∃ k, x = .bl k ∧ if k = true then Q (.bl true) H1 else tb σ H1 Q) : tOrV ta tb σ H Q := h
theorem notV (h : ta σ H fun x H1 => ∃ k, x = .bl k ∧ Q (.bl (!k)) H1) : tNotV ta σ H Q := h
theorem tif (h : c σ H fun b H1 => if b = true then ta σ H1 Q else tb σ H1 Q) : tIf c ta tb σ H Q := h
theorem yes (h : QB true H) : tYes σ H QB := h
theorem chain {r r' : R2} (h : ta σ H fun x H1 => tb σ H1 fun y H2 => r x y H2 fun z H3 => ∃ k, z = .bl k ∧ (if k = true then tc σ H3 fun w' H4 => r' y w' H4 Q else Q (.bl false) H3)) : tChain r r' ta tb tc σ H Q := h
theorem nil {QA : List V → Hp → Prop} (h : QA [] H) : tNil σ H QA := h
theorem cons {QA : List V → Hp → Prop} {tr : TA} (h : ta σ H fun x H1 => tr σ H1 fun xs H2 => QA (x :: xs) H2) : tCons ta tr σ H QA := h
theorem cb {r : List V → Hp → VK → Prop} {tr : TA} (h : tr σ H fun vs H1 => r vs H1 Q) : tCB r tr σ H Q := h
theorem call {sp : Sp} {dvs : List V} {E : XK} {tr : TA} (h : tr σ H fun vs H1 => sp (vs ++ dvs) H1 Q E) : tCall sp dvs E tr σ H Q := h
theorem tup {tr : TA} (h : tr σ H fun xs H1 => xs.length ≤ sizeLine ∧ ∀ p, H1 p = none → Q (.ref p) (upd H1 p (.tup xs))) : tTup tr σ H Q := h
theorem lst {tr : TA} (h : tr σ H fun xs H1 => xs.length ≤ sizeLine ∧ ∀ p, H1 p = none → Q (.ref p) (upd H1 p (.lst xs))) : tLst tr σ H Q := h
theorem sl {r : V → Option Int → Option Int → Hp → VK → Prop} {tl th : TO} (h : te σ H fun x H1 => tl σ H1 fun l H2 => th σ H2 fun u H3 => r x l u H3 Q) : L2.tSl r te tl th σ H Q := h
theorem nop {QO : Option Int → Hp → Prop} (h : QO none H) : tNoPart σ H QO := h
theorem prt {QO : Option Int → Hp → Prop} (h : te σ H fun x H1 => ∃ i, x = .int i ∧ QO (some i) H1) : tPart te σ H QO := h
theorem exi {a : Int} {P : Int → Prop} (h : P a) : ∃ k, V.int a = .int k ∧ P k := ⟨a, rfl, h⟩
theorem bm {K : PySem.W.Frag} {Ty : String} {r : V → List V → Hp → VK → Prop} {tr : TA} (h : te σ H fun x H1 => tyV K Ty x H1 ∧ tr σ H1 fun xs H2 => r x xs H2 Q) : tBM K Ty r te tr σ H Q := h
theorem bm0 {K : PySem.W.Frag} {Ty : String} {r : V → List V → Hp → VK → Prop} (h : te σ H fun x H1 => tyV K Ty x H1 ∧ r x [] H1 Q) : tBM0 K Ty r te σ H Q := h
theorem fld {K : PySem.W.Frag} {f : Str} (h : ta σ H fun x H1 => ∃ a C dx fs v, x = .ref a ∧ H1 a = some (.ins C dx fs) ∧ Cls K C ∧ NoAttr K C f ∧ fs.lookup f = some v ∧ Q v H1) : tFld K ta f σ H Q := h
theorem meth {C : Addr} {m : Str} {sp : Sp} {dvs : List V} {E : XK} {tr : TA} (h : ta σ H fun x H1 => ∃ a dx fs, x = .ref a ∧ H1 a = some (.ins C dx fs) ∧ fs.lookup m = none ∧ tr σ H1 fun vs H2 => sp (x :: (vs ++ dvs)) H2 Q E) : tMeth C m sp dvs E ta tr σ H Q := h
def MKE (C : Addr) (sp : Sp) (dvs : List V) (E : XK) (vs : List V) (H1 : Hp) (Q : VK) : Prop := ∀ x dx, H1 x = none → H1 dx = none → dx ≠ x → sp (.ref x :: (vs ++ dvs)) (upd (upd H1 dx (.own x)) x (.ins C dx [])) (fun v H2 => v = .non ∧ Q (.ref x) H2) E
theorem make {C : Addr} {sp : Sp} {dvs : List V} {E : XK} {tr : TA} (h : tr σ H fun vs H1 => MKE C sp dvs E vs H1 Q) : tMake C sp dvs E tr σ H Q := h
theorem dput {td ty tv : TE} (h : tv σ H fun v H1 => td σ H1 fun x H2 => ty σ H2 fun y H3 => ∃ a H4, x = .ref a ∧ DPut H3 a y v H4 ∧ nx σ H4) : sDPut td ty tv ⟨nx, rt, bk, ct⟩ σ H := h
theorem dget {td ty : TE} (h : td σ H fun x H1 => ty σ H1 fun y H2 => ∃ a v, x = .ref a ∧ DGet H2 a y (some v) ∧ Q v H2) : tDGet td ty σ H Q := h
theorem din {td ty : TE} (h : ty σ H fun y H1 => td σ H1 fun x H2 => ∃ a o, x = .ref a ∧ DGet H2 a y o ∧ Q (.bl o.isSome) H2) : tDIn ty td σ H Q := h
theorem dnin {td ty : TE} (h : ty σ H fun y H1 => td σ H1 fun x H2 => ∃ a o, x = .ref a ∧ DGet H2 a y o ∧ Q (.bl (!o.isSome)) H2) : tDNotIn ty td σ H Q := h
theorem dnew (h : ∀ p, H p = none → Q (.ref p) (upd H p (.dK []))) : tDNewK σ H Q := h
theorem sfld {K : PySem.W.Frag} {tv : TE} {f : Str} (h : tv σ H fun y H1 => ta σ H1 fun x H2 => ∃ a C dx fs, x = .ref a ∧ H2 a = some (.ins C dx fs) ∧ Cls K C ∧ NoAttr K C f ∧ fs.length < 1000 ∧ nx σ (upd H2 a (.ins C dx (putF f y fs)))) : sFld K ta tv f ⟨nx, rt, bk, ct⟩ σ H := h
theorem lrg {tr : L2.St → Hp → (Int → Int → Hp → Prop) → Prop} (h : tr σ H fun a b H1 => RgOk a b ∧ ∀ q, H1 q = none → Q (.ref q) (upd H1 q (.lst (rgV a b)))) : tLstRg tr σ H Q := h
theorem rg1 {QR : Int → Int → Hp → Prop} (h : ta σ H fun x H1 => ∃ n, x = .int n ∧ QR 0 n H1) : tRg1 ta σ H QR := h
theorem dgetK {a : Addr} {kvs : List (Key × V)} {n : Int} {v : V} (h : H a = some (.dK kvs)) (hv : valV kvs (Sum.inl n : Key) = some v) (q : Q v H) : ∃ a' v', V.ref a = .ref a' ∧ DGet H a' (.int n) (some v') ∧ Q v' H := ⟨a, v, rfl, by rw [← hv]; exact DGet.k (k := Sum.inl n) h, q⟩
theorem rep {a : Addr} {xs : List V} {k : Int} (h : H a = some (.lst xs)) (h1 : -1000000 ≤ k) (h2 : k ≤ 1000000) (hl : xs.length * k.toNat ≤ sizeLine) (q : ∀ p, H p = none → Q (.ref p) (upd H p (.lst (List.replicate k.toNat xs).flatten))) : rRep (.ref a) (.int k) H Q := ⟨a, k, xs, rfl, rfl, h, by omega, by omega, hl, q⟩
/-! tests -/
theorem bT {A B : Prop} (h : A) : if true = true then A else B := iteT h
theorem bF {A B : Prop} (h : B) : if false = true then A else B := iteF h
theorem dec {p A B : Prop} [Decidable p] (h1 : p → A) (h2 : ¬ p → B) : if decide p = true then A else B := ite2 (fun e => h1 (of_decide_eq_true e)) fun e => h2 fun z => e (decide_eq_true z)
theorem ndec {p A B : Prop} [Decidable p] (h1 : ¬ p → A) (h2 : p → B) : if (!decide p) = true then A else B := by
  by_cases e : p
  · rw [decide_eq_true e]; exact iteF (h2 e)
  · rw [decide_eq_false e]; exact iteT (h1 e)
theorem decT {p A B : Prop} [Decidable p] (e : p) (h : A) : if decide p = true then A else B := by rw [decide_eq_true e]; exact iteT h
theorem decF {p A B : Prop} [Decidable p] (e : ¬ p) (h : B) : if decide p = true then A else B := by rw [decide_eq_false e]; exact iteF h
theorem ndT {p A B : Prop} [Decidable p] (e : ¬ p) (h : A) : if (!decide p) = true then A else B := by rw [decide_eq_false e]; exact iteT h
theorem ndF {p A B : Prop} [Decidable p] (e : p) (h : B) : if (!decide p) = true then A else B := by rw [decide_eq_true e]; exact iteF h
/-! what is read by values -/
theorem ixL {K : PySem.W.Frag} {a : Addr} {xs : List V} {k : Int} (h : SqL K H a xs) (ha : atI xs k = some v) (q : Q v H) : rIxL K (.ref a) (.int k) H Q := ⟨a, xs, k, v, rfl, rfl, h, ha, q⟩
theorem ixT {K : PySem.W.Frag} {a : Addr} {xs : List V} {k : Int} (h : SqT K H a xs) (ha : atI xs k = some v) (q : Q v H) : rIxT K (.ref a) (.int k) H Q := ⟨a, xs, k, v, rfl, rfl, h, ha, q⟩
theorem setL {a : Addr} {xs : List V} {k : Int} {j : Nat} {QH : Hp → Prop} (h : H a = some (.lst xs)) (hk : ixN xs.length k = some j) (q : QH (upd H a (.lst (xs.set j v)))) : rSetL (.ref a) (.int k) v H QH := ⟨a, xs, k, j, rfl, rfl, h, hk, q⟩
theorem gsub {to ti : TE} {ts : TSet} {QG : L2.St → Hp → Prop} (h : to σ H fun o H1 => ti σ H1 fun i H2 => ts o i v H2 fun H3 => QG σ H3) : gSub to ti ts v σ H QG := h
theorem app {a : Addr} {xs : List V} {y : V} (h : H a = some (.lst xs)) (hl : xs.length < sizeLine) (q : Q .non (upd H a (.lst (xs ++ [y])))) : rAppend (.ref a) [y] H Q := ⟨a, xs, y, rfl, rfl, h, hl, q⟩
theorem cat {a b : Addr} {xs ys : List V} (h : H a = some (.lst xs)) (h' : H b = some (.lst ys)) (hl : xs.length + ys.length ≤ sizeLine) (q : ∀ p, H p = none → Q (.ref p) (upd H p (.lst (xs ++ ys)))) : rCat (.ref a) (.ref b) H Q := ⟨a, b, xs, ys, rfl, rfl, h, h', hl, q⟩
theorem slL {K : PySem.W.Frag} {a : Addr} {xs : List V} {lo hi : Option Int} (h : SqL K H a xs) (q : ∀ p, H p = none → Q (.ref p) (upd H p (.lst (cutV xs lo hi)))) : rSlL K (.ref a) lo hi H Q := ⟨a, xs, rfl, h, q⟩
theorem min1 {K : PySem.W.Frag} {a : Addr} {ns : List Int} (h : SqL K H a (ns.map V.int)) (h0 : 0 < ns.length) (q : ∀ m, m ∈ ns → (∀ y, y ∈ ns → m ≤ y) → Q (.int m) H) : rMin K [.ref a] H Q := ⟨a, ns, rfl, h, h0, q⟩
theorem eqD {K : PySem.W.Frag} {x y : V} {d e : PyData} (h1 : Dp K H x d) (h2 : Dp K H y e) (s1 : SeqAt.shaped d = true) (s2 : SeqAt.shaped e = true) (q : Q (.bl (PyData.eqv d e)) H) : rEqD K x y H Q := ⟨d, e, h1, h2, s1, s2, q⟩
theorem neD {K : PySem.W.Frag} {x y : V} {d e : PyData} (h1 : Dp K H x d) (h2 : Dp K H y e) (s1 : SeqAt.shaped d = true) (s2 : SeqAt.shaped e = true) (q : Q (.bl (!PyData.eqv d e)) H) : rNeD K x y H Q := ⟨d, e, h1, h2, s1, s2, q⟩
theorem tyL {K : PySem.W.Frag} {a : Addr} {xs : List V} (h : SqL K H a xs) : tyV K "list" (.ref a) H := Or.inl ⟨rfl, _, h⟩
theorem gtup2 {K : PySem.W.Frag} {i j : Nat} {T : Addr} {x y : V} {QG : L2.St → Hp → Prop} (h : SqT K H T [x, y]) (q : gName i x σ H fun σ1 H1 => gName j y σ1 H1 QG) : gTup K 2 (gCons (gName i) (gCons (gName j) gNil)) (.ref T) σ H QG := ⟨T, [x, y], rfl, h, rfl, x, [y], rfl, y, [], rfl, rfl, q⟩
/-! loops -/
theorem whl (W : Nat → L2.St → Hp → Prop) (m : Nat) (h0 : W m σ H) (hs : ∀ m σ H, W m σ H → c σ H fun b H1 => if b = true then ∃ N : L2.St → Hp → Prop, (∀ σ' H', N σ' H' → ∃ m', m' < m ∧ W m' σ' H') ∧ t ⟨N, rt, nx, N⟩ σ H1 else nx σ H1) : tWhile c t ⟨nx, rt, bk, ct⟩ σ H := ⟨W, ⟨m, h0⟩, hs⟩
theorem wN {m : Nat} {W : Nat → L2.St → Hp → Prop} (h : t ⟨fun σ' H' => ∃ m', m' < m ∧ W m' σ' H', rt, nx, fun σ' H' => ∃ m', m' < m ∧ W m' σ' H'⟩ σ H) : ∃ N : L2.St → Hp → Prop, (∀ σ' H', N σ' H' → ∃ m', m' < m ∧ W m' σ' H') ∧ t ⟨N, rt, nx, N⟩ σ H := ⟨_, fun _ _ h => h, h⟩
def FR (J : It) (g : TG) (t : TS) (nx : L2.St → Hp → Prop) (rt : VK) (σ : L2.St) (H : Hp) : Prop := ∃ W : Nat → Nat → L2.St → Hp → Prop, (∃ m, W 0 m σ H) ∧ ∀ i m σ H, W i m σ H →
  (J.stop i H ∧ nx σ H) ∨ (J.go i H ∧ ∃ N : L2.St → Hp → Prop, (∀ σ' H', N σ' H' → ∃ m', m' < m ∧ W (i + 1) m' σ' H') ∧ ∀ x H', J.yld i H x H' → g x σ H' fun σ2 H2 => t ⟨N, rt, nx, N⟩ σ2 H2)
def LR (J : It) (g : TG) (tt : TT) (te : TE) (vs : List Nat) (σ : L2.St) (H : Hp) (Q : VK) : Prop := ∀ D, H D = none → ∃ W : Nat → Nat → Hp → Prop, (∃ m, W 0 m (upd H D (.lst []))) ∧ ∀ i m H, W i m H →
  (J.stop i H ∧ Q (.ref D) H) ∨ (J.go i H ∧ ∃ Nx : Hp → Prop, (∀ H', Nx H' → ∃ m', m' < m ∧ W (i + 1) m' H') ∧ ∀ x H', J.yld i H x H' → g x (wipe σ vs) H' fun σ2 H2 => wipe σ2 vs = wipe σ vs ∧ tt σ2 H2 fun b H3 =>
    if b = true then te σ2 H3 fun y H4 => ∃ acc, H4 D = some (.lst acc) ∧ acc.length < sizeLine ∧ Nx (upd H4 D (.lst (acc ++ [y]))) else Nx H3)
theorem for_ {wi : TI} {g : TG} (h : wi σ H fun J H1 => FR J g t nx rt σ H1) : tFor wi g t ⟨nx, rt, bk, ct⟩ σ H := h
theorem lc_ {wi : TI} {g : TG} {tt : TT} {vs : List Nat} (h : wi σ H fun J H1 => LR J g tt te vs σ H1 Q) : tLc wi g tt te vs σ H Q := h
theorem iL {K : PySem.W.Frag} {R : It → Hp → Prop} (h : te σ H fun x H1 => ∃ a, x = .ref a ∧ (∃ xs, SqL K H1 a xs) ∧ R (Itl K a) H1) : iList K te σ H R := h
theorem iT {K : PySem.W.Frag} {R : It → Hp → Prop} (h : te σ H fun x H1 => ∃ a, x = .ref a ∧ (∃ xs, SqT K H1 a xs) ∧ R (Itt K a) H1) : iTup K te σ H R := h
theorem iR1 {tr : TA} {R : It → Hp → Prop} (h : tr σ H fun vs H1 => ∃ j : Int, vs = [.int j] ∧ -(2 ^ 62) ≤ j ∧ j < 2 ^ 62 ∧ R (Itr 0 j.toNat) H1) : iRng1 tr σ H R := h
theorem iR2 {tr : TA} {R : It → Hp → Prop} (h : tr σ H fun vs H1 => ∃ i j : Int, vs = [.int i, .int j] ∧ (-(2 ^ 62) ≤ i ∧ i < 2 ^ 62 ∧ -(2 ^ 62) ≤ j ∧ j < 2 ^ 62) ∧ R (Itr i (j - i).toNat) H1) : iRng2 tr σ H R := h
theorem iE {K : PySem.W.Frag} {tr : TA} {R : It → Hp → Prop} (h : tr σ H fun vs H1 => ∃ a xs, vs = [.ref a] ∧ SqL K H1 a xs ∧ R (Ite K a) H1) : iEnum K tr σ H R := h
theorem iZ {K : PySem.W.Frag} {tr : TA} {R : It → Hp → Prop} (h : tr σ H fun vs H1 => ∃ a b xs ys, vs = [.ref a, .ref b] ∧ SqL K H1 a xs ∧ SqL K H1 b ys ∧ R (Itz K a b) H1) : iZip K tr σ H R := h
theorem iS {R : It → Hp → Prop} (h : te σ H fun v H1 => ∃ x, v = .str x ∧ R (Its x) H1) : iStr te σ H R := h
theorem goL {K : PySem.W.Frag} {g : TG} {a : Addr} {xs : List V} (hq : SqL K H a xs) (Pv : Nat → L2.St → Hp → Prop) (h0 : Pv 0 σ H) (hG : ∀ i σ H, i ≤ xs.length → Pv i σ H → SqL K H a xs)
    (turn : ∀ i x σ H, xs[i]? = some x → Pv i σ H → g x σ H fun σ2 H2 => t ⟨Pv (i + 1), rt, nx, Pv (i + 1)⟩ σ2 H2) (hd : ∀ σ H, Pv xs.length σ H → nx σ H) :
    ∃ a', V.ref a = .ref a' ∧ (∃ ys, SqL K H a' ys) ∧ FR (Itl K a') g t nx rt σ H := ⟨a, rfl, ⟨_, hq⟩, for_list (D := ⟨nx, rt, nx, nx⟩) Pv h0 hG turn hd⟩
theorem goT {K : PySem.W.Frag} {g : TG} {a : Addr} {xs : List V} (hq : SqT K H a xs) (Pv : Nat → L2.St → Hp → Prop) (h0 : Pv 0 σ H) (hG : ∀ i σ H, i ≤ xs.length → Pv i σ H → SqT K H a xs)
    (turn : ∀ i x σ H, xs[i]? = some x → Pv i σ H → g x σ H fun σ2 H2 => t ⟨Pv (i + 1), rt, nx, Pv (i + 1)⟩ σ2 H2) (hd : ∀ σ H, Pv xs.length σ H → nx σ H) :
    ∃ a', V.ref a = .ref a' ∧ (∃ ys, SqT K H a' ys) ∧ FR (Itt K a') g t nx rt σ H := ⟨a, rfl, ⟨_, hq⟩, for_tup (D := ⟨nx, rt, nx, nx⟩) Pv h0 hG turn hd⟩
theorem goR {g : TG} {z : Int} {n : Nat} (hz : z.toNat = n) (hz2 : z < 1000000000) (hz1 : -1000000000 < z) (Pv : Nat → L2.St → Hp → Prop) (h0 : Pv 0 σ H)
    (turn : ∀ i σ H, i < n → Pv i σ H → g (.int (i : Nat)) σ H fun σ2 H2 => t ⟨Pv (i + 1), rt, nx, Pv (i + 1)⟩ σ2 H2) (hd : ∀ σ H, Pv n σ H → nx σ H) :
    ∃ j : Int, [V.int z] = [.int j] ∧ -(2 ^ 62) ≤ j ∧ j < 2 ^ 62 ∧ FR (Itr 0 j.toNat) g t nx rt σ H := by
  subst hz
  refine ⟨z, rfl, by omega, by omega, for_range (D := ⟨nx, rt, nx, nx⟩) Pv h0 (fun i σ H hi hp => ?_) hd⟩
  have e : (0 + (i : Int)) = ((i : Nat) : Int) := by omega
  rw [e]
  exact turn i σ H hi hp
theorem goR2 {g : TG} {y z : Int} {n : Nat} (hz : (z - y).toNat = n) (hb : -1000000000 < y ∧ y < 1000000000 ∧ -1000000000 < z ∧ z < 1000000000) (Pv : Nat → L2.St → Hp → Prop) (h0 : Pv 0 σ H)
    (turn : ∀ i σ H, i < n → Pv i σ H → g (.int (y + i)) σ H fun σ2 H2 => t ⟨Pv (i + 1), rt, nx, Pv (i + 1)⟩ σ2 H2) (hd : ∀ σ H, Pv n σ H → nx σ H) :
    ∃ i j : Int, [V.int y, V.int z] = [.int i, .int j] ∧ (-(2 ^ 62) ≤ i ∧ i < 2 ^ 62 ∧ -(2 ^ 62) ≤ j ∧ j < 2 ^ 62) ∧ FR (Itr i (j - i).toNat) g t nx rt σ H := by
  subst hz
  exact ⟨y, z, rfl, ⟨by omega, by omega, by omega, by omega⟩, for_range (D := ⟨nx, rt, nx, nx⟩) Pv h0 turn hd⟩
theorem goE {K : PySem.W.Frag} {g : TG} {a : Addr} {xs : List V} (hq : SqL K H a xs) (Pv : Nat → L2.St → Hp → Prop) (h0 : Pv 0 σ H) (hG : ∀ i σ H, i ≤ xs.length → Pv i σ H → SqL K H a xs)
    (turn : ∀ i x σ H T, xs[i]? = some x → Pv i σ H → H T = none → g (.ref T) σ (upd H T (.tup [.int (i : Nat), x])) fun σ2 H2 => t ⟨Pv (i + 1), rt, nx, Pv (i + 1)⟩ σ2 H2) (hd : ∀ σ H, Pv xs.length σ H → nx σ H) :
    ∃ a' ys, [V.ref a] = [.ref a'] ∧ SqL K H a' ys ∧ FR (Ite K a') g t nx rt σ H := by
  refine ⟨a, xs, rfl, hq, for_it (D := ⟨nx, rt, nx, nx⟩) walk_enum Pv h0 hG (fun i x σ H H' hi hp y => ?_) hd⟩
  obtain ⟨T, x1, x2, rfl, hT, rfl, e1, e2⟩ := y
  cases e1
  exact turn i x2 σ H T e2 hp hT
/-! a new list by a comprehension -/
theorem same_new {H : Hp} {p : Addr} {o : HO} (h : H p = none) : Same H (upd H p o) := fun b x e => by
  rw [upd_ne (ne_of_none e h)]
  exact e
theorem same_mut {H H' : Hp} {p : Addr} {o : HO} (e : Same H H') (h : H p = none) : Same H (upd H' p o) := fun a u ha => by
  rw [upd_ne (ne_of_none ha h)]
  exact e a u ha
/-- what a comprehension collects: f of the items that pass p -/
def pick {α β : Type} (p : α → Bool) (f : α → β) : List α → List β
  | [] => []
  | a :: r => if p a = true then f a :: pick p f r else pick p f r
theorem pick_app {α β : Type} {p : α → Bool} {f : α → β} : ∀ (l r : List α), pick p f (l ++ r) = pick p f l ++ pick p f r
  | [], r => rfl
  | a :: l, r => by
    show (if p a = true then f a :: pick p f (l ++ r) else pick p f (l ++ r)) = (if p a = true then f a :: pick p f l else pick p f l) ++ pick p f r
    rw [pick_app l r]
    by_cases h : p a = true
    · rw [if_pos h, if_pos h]; rfl
    · rw [if_neg h, if_neg h]
theorem pick_len {α β : Type} {p : α → Bool} {f : α → β} : ∀ (l : List α), (pick p f l).length ≤ l.length
  | [] => Nat.le_refl _
  | a :: l => by
    show (if p a = true then f a :: pick p f l else pick p f l).length ≤ l.length + 1
    have := pick_len (p := p) (f := f) l
    by_cases h : p a = true
    · rw [if_pos h, List.length_cons]; omega
    · rw [if_neg h]; omega
theorem pick_all {α β : Type} {p : α → Bool} {f : α → β} (h : ∀ a, p a = true) : ∀ (l : List α), pick p f l = l.map f
  | [] => rfl
  | a :: l => by
    show (if p a = true then f a :: pick p f l else pick p f l) = f a :: l.map f
    rw [if_pos (h a), pick_all h l]
theorem pick_filter {α β : Type} {p : α → Bool} {f : α → β} : ∀ (l : List α), pick p f l = (l.filter p).map f
  | [] => rfl
  | a :: l => by
    show (if p a = true then f a :: pick p f l else pick p f l) = _
    by_cases h : p a = true
    · rw [if_pos h, List.filter_cons_of_pos h, List.map_cons, pick_filter l]
    · rw [if_neg h, List.filter_cons_of_neg h, pick_filter l]
theorem take_one {α : Type} {l : List α} {i : Nat} {x : α} (h : l[i]? = some x) : l.take (i + 1) = l.take i ++ [x] := by
  rw [List.take_add_one, h]; rfl
theorem lcAny {J : It} {g : TG} {tt : TT} {vs : List Nat} {n : Nat} {G : Hp → Prop} {Y : Nat → Hp → V → Hp → Prop} (w : Walk J n G Y) {α : Type} (al : List α) (hal : al.length = n) (hsz : n ≤ sizeLine) (p : α → Bool) (f : α → V) (h0G : G H) (hGs : ∀ H', Same H H' → G H')
    (hY : ∀ i H1 x H2, Same H H1 → Y i H1 x H2 → Same H1 H2)
    (turn : ∀ i a x H1 H2 (Q' : VK) (R' : Hp → Prop), al[i]? = some a → Same H H1 → Y i H1 x H2 → (p a = true → ∀ H4, Same H2 H4 → Q' (f a) H4) → (p a = false → ∀ H4, Same H2 H4 → R' H4) →
      g x (wipe σ vs) H2 fun σ2 H3 => wipe σ2 vs = wipe σ vs ∧ tt σ2 H3 fun b H5 => if b = true then te σ2 H5 Q' else R' H5)
    (hd : ∀ H' q, H q = none → Same H H' → H' q = some (.lst (pick p f al)) → Q (.ref q) H') : LR J g tt te vs σ H Q := by
  intro D hD
  refine lc_it w (fun i H1 => Same H H1 ∧ H1 D = some (.lst (pick p f (al.take i)))) ⟨same_new hD, by rw [upd_same]; rfl⟩ (fun i H1 _ hp => hGs _ hp.1) (fun i x H1 H2 hi hp y => ?_) (fun H1 hp => ?_)
  · have hi' : i < al.length := by omega
    have ga : al[i]? = some al[i] := List.getElem?_eq_getElem hi'
    have sm := hY i H1 x H2 hp.1 y
    refine turn i al[i] x H1 H2 _ _ ga hp.1 y (fun ht H4 s4 => ?_) (fun hf H4 s4 => ?_)
    · have e4 : H4 D = some (.lst (pick p f (al.take i))) := s4 _ _ (sm _ _ hp.2)
      refine ⟨_, e4, ?_, same_mut ((hp.1.trans sm).trans s4) hD, ?_⟩
      · have := pick_len (p := p) (f := f) (al.take i)
        rw [List.length_take] at this
        exact Nat.lt_of_lt_of_le (Nat.lt_of_le_of_lt this (by omega : min i al.length < n)) hsz
      · rw [upd_same, take_one ga, pick_app]
        show _ = some (HO.lst (_ ++ (if p al[i] = true then [f al[i]] else [])))
        rw [if_pos ht]
    · have e4 : H4 D = some (.lst (pick p f (al.take i))) := s4 _ _ (sm _ _ hp.2)
      refine ⟨(hp.1.trans sm).trans s4, ?_⟩
      rw [e4, take_one ga, pick_app]
      show _ = some (HO.lst (_ ++ (if p al[i] = true then [f al[i]] else [])))
      rw [if_neg (by rw [hf]; exact Bool.false_ne_true), List.append_nil]
  · have e := hp.2
    rw [← hal, List.take_length] at e
    exact hd H1 D hD hp.1 e
theorem lcL {K : PySem.W.Frag} {g : TG} {tt : TT} {vs : List Nat} {a : Addr} {xs : List V} (hq : SqL K H a xs) (hsz : xs.length ≤ sizeLine) (p : V → Bool) (f : V → V)
    (turn : ∀ (i : Nat) x H1 (Q' : VK) (R' : Hp → Prop), xs[i]? = some x → Same H H1 → (p x = true → ∀ H4, Same H1 H4 → Q' (f x) H4) → (p x = false → ∀ H4, Same H1 H4 → R' H4) →
      g x (wipe σ vs) H1 fun σ2 H3 => wipe σ2 vs = wipe σ vs ∧ tt σ2 H3 fun b H5 => if b = true then te σ2 H5 Q' else R' H5)
    (hd : ∀ H' q, H q = none → Same H H' → H' q = some (.lst (pick p f xs)) → Q (.ref q) H') :
    ∃ a', V.ref a = .ref a' ∧ (∃ ys, SqL K H a' ys) ∧ LR (Itl K a') g tt te vs σ H Q := by
  refine ⟨a, rfl, ⟨_, hq⟩, lcAny (walk_list (K := K) (a := a) (xs := xs)) xs rfl hsz p f hq (fun H' s => s.seq hq) (fun i H1 x H2 s y => ?_) (fun i b x H1 H2 Q' R' hb s y kT kF => ?_) hd⟩
  · obtain ⟨rfl, _⟩ := y
    exact Same.refl _
  · obtain ⟨rfl, y⟩ := y
    rw [y] at hb
    cases hb
    exact turn i b _ Q' R' y s kT kF
theorem lcR {g : TG} {tt : TT} {vs : List Nat} {z : Int} {n : Nat} (hz : z.toNat = n) (hz2 : z < 1000000) (hz1 : -1000000 < z) (p : Nat → Bool) (f : Nat → V)
    (turn : ∀ i H1 (Q' : VK) (R' : Hp → Prop), i < n → Same H H1 → (p i = true → ∀ H4, Same H1 H4 → Q' (f i) H4) → (p i = false → ∀ H4, Same H1 H4 → R' H4) →
      g (.int (i : Nat)) (wipe σ vs) H1 fun σ2 H3 => wipe σ2 vs = wipe σ vs ∧ tt σ2 H3 fun b H5 => if b = true then te σ2 H5 Q' else R' H5)
    (hd : ∀ H' q, H q = none → Same H H' → H' q = some (.lst (pick p f (List.range n))) → Q (.ref q) H') :
    ∃ j : Int, [V.int z] = [.int j] ∧ -(2 ^ 62) ≤ j ∧ j < 2 ^ 62 ∧ LR (Itr 0 j.toNat) g tt te vs σ H Q := by
  subst hz
  have hs : z.toNat ≤ sizeLine := Nat.le_trans (by omega : z.toNat ≤ 1000000) (by decide)
  refine ⟨z, rfl, by omega, by omega, lcAny (walk_range (lo := 0) (n := z.toNat)) (List.range z.toNat) (List.length_range) hs p f trivial (fun _ _ => trivial) (fun i H1 x H2 s y => ?_) (fun i b x H1 H2 Q' R' hb s y kT kF => ?_) hd⟩
  · obtain ⟨rfl, _⟩ := y
    exact Same.refl _
  · obtain ⟨rfl, rfl⟩ := y
    obtain ⟨hi, e⟩ := List.getElem?_eq_some_iff.mp hb
    rw [List.getElem_range] at e
    subst e
    rw [List.length_range] at hi
    have e : (0 + (i : Int)) = ((i : Nat) : Int) := by omega
    show g (V.int (0 + (i : Int))) _ _ _
    rw [e]
    exact turn i _ Q' R' hi s kT kF
end
end RD

namespace RD
open PySem PySem.Spec PyProof.Rows L2
/-! the layer's rules with the written part named K, their readings under a name -/
def rLen (K : PySem.W.Frag) : List V → Hp → VK → Prop := fun xs H Q => ∃ p ys, xs = [.ref p] ∧ (SqL K H p ys ∨ SqT K H p ys) ∧ Q (.int ys.length) H
def rLenD : List V → Hp → VK → Prop := fun xs H Q => ∃ a kvs, xs = [V.ref a] ∧ H a = some (.dK kvs) ∧ Q (.int kvs.length) H
def rLenS : List V → Hp → VK → Prop := fun xs H Q => ∃ z, xs = [.str z] ∧ z.length ≤ sizeLine ∧ Q (.int z.length) H
def rListOf (K : PySem.W.Frag) : List V → Hp → VK → Prop := fun xs H Q => ∃ p ys, xs = [.ref p] ∧ (SqL K H p ys ∨ SqT K H p ys) ∧ ∀ l, H l = none → Q (.ref l) (upd H l (.lst ys))
def rInt : List V → Hp → VK → Prop := fun xs H Q => (∃ i, xs = [.int i] ∧ Q (.int i) H) ∨ ∃ k, xs = [.bl k] ∧ Q (.int (if k then 1 else 0)) H
def rAbs : List V → Hp → VK → Prop := fun xs H Q => ∃ i, xs = [.int i] ∧ Q (.int (if i < 0 then -i else i)) H
def rMax2 : List V → Hp → VK → Prop := fun xs H Q => ∃ i j, xs = [.int i, .int j] ∧ Q (.int (if j > i then j else i)) H
def rMin2 : List V → Hp → VK → Prop := fun xs H Q => ∃ i j, xs = [.int i, .int j] ∧ Q (.int (if j < i then j else i)) H
def rStrI : List V → Hp → VK → Prop := fun xs H Q => ∃ i, xs = [.int i] ∧ i.natAbs.log2 < 1920 ∧ Q (.str (toString i)) H
def rIntS : List V → Hp → VK → Prop := fun xs H Q => ∃ a n, xs = [.str a] ∧ PySem.intText? a = some n ∧ a.length ≤ 640 ∧ Q (.int n) H
def tTru (K : PySem.W.Frag) (ta : TE) : TT := fun σ H Q => ta σ H fun x H' => ∃ k, TruV K x H' k ∧ Q k H'
section
variable {X : Cx} {K : PySem.W.Frag} {e o : Expr} {es : List Expr} {ta to tv te : TE} {tr : TA} {f name : Str} {pos apos cpos pos' p tpos : Pos} {Ty id : String} {r : V → List V → Hp → VK → Prop} {tg : Expr} {kk : Nat}
theorem k_len (h : X.K = K) : CallR X (.builtin "len") (rLen K) := by subst h; exact call_len_seq
theorem k_lenD : CallR X (.builtin "len") rLenD := call_lenD
theorem k_lenS : CallR X (.builtin "len") rLenS := call_len_str
theorem k_list (h : X.K = K) : CallR X (.type "list") (rListOf K) := by subst h; exact call_list_of
theorem k_int : CallR X (.type "int") rInt := call_int1
theorem k_abs : CallR X (.builtin "abs") rAbs := call_abs
theorem k_max2 (hc : X.calm = true) : CallR X (.builtin "max") rMax2 := call_max2 hc
theorem k_min2 (hc : X.calm = true) : CallR X (.builtin "min") rMin2 := call_min2 hc
theorem k_strI : CallR X (.type "str") rStrI := call_str_int
theorem k_intS : CallR X (.type "int") rIntS := call_int_str
theorem k_min (h : X.K = K) (hc : X.calm = true) : CallR X (.builtin "min") (rMin K) := by subst h; exact cr_min hc
theorem k_max (h : X.K = K) (hc : X.calm = true) : CallR X (.builtin "max") (rMax K) := by subst h; exact cr_max hc
theorem k_sum (h : X.K = K) (hc : X.calm = true) : CallR X (.builtin "sum") (rSum K) := by subst h; exact cr_sum hc
theorem k_any (h : X.K = K) (hc : X.calm = true) : CallR X (.builtin "any") (rAny K) := by subst h; exact cr_any hc
theorem k_all (h : X.K = K) (hc : X.calm = true) : CallR X (.builtin "all") (rAll K) := by subst h; exact cr_all hc
theorem k_sorted (h : X.K = K) : CallR X (.builtin "sorted") (rSorted K) := by subst h; exact cr_sorted
theorem k_isi (h : X.K = K) : CallR X (.builtin "isinstance") (rIsi K) := by subst h; exact call_isi
theorem k_ixL (h : X.K = K) : IxR X (rIxL K) := by subst h; exact ix_list
theorem k_ixT (h : X.K = K) : IxR X (rIxT K) := by subst h; exact ix_tup
theorem k_slL (h : X.K = K) : SlR X (rSlL K) := by subst h; exact sl_list
theorem k_slT (h : X.K = K) : SlR X (rSlT K) := by subst h; exact sl_tup
theorem k_in (h : X.K = K) : OpR X (compareOp .In) (rIn K false) := by subst h; exact op_in_seq
theorem k_notin (h : X.K = K) : OpR X (compareOp .NotIn) (rIn K true) := by subst h; exact op_notIn_seq
theorem k_eqD (h : X.K = K) (hu : X.A.units + 64 < cLine) : OpR X (compareOp .Eq) (rEqD K) := by subst h; exact op_eqD hu
theorem k_neD (h : X.K = K) (hu : X.A.units + 64 < cLine) : OpR X (compareOp .NotEq) (rNeD K) := by subst h; exact op_neD hu
theorem k_bm (h : X.K = K) (pa : PlainAttrs Ty) (slot : Slot Ty name id) (hty : typeOf (.builtin id) = pure (.type "method_descriptor")) (hm : MtR X id r) (ho : PE X o to) (ha : PA X (e :: es) tr)
    (hbase : attributeBase o name X.env (eval o X.env) = eval o X.env := by rfl)
    (hfew : ((backTo cpos (starEach (e :: es) X.env)).all (fun x => !x.1) && (backToKw cpos (keywordEach [] X.env)).all (fun x => x.1.isSome)
      && decide ((e :: es).length + ([] : List Keyword).length + (if ([] : List Keyword).isEmpty then 0 else 1) < 30)) = true := by rfl)
    (hline : (apos.endLine == cpos.line) = true := by rfl) (hs : starEach (e :: es) X.env = (false, eval e X.env) :: starEach es X.env := by rfl) (hplain : (backTo cpos (starEach es X.env)).any (·.1) = false := by rfl) :
    PE X (.Call (.Attribute o name apos) (e :: es) [] cpos) (tBM K Ty r to tr) := by subst h; exact pe_bm pa slot hty hm ho ha hbase hfew hline hs hplain
theorem k_bm0 (h : X.K = K) (pa : PlainAttrs Ty) (slot : Slot Ty name id) (hty : typeOf (.builtin id) = pure (.type "method_descriptor")) (hm : MtR X id r) (ho : PE X o to)
    (hbase : attributeBase o name X.env (eval o X.env) = eval o X.env := by rfl) (hline : (apos.endLine == cpos.line) = true := by rfl) : PE X (.Call (.Attribute o name apos) [] [] cpos) (tBM0 K Ty r to) := by subst h; exact pe_bm0 pa slot hty hm ho hbase hline
theorem k_fld (h : X.K = K) (he : PE X e ta) (hb : attributeBase e f X.env (eval e X.env) = eval e X.env) : PE X (.Attribute e f pos) (tFld K ta f) := by subst h; exact pe_fld he hb
theorem k_sfld {value : Expr} (h : X.K = K) (ha : PE X o ta) (hv : PE X value tv) (hs : swapsWith value (some (.Attribute o f pos')) pos.line X.env = pure false) : PS X (.Assign [.Attribute o f pos'] value pos) (sFld K ta tv f) := by subst h; exact ps_fld ha hv hs
theorem k_pil (h : X.K = K) (hl : PE X e ta) : PI X tg e (iList K ta) := by subst h; exact pi_list hl
theorem k_pit (h : X.K = K) (hl : PE X e ta) : PI X tg e (iTup K ta) := by subst h; exact pi_tup hl
theorem k_pie {elts : List Expr} (h : X.K = K) (hg : Gl X "enumerate") (hm : X.mg "enumerate" = none) (ha : PA X [e] tr) (hs : starEach [e] X.env = [(false, eval e X.env)] := by rfl) :
    PI X (.Tuple elts kk tpos) (.Call (.Name "enumerate" p) [e] [] pos) (iEnum K tr) := by subst h; exact pi_enum hg hm ha hs
theorem k_piz {e2 : Expr} {elts : List Expr} (h : X.K = K) (hg : Gl X "zip") (hm : X.mg "zip" = none) (ha : PA X [e, e2] tr)
    (hs : starEach [e, e2] X.env = (false, eval e X.env) :: starEach [e2] X.env := by rfl) (hpl : (backTo pos (starEach [e2] X.env)).any (·.1) = false := by rfl) :
    PI X (.Tuple elts kk tpos) (.Call (.Name "zip" p) [e, e2] [] pos) (iZip K tr) := by subst h; exact pi_zip hg hm ha hs hpl
theorem k_gtup {t : TGs} {n : Nat} (h : X.K = K) (hc : X.calm = true) (hp : PGs X es t)
    (hn : (assignEach es X.env).length = n := by rfl) (hst : (assignEach es X.env).findIdx? (·.1) = none := by rfl) : PG X (.Tuple es kk pos) (gTup K n t) := by subst h; exact pg_tup hc hp hn hst
theorem k_tru (h : X.K = K) (ha : PE X e ta) (he : ∀ whole, isTrue e X.env whole = (do let v ← whole; standAt e.pos; holding [v] (truthy v))) : PT X e (tTru K ta) := by subst h; exact pt_truth ha he
end
/-! their steps -/
section
variable {σ s : L2.St} {H : Hp} {Q : VK} {K : PySem.W.Frag} {a : Addr} {xs : List V} {n m : Int} {ta : TE} {QB : Bool → Hp → Prop}
theorem len (h : SqL K H a xs) (q : Q (.int xs.length) H) : rLen K [.ref a] H Q := ⟨a, xs, rfl, .inl h, q⟩
theorem lenT (h : SqT K H a xs) (q : Q (.int xs.length) H) : rLen K [.ref a] H Q := ⟨a, xs, rfl, .inr h, q⟩
theorem lenD {kvs : List (Key × V)} (h : H a = some (.dK kvs)) (q : Q (.int kvs.length) H) : rLenD [.ref a] H Q := ⟨a, kvs, rfl, h, q⟩
theorem lenS {z : Str} (h : z.length ≤ sizeLine) (q : Q (.int z.length) H) : rLenS [.str z] H Q := ⟨z, rfl, h, q⟩
theorem list (h : SqL K H a xs) (q : ∀ l, H l = none → Q (.ref l) (upd H l (.lst xs))) : rListOf K [.ref a] H Q := ⟨a, xs, rfl, .inl h, q⟩
theorem int1 (q : Q (.int n) H) : rInt [.int n] H Q := .inl ⟨n, rfl, q⟩
theorem abs1 (q : Q (.int (if n < 0 then -n else n)) H) : rAbs [.int n] H Q := ⟨n, rfl, q⟩
theorem max2 (q : Q (.int (if m > n then m else n)) H) : rMax2 [.int n, .int m] H Q := ⟨n, m, rfl, q⟩
theorem min2 (q : Q (.int (if m < n then m else n)) H) : rMin2 [.int n, .int m] H Q := ⟨n, m, rfl, q⟩
theorem strI (h : n.natAbs.log2 < 1920) (q : Q (.str (toString n)) H) : rStrI [.int n] H Q := ⟨n, rfl, h, q⟩
theorem tru (h : ta σ H fun x H' => ∃ k, TruV K x H' k ∧ QB k H') : tTru K ta σ H QB := h
theorem truL (h : SqL K H a xs) {P : Bool → Prop} (q : P (!xs.isEmpty)) : ∃ k, TruV K (.ref a) H k ∧ P k := ⟨_, .inl ⟨xs, h, rfl⟩, q⟩
theorem all1 {bs : List Bool} (h : SqL K H a (bs.map V.bl)) (q : Q (.bl (bs.all id)) H) : rAll K [.ref a] H Q := ⟨a, bs, rfl, h, q⟩
theorem any1 {bs : List Bool} (h : SqL K H a (bs.map V.bl)) (q : Q (.bl (bs.any id)) H) : rAny K [.ref a] H Q := ⟨a, bs, rfl, h, q⟩
theorem sort1 {ns : List Int} (h : SqL K H a (ns.map V.int)) (hl : ns.length < 64) (q : ∀ (ns' : List Int) (p : Addr), ns'.Perm ns → ns'.Pairwise (· ≤ ·) → H p = none → Q (.ref p) (upd H p (.lst (ns'.map V.int)))) : rSorted K [.ref a] H Q := ⟨a, ns, rfl, h, hl, q⟩
theorem isi {x c : V} {t u : Value} {b : Bool} (hc : ClsV c u) (ht : TyX K H x t) (hk : PySem.W.kitOne K t u = some b) (q : Q (.bl b) H) : rIsi K [x, c] H Q := ⟨x, c, t, u, b, rfl, hc, ht, hk, q⟩
theorem inL {x : V} (h : SqL K H a xs) (hx : flatV x = true) (ha : xs.all flatV = true) (q : Q (.bl (inV x xs)) H) : rIn K false x (.ref a) H Q := ⟨a, xs, rfl, .inl h, hx, ha, q⟩
theorem ninL {x : V} (h : SqL K H a xs) (hx : flatV x = true) (ha : xs.all flatV = true) (q : Q (.bl (!inV x xs)) H) : rIn K true x (.ref a) H Q := ⟨a, xs, rfl, .inl h, hx, ha, q⟩
end
end RD

namespace MM
/-! rounds of a permutation -/
def it (f : Nat → Nat) : Nat → Nat → Nat
  | 0, h => h
  | i + 1, h => f (it f i h)
theorem it_one (f : Nat → Nat) : ∀ i h, it f (i + 1) h = it f i (f h)
  | 0, h => rfl
  | i + 1, h => by
    show f (it f (i + 1) h) = f (it f i (f h))
    rw [it_one f i h]
theorem it_add (f : Nat → Nat) : ∀ i j h, it f (i + j) h = it f i (it f j h)
  | 0, j, h => by rw [Nat.zero_add]; rfl
  | i + 1, j, h => by
    rw [Nat.succ_add]
    show f (it f (i + j) h) = f (it f i (it f j h))
    rw [it_add f i j h]
structure PermOn (f : Nat → Nat) (n : Nat) : Prop where
  lt : ∀ x, x < n → f x < n
  inj : ∀ x y, x < n → y < n → f x = f y → x = y
section
variable {f : Nat → Nat} {n : Nat}
theorem PermOn.it_lt (p : PermOn f n) : ∀ i h, h < n → it f i h < n
  | 0, _, hh => hh
  | i + 1, h, hh => p.lt _ (p.it_lt i h hh)
theorem PermOn.it_inj (p : PermOn f n) : ∀ i x y, x < n → y < n → it f i x = it f i y → x = y
  | 0, _, _, _, _, e => e
  | i + 1, x, y, hx, hy, e => p.it_inj i x y hx hy (p.inj _ _ (p.it_lt i x hx) (p.it_lt i y hy) e)
theorem pigeon : ∀ (n : Nat) (g : Nat → Nat), (∀ i, i ≤ n → g i < n) → ∃ i j, i < j ∧ j ≤ n ∧ g i = g j
  | 0, g, h => absurd (h 0 (Nat.le_refl _)) (Nat.not_lt_zero _)
  | n + 1, g, h => by
    by_cases c : ∃ i, i ≤ n ∧ g i = g (n + 1)
    · obtain ⟨i, hi, e⟩ := c
      exact ⟨i, n + 1, by omega, Nat.le_refl _, e⟩
    · have c' : ∀ i, i ≤ n → g i ≠ g (n + 1) := fun i hi e => c ⟨i, hi, e⟩
      have hn := h (n + 1) (Nat.le_refl _)
      obtain ⟨i, j, hij, hj, e⟩ := pigeon n (fun i => if g i = n then g (n + 1) else g i) (fun i hi => by
        show (if g i = n then g (n + 1) else g i) < n
        by_cases q : g i = n
        · rw [if_pos q]
          have := c' i hi
          omega
        · rw [if_neg q]
          have := h i (by omega)
          omega)
      refine ⟨i, j, hij, by omega, ?_⟩
      have e' : (if g i = n then g (n + 1) else g i) = (if g j = n then g (n + 1) else g j) := e
      have ci := c' i (by omega)
      have cj := c' j hj
      by_cases qi : g i = n
      · by_cases qj : g j = n
        · rw [qi, qj]
        · rw [if_pos qi, if_neg qj] at e'
          exact absurd e'.symm cj
      · by_cases qj : g j = n
        · rw [if_neg qi, if_pos qj] at e'
          exact absurd e' ci
        · rw [if_neg qi, if_neg qj] at e'
          exact e'
theorem least {P : Nat → Prop} : ∀ k, P k → ∃ m, P m ∧ m ≤ k ∧ ∀ j, j < m → ¬ P j := by
  intro k
  induction k using Nat.strongRecOn with
  | ind k ih =>
    intro hk
    by_cases c : ∃ j, j < k ∧ P j
    · obtain ⟨j, hj, pj⟩ := c
      obtain ⟨m, pm, hm, hl⟩ := ih j hj pj
      exact ⟨m, pm, by omega, hl⟩
    · exact ⟨k, hk, Nat.le_refl _, fun j hj pj => c ⟨j, hj, pj⟩⟩
/-- the round of h has k members -/
structure Per (f : Nat → Nat) (h k : Nat) : Prop where
  pos : 0 < k
  back : it f k h = h
  least : ∀ j, 0 < j → j < k → it f j h ≠ h
theorem PermOn.per (p : PermOn f n) {h : Nat} (hh : h < n) : ∃ k, k ≤ n ∧ Per f h k := by
  obtain ⟨i, j, hij, hj, e⟩ := pigeon n (fun i => it f i h) fun i _ => p.it_lt i h hh
  have e2 : it f i h = it f i (it f (j - i) h) := by
    rw [← it_add]
    have : i + (j - i) = j := by omega
    rw [this]
    exact e
  have e3 : it f (j - i) h = h := (p.it_inj i _ _ hh (p.it_lt _ h hh) e2).symm
  obtain ⟨m, ⟨pm, bm⟩, hm, hl⟩ := MM.least (P := fun k => 0 < k ∧ it f k h = h) (j - i) ⟨by omega, e3⟩
  exact ⟨m, by omega, pm, bm, fun j hj hjm e => hl j hjm ⟨hj, e⟩⟩
def cycGo (f : Nat → Nat) (h0 : Nat) : Nat → Nat → List Nat
  | 0, _ => []
  | k + 1, x => if x = h0 then [] else x :: cycGo f h0 k (f x)
def cyc (f : Nat → Nat) (n h : Nat) : List Nat := h :: cycGo f h n (f h)
theorem cycGo_per {h k : Nat} (p : Per f h k) : ∀ (m i fuel : Nat), i + m = k → 0 < i → m ≤ fuel → cycGo f h fuel (it f i h) = (List.range' i m).map (fun j => it f j h)
  | 0, i, fuel, e, _, _ => by
    have e' : it f i h = h := by
      have : i = k := by omega
      rw [this]
      exact p.back
    rw [e']
    cases fuel with
    | zero => rfl
    | succ q =>
      show (if h = h then [] else _) = _
      rw [if_pos rfl]
      rfl
  | m + 1, i, 0, _, _, hf => by omega
  | m + 1, i, fuel + 1, e, hi, hf => by
    show (if it f i h = h then [] else it f i h :: cycGo f h fuel (f (it f i h))) = _
    rw [if_neg (p.least i hi (by omega)), List.range'_succ, List.map_cons]
    have := cycGo_per p m (i + 1) fuel (by omega) (by omega) (by omega)
    rw [← this]
    rfl
theorem cyc_per {h k : Nat} (p : Per f h k) (hk : k ≤ n + 1) : cyc f n h = (List.range k).map (fun j => it f j h) := by
  have pp := p.pos
  obtain ⟨m, rfl⟩ : ∃ m, k = m + 1 := ⟨k - 1, by omega⟩
  rw [List.range_eq_range', List.range'_succ, List.map_cons]
  show h :: cycGo f h n (it f 1 h) = h :: _
  rw [cycGo_per p m 1 n (by omega) (by omega) (by omega)]
theorem Per.mul {h k : Nat} (p : Per f h k) : ∀ q, it f (k * q) h = h
  | 0 => rfl
  | q + 1 => by
    rw [Nat.mul_succ, it_add, p.back]
    exact p.mul q
theorem mem_cyc (p : PermOn f n) {h x : Nat} (hh : h < n) : x ∈ cyc f n h ↔ ∃ i, x = it f i h := by
  obtain ⟨k, hk, pk⟩ := p.per hh
  rw [cyc_per pk (by omega), List.mem_map]
  constructor
  · rintro ⟨j, _, rfl⟩
    exact ⟨j, rfl⟩
  · rintro ⟨i, rfl⟩
    refine ⟨i % k, List.mem_range.mpr (Nat.mod_lt _ pk.pos), ?_⟩
    have e : i = i % k + k * (i / k) := by
      have := Nat.mod_add_div i k
      omega
    show it f (i % k) h = it f i h
    have e2 : it f i h = it f (i % k + k * (i / k)) h := by rw [← e]
    rw [e2, it_add, pk.mul]
theorem it_back (p : PermOn f n) {h : Nat} (hh : h < n) (i : Nat) : ∃ j, h = it f j (it f i h) := by
  obtain ⟨k, hk, pk⟩ := p.per hh
  refine ⟨(k - 1) * i, ?_⟩
  rw [← it_add]
  have : (k - 1) * i + i = k * i := by
    have hp := pk.pos
    obtain ⟨m, rfl⟩ : ∃ m, k = m + 1 := ⟨k - 1, by omega⟩
    show m * i + i = (m + 1) * i
    rw [Nat.succ_mul]
  rw [this, pk.mul]
theorem cyc_lt (p : PermOn f n) {h x : Nat} (hh : h < n) (hx : x ∈ cyc f n h) : x < n := by
  obtain ⟨i, rfl⟩ := (mem_cyc p hh).mp hx
  exact p.it_lt i h hh
theorem cyc_symm (p : PermOn f n) {h x : Nat} (hh : h < n) (hx : x ∈ cyc f n h) : h ∈ cyc f n x := by
  have hl := cyc_lt p hh hx
  obtain ⟨i, rfl⟩ := (mem_cyc p hh).mp hx
  exact (mem_cyc p hl).mpr (it_back p hh i)
theorem cyc_trans (p : PermOn f n) {h x y : Nat} (hh : h < n) (hx : x ∈ cyc f n h) (hy : y ∈ cyc f n x) : y ∈ cyc f n h := by
  have hl := cyc_lt p hh hx
  obtain ⟨j, rfl⟩ := (mem_cyc p hl).mp hy
  obtain ⟨i, rfl⟩ := (mem_cyc p hh).mp hx
  exact (mem_cyc p hh).mpr ⟨j + i, (it_add f j i h).symm⟩
theorem cyc_self (h : Nat) : h ∈ cyc f n h := List.mem_cons_self
theorem cyc_len (p : PermOn f n) {h : Nat} (hh : h < n) : (cyc f n h).length ≤ n := by
  obtain ⟨k, hk, pk⟩ := p.per hh
  rw [cyc_per pk (by omega), List.length_map, List.length_range]
  exact hk
theorem cyc_nodup (p : PermOn f n) {h : Nat} (hh : h < n) : (cyc f n h).Nodup := by
  obtain ⟨k, hk, pk⟩ := p.per hh
  rw [cyc_per pk (by omega)]
  refine List.pairwise_map.mpr (List.Pairwise.imp_of_mem ?_ (List.pairwise_lt_range (n := k)))
  intro i j hi hj hij e
  have hj' := List.mem_range.mp hj
  have e2 : it f i h = it f i (it f (j - i) h) := by
    rw [← it_add]
    have : i + (j - i) = j := by omega
    rw [this]
    exact e
  exact pk.least (j - i) (by omega) (by omega) (p.it_inj i _ _ hh (p.it_lt _ h hh) e2).symm
theorem cyc_at (p : PermOn f n) {h i : Nat} (hh : h < n) (hi : i < (cyc f n h).length) : (cyc f n h)[i]? = some (it f i h) := by
  obtain ⟨k, hk, pk⟩ := p.per hh
  rw [cyc_per pk (by omega), List.length_map, List.length_range] at hi
  rw [cyc_per pk (by omega), List.getElem?_map, List.getElem?_range hi]
  rfl
theorem cyc_end (p : PermOn f n) {h : Nat} (hh : h < n) : it f (cyc f n h).length h = h := by
  obtain ⟨k, hk, pk⟩ := p.per hh
  rw [cyc_per pk (by omega), List.length_map, List.length_range]
  exact pk.back
/-! the rounds, each from its least member on -/
def isMin (f : Nat → Nat) (n h : Nat) : Bool := (cyc f n h).all fun x => decide (h ≤ x)
def rnds (f : Nat → Nat) (n : Nat) : Nat → List (List Nat)
  | 0 => []
  | m + 1 => rnds f n m ++ (if isMin f n m = true then [cyc f n m] else [])
theorem isMin_iff {h : Nat} : isMin f n h = true ↔ ∀ x ∈ cyc f n h, h ≤ x := by
  unfold isMin
  rw [List.all_eq_true]
  exact ⟨fun q x hx => of_decide_eq_true (q x hx), fun q x hx => decide_eq_true (q x hx)⟩
theorem mem_rnds {c : List Nat} : ∀ m, c ∈ rnds f n m ↔ ∃ g, g < m ∧ isMin f n g = true ∧ c = cyc f n g
  | 0 => by
    constructor
    · intro h; cases h
    · rintro ⟨g, hg, _⟩; omega
  | m + 1 => by
    show c ∈ rnds f n m ++ (if isMin f n m = true then [cyc f n m] else []) ↔ _
    rw [List.mem_append, mem_rnds m]
    constructor
    · rintro (⟨g, hg, r⟩ | h)
      · exact ⟨g, by omega, r⟩
      · by_cases q : isMin f n m = true
        · rw [if_pos q] at h
          exact ⟨m, by omega, q, List.mem_singleton.mp h⟩
        · rw [if_neg q] at h
          cases h
    · rintro ⟨g, hg, q, e⟩
      by_cases hm : g = m
      · subst hm
        right
        rw [if_pos q]
        exact List.mem_singleton.mpr e
      · exact .inl ⟨g, by omega, q, e⟩
theorem mem_flat {x m : Nat} : x ∈ (rnds f n m).flatten ↔ ∃ g, g < m ∧ isMin f n g = true ∧ x ∈ cyc f n g := by
  rw [List.mem_flatten]
  constructor
  · rintro ⟨c, hc, hx⟩
    obtain ⟨g, hg, q, rfl⟩ := (mem_rnds m).mp hc
    exact ⟨g, hg, q, hx⟩
  · rintro ⟨g, hg, q, hx⟩
    exact ⟨_, (mem_rnds m).mpr ⟨g, hg, q, rfl⟩, hx⟩
theorem has_min (p : PermOn f n) {h : Nat} (hh : h < n) : ∃ g, g ≤ h ∧ g ∈ cyc f n h ∧ isMin f n g = true := by
  obtain ⟨g, hg, hl, hm⟩ := MM.least (P := fun x => x ∈ cyc f n h) h (cyc_self h)
  refine ⟨g, hl, hg, isMin_iff.mpr fun x hx => ?_⟩
  have hx' := cyc_trans p hh hg hx
  exact Nat.le_of_not_lt fun z => hm x z hx'
theorem not_min_in (p : PermOn f n) {h : Nat} (hh : h < n) (q : isMin f n h = false) : h ∈ (rnds f n h).flatten := by
  obtain ⟨g, hg, hm, hq⟩ := has_min p hh
  have hne : g ≠ h := fun e => by rw [e, q] at hq; cases hq
  exact mem_flat.mpr ⟨g, by omega, hq, cyc_symm p hh hm⟩
theorem min_out (p : PermOn f n) {h x : Nat} (hh : h < n) (q : isMin f n h = true) (hx : x ∈ cyc f n h) : x ∉ (rnds f n h).flatten := fun hf => by
  obtain ⟨g, hg, hgm, hxg⟩ := mem_flat.mp hf
  have h1 : g ∈ cyc f n x := cyc_symm p (by omega) hxg
  have := isMin_iff.mp q g (cyc_trans p hh hx h1)
  omega
theorem rnds_len : ∀ m, (rnds f n m).length ≤ m
  | 0 => Nat.le_refl _
  | m + 1 => by
    show (rnds f n m ++ (if isMin f n m = true then [cyc f n m] else [])).length ≤ m + 1
    rw [List.length_append]
    have := rnds_len m
    by_cases q : isMin f n m = true
    · rw [if_pos q]; show _ + 1 ≤ _; omega
    · rw [if_neg q]; show _ + 0 ≤ _; omega
theorem rnds_each (p : PermOn f n) {m : Nat} (hm : m ≤ n) {c : List Nat} (hc : c ∈ rnds f n m) : c.length ≤ n ∧ 0 < c.length := by
  obtain ⟨g, hg, _, rfl⟩ := (mem_rnds m).mp hc
  exact ⟨cyc_len p (by omega), Nat.succ_pos _⟩
theorem rnds_nodup (p : PermOn f n) : ∀ m, m ≤ n → (rnds f n m).flatten.Nodup
  | 0, _ => List.nodup_nil
  | m + 1, hm => by
    show (rnds f n m ++ (if isMin f n m = true then [cyc f n m] else [])).flatten.Nodup
    by_cases q : isMin f n m = true
    · rw [if_pos q, List.flatten_append]
      refine List.nodup_append.mpr ⟨rnds_nodup p m (by omega), ?_, ?_⟩
      · simpa using cyc_nodup p (show m < n by omega)
      · intro x hx y hy e
        subst e
        have hy' : x ∈ cyc f n m := by simpa using hy
        exact min_out p (by omega) q hy' hx
    · rw [if_neg q, List.append_nil]
      exact rnds_nodup p m (by omega)
end
theorem perm_erase {α : Type} : ∀ (l : List α) (i : Nat) (h : i < l.length), (l[i] :: l.eraseIdx i).Perm l
  | a :: l, 0, _ => List.Perm.refl _
  | a :: l, i + 1, h => by
    have hi : i < l.length := Nat.lt_of_succ_lt_succ h
    show (l[i]'hi :: a :: l.eraseIdx i).Perm (a :: l)
    exact (List.Perm.swap a _ _).trans (List.Perm.cons a (perm_erase l i hi))
/-! meshes as lists of next halves -/
def fn (st : List Nat) (x : Nat) : Nat := st.getD x 0
def tw (h : Nat) : Nat := if h % 2 = 0 then h + 1 else h - 1
def inv (ns : List Nat) : List Nat := (List.range ns.length).map fun h => ns.idxOf h
def stp (ns : List Nat) (b : Bool) : List Nat := if b = true then ns else (inv ns).map tw
structure IsMesh (ns : List Nat) : Prop where
  perm : ns.Perm (List.range ns.length)
  even : ns.length % 2 = 0
theorem tw_tw (h : Nat) : tw (tw h) = h := by
  unfold tw
  by_cases q : h % 2 = 0
  · rw [if_pos q, if_neg (by omega)]; omega
  · rw [if_neg q, if_pos (by omega)]; omega
theorem tw_inj {a b : Nat} (e : tw a = tw b) : a = b := by rw [← tw_tw a, e, tw_tw]
theorem tw_lt {h n : Nat} (hn : n % 2 = 0) (hh : h < n) : tw h < n := by
  unfold tw
  by_cases q : h % 2 = 0
  · rw [if_pos q]; omega
  · rw [if_neg q]; omega
theorem fn_at {st : List Nat} {x : Nat} (h : x < st.length) : st[x]? = some (fn st x) := by
  unfold fn
  rw [List.getD_eq_getElem?_getD, List.getElem?_eq_getElem h]
  rfl
section
variable {ns : List Nat}
theorem IsMesh.lt (m : IsMesh ns) {x : Nat} (h : x ∈ ns) : x < ns.length := List.mem_range.mp (m.perm.mem_iff.mp h)
theorem IsMesh.mem (m : IsMesh ns) {x : Nat} (h : x < ns.length) : x ∈ ns := m.perm.mem_iff.mpr (List.mem_range.mpr h)
theorem IsMesh.nodup (m : IsMesh ns) : ns.Nodup := m.perm.nodup_iff.mpr List.nodup_range
theorem fn_mem {st : List Nat} {x : Nat} (h : x < st.length) : fn st x ∈ st := List.mem_of_getElem? (fn_at h)
theorem IsMesh.fnp (m : IsMesh ns) : PermOn (fn ns) ns.length where
  lt := fun x hx => m.lt (fn_mem hx)
  inj := fun x y hx hy e => by
    have h1 := fn_at hx
    have h2 := fn_at hy
    rw [e, ← h2] at h1
    exact (List.getElem?_inj hx m.nodup).mp h1
theorem inv_len : (inv ns).length = ns.length := by unfold inv; rw [List.length_map, List.length_range]
theorem idx_lt {x : Nat} (h : x ∈ ns) : ns.idxOf x < ns.length := List.idxOf_lt_length_iff.mpr h
theorem idx_at {x : Nat} (h : x ∈ ns) : ns[ns.idxOf x]? = some x := by
  rw [List.getElem?_eq_getElem (idx_lt h), List.getElem_idxOf (idx_lt h)]
theorem inv_at {x : Nat} (h : x < ns.length) : (inv ns)[x]? = some (ns.idxOf x) := by
  unfold inv
  rw [List.getElem?_map, List.getElem?_range h]
  rfl
theorem fn_inv {x : Nat} (h : x < ns.length) : fn (inv ns) x = ns.idxOf x := by
  have := fn_at (st := inv ns) (x := x) (by rw [inv_len]; exact h)
  rw [inv_at h] at this
  exact (Option.some.inj this).symm
theorem IsMesh.idx_inj (m : IsMesh ns) {x y : Nat} (hx : x ∈ ns) (hy : y ∈ ns) (e : ns.idxOf x = ns.idxOf y) : x = y := by
  have h1 := idx_at hx
  have h2 := idx_at hy
  rw [e, h2] at h1
  exact (Option.some.inj h1).symm
theorem stp_len (b : Bool) : (stp ns b).length = ns.length := by
  cases b
  · show ((inv ns).map tw).length = _
    rw [List.length_map, inv_len]
  · rfl
theorem stp_at {x : Nat} (h : x < ns.length) : (stp ns false)[x]? = some (tw (ns.idxOf x)) := by
  show ((inv ns).map tw)[x]? = _
  rw [List.getElem?_map, inv_at h]
  rfl
theorem fn_stp {x : Nat} (h : x < ns.length) : fn (stp ns false) x = tw (ns.idxOf x) := by
  have := fn_at (st := stp ns false) (x := x) (by rw [stp_len]; exact h)
  rw [stp_at h] at this
  exact (Option.some.inj this).symm
theorem IsMesh.stp (m : IsMesh ns) (b : Bool) : PermOn (fn (stp ns b)) ns.length := by
  cases b
  · refine ⟨fun x hx => ?_, fun x y hx hy e => ?_⟩
    · rw [fn_stp hx]
      exact tw_lt m.even (idx_lt (m.mem hx))
    · rw [fn_stp hx, fn_stp hy] at e
      exact m.idx_inj (m.mem hx) (m.mem hy) (tw_inj e)
  · exact m.fnp
end
end MM

namespace Pf
open PySem PySem.Spec PyProof.Rows L2
theorem sq {K : PySem.W.Frag} {H : Hp} {a : Addr} {xs : List V} (h : H a = some (.lst xs)) : SqL K H a xs := .inl (.inl h)
theorem st {K : PySem.W.Frag} {H : Hp} {a : Addr} {xs : List V} (h : H a = some (.tup xs)) : SqT K H a xs := .inl (.inl h)
theorem szl {n : Nat} (h : n ≤ 100000) : n ≤ sizeLine := Nat.le_trans h (by decide)
theorem szt {n : Nat} (h : n < 100000) : n < sizeLine := Nat.lt_of_lt_of_le h (by decide)
abbrev vn (n : Nat) : V := .int (n : Int)
def vns (l : List Nat) : List V := l.map vn
theorem vns_len (l : List Nat) : (vns l).length = l.length := List.length_map _
theorem vns_int (l : List Nat) : vns l = (l.map (fun n : Nat => (n : Int))).map V.int := by
  unfold vns
  rw [List.map_map]
  rfl
theorem vns_at {l : List Nat} {i x : Nat} (h : l[i]? = some x) : (vns l)[i]? = some (vn x) := by
  unfold vns
  rw [List.getElem?_map, h]
  rfl
theorem vns_app (l m : List Nat) : vns (l ++ m) = vns l ++ vns m := List.map_append
theorem of_vns {l : List Nat} {i : Nat} {x : V} (h : (vns l)[i]? = some x) : ∃ n, l[i]? = some n ∧ x = vn n := by
  unfold vns at h
  rw [List.getElem?_map] at h
  cases e : l[i]? with
  | none => rw [e] at h; cases h
  | some n => rw [e] at h; exact ⟨n, rfl, (Option.some.inj h).symm⟩
theorem at_n {xs : List V} {j : Nat} {v : V} (h : xs[j]? = some v) : atI xs ((j : Nat) : Int) = some v := atI_nat h
theorem ix_n {n j : Nat} (h : j < n) : ixN n ((j : Nat) : Int) = some j := by
  unfold ixN
  rw [if_pos (by omega), if_pos (by omega), Int.toNat_natCast]
/-! cuts -/
theorem cut_to (xs : List V) (k : Nat) : cutV xs none (some (k : Int)) = xs.take k := by
  unfold cutV
  rw [HT.sIx_none, HT.sIx_nat]
  show List.take (min k xs.length - 0) xs = _
  rw [Nat.sub_zero]
  by_cases h : k ≤ xs.length
  · rw [Nat.min_eq_left h]
  · rw [Nat.min_eq_right (by omega), List.take_length, List.take_of_length_le (by omega)]
theorem cut_from (xs : List V) (k : Nat) : cutV xs (some (k : Int)) none = xs.drop k := by
  unfold cutV
  rw [HT.sIx_none, HT.sIx_nat]
  by_cases h : k ≤ xs.length
  · rw [Nat.min_eq_left h]
    exact List.take_of_length_le (by rw [List.length_drop]; exact Nat.le_refl _)
  · rw [Nat.min_eq_right (by omega), List.drop_of_length_le (Nat.le_refl _), List.drop_of_length_le (by omega), List.take_nil]
/-! data -/
def dI (l : List Int) : PyData := .list (l.map PyData.int)
def dN (l : List Nat) : PyData := dI (l.map fun n : Nat => (n : Int))
def dLL (l : List (List Nat)) : PyData := .list (l.map dN)
theorem eqv_ints : ∀ l m : List Int, PyData.eqvAll (l.map PyData.int) (m.map PyData.int) = decide (l = m)
  | [], [] => by simp [PyData.eqvAll]
  | [], _ :: _ => by simp [PyData.eqvAll]
  | _ :: _, [] => by simp [PyData.eqvAll]
  | a :: l, b :: m => by
    simp only [List.map_cons, PyData.eqvAll, PyData.eqv, eqv_ints l m]
    by_cases e : a = b
    · subst e; simp
    · simp [e]
theorem eqv_dI (l m : List Int) : PyData.eqv (dI l) (dI m) = decide (l = m) := by
  unfold dI
  rw [PyData.eqv]
  exact eqv_ints l m
theorem map_nat_inj : ∀ {l m : List Nat}, l.map (fun n : Nat => (n : Int)) = m.map (fun n : Nat => (n : Int)) → l = m
  | [], [], _ => rfl
  | [], _ :: _, h => by cases h
  | _ :: _, [], h => by cases h
  | a :: l, b :: m, h => by
    rw [List.map_cons, List.map_cons, List.cons.injEq] at h
    rw [map_nat_inj h.2, Int.ofNat.inj h.1]
theorem eqv_dN (l m : List Nat) : PyData.eqv (dN l) (dN m) = decide (l = m) := by
  unfold dN
  rw [eqv_dI]
  by_cases e : l = m
  · rw [decide_eq_true e, e, decide_eq_true rfl]
  · rw [decide_eq_false e, decide_eq_false fun z => e (map_nat_inj z)]
theorem eqv_lls : ∀ l m : List (List Nat), PyData.eqvAll (l.map dN) (m.map dN) = decide (l = m)
  | [], [] => by simp [PyData.eqvAll]
  | [], _ :: _ => by simp [PyData.eqvAll]
  | _ :: _, [] => by simp [PyData.eqvAll]
  | a :: l, b :: m => by
    simp only [List.map_cons, PyData.eqvAll, eqv_dN, eqv_lls l m]
    by_cases e : a = b
    · subst e; simp
    · simp [e]
theorem eqv_dLL (l m : List (List Nat)) : PyData.eqv (dLL l) (dLL m) = decide (l = m) := by
  unfold dLL
  rw [PyData.eqv]
  exact eqv_lls l m
theorem lay_ints : ∀ l : List Int, PyData.canLayAll0 (l.map PyData.int) = true
  | [] => by simp [PyData.canLayAll0]
  | a :: l => by simp [PyData.canLayAll0, PyData.canLay0, lay_ints l]
theorem dep_ints : ∀ l : List Int, PyData.depthAll (l.map PyData.int) = 0
  | [] => by simp [PyData.depthAll]
  | a :: l => by simp [PyData.depthAll, PyData.depth, dep_ints l]
theorem sh_dI (l : List Int) : SeqAt.shaped (dI l) = true := by
  unfold SeqAt.shaped dI
  rw [PyData.canLay0, PyData.depth, lay_ints, dep_ints]
  rfl
theorem sh_dN (l : List Nat) : SeqAt.shaped (dN l) = true := sh_dI _
theorem lay_dN (l : List Nat) : PyData.canLay0 (dN l) = true := by
  unfold dN dI
  rw [PyData.canLay0]
  exact lay_ints _
theorem dep_dN (l : List Nat) : PyData.depth (dN l) = 1 := by
  unfold dN dI
  rw [PyData.depth, dep_ints]
theorem lay_lls : ∀ l : List (List Nat), PyData.canLayAll0 (l.map dN) = true
  | [] => by simp [PyData.canLayAll0]
  | a :: l => by simp [PyData.canLayAll0, lay_dN, lay_lls l]
theorem dep_lls : ∀ l : List (List Nat), PyData.depthAll (l.map dN) ≤ 1
  | [] => by simp [PyData.depthAll]
  | a :: l => by
    have := dep_lls l
    simp only [List.map_cons, PyData.depthAll, dep_dN]
    omega
theorem sh_dLL (l : List (List Nat)) : SeqAt.shaped (dLL l) = true := by
  unfold SeqAt.shaped dLL
  rw [PyData.canLay0, PyData.depth, lay_lls]
  have := dep_lls l
  simp
  omega
theorem dp_ints {K : PySem.W.Frag} {H : Hp} : ∀ l : List Int, DpAll K H (l.map V.int) (l.map PyData.int)
  | [] => .nil
  | a :: l => .cons (.int a) (dp_ints l)
theorem dp_I {K : PySem.W.Frag} {H : Hp} {a : Addr} {l : List Int} (h : SqL K H a (l.map V.int)) : Dp K H (.ref a) (dI l) := .lst h (dp_ints l)
theorem dp_N {K : PySem.W.Frag} {H : Hp} {a : Addr} {l : List Nat} (h : SqL K H a (vns l)) : Dp K H (.ref a) (dN l) := by
  rw [vns_int] at h
  exact dp_I h
/-- a list of lists of numbers, at p, its lists at ps -/
structure LL (H : Hp) (p : Addr) (ps : List Addr) (xss : List (List Nat)) : Prop where
  top : H p = some (.lst (ps.map V.ref))
  each : Paired (fun q xs => H q = some (.lst (vns xs))) ps xss
theorem paired_imp {α β : Type} {F G : α → β → Prop} (k : ∀ a b, F a b → G a b) : ∀ {l : List α} {m : List β}, Paired F l m → Paired G l m
  | _, _, .nil => .nil
  | _, _, .cons r t => .cons (k _ _ r) (paired_imp k t)
theorem LL.same {H H' : Hp} {p : Addr} {ps : List Addr} {xss : List (List Nat)} (h : LL H p ps xss) (s : Same H H') : LL H' p ps xss := ⟨s _ _ h.top, paired_imp (fun _ _ e => s _ _ e) h.each⟩
theorem dp_all {K : PySem.W.Frag} {H : Hp} : ∀ {ps : List Addr} {xss : List (List Nat)}, Paired (fun q xs => H q = some (.lst (vns xs))) ps xss → DpAll K H (ps.map V.ref) (xss.map dN)
  | _, _, .nil => .nil
  | _, _, .cons r t => .cons (dp_N (sq r)) (dp_all t)
theorem dp_LL {K : PySem.W.Frag} {H : Hp} {p : Addr} {ps : List Addr} {xss : List (List Nat)} (h : LL H p ps xss) : Dp K H (.ref p) (dLL xss) := .lst (sq h.top) (dp_all h.each)
theorem paired_app {α β : Type} {F : α → β → Prop} : ∀ {l l' : List α} {m m' : List β}, Paired F l m → Paired F l' m' → Paired F (l ++ l') (m ++ m')
  | _, _, _, _, .nil, s => s
  | _, _, _, _, .cons r t, s => .cons r (paired_app t s)
theorem paired_len {α β : Type} {F : α → β → Prop} : ∀ {l : List α} {m : List β}, Paired F l m → l.length = m.length
  | _, _, .nil => rfl
  | _, _, .cons _ t => by rw [List.length_cons, List.length_cons, paired_len t]
theorem paired_mem {α β : Type} {F : α → β → Prop} : ∀ {l : List α} {m : List β}, Paired F l m → ∀ a ∈ l, ∃ b ∈ m, F a b
  | _, _, .nil, _, h => by cases h
  | _, _, .cons (a := x) (b := y) r t, a, h => by
    rcases List.mem_cons.mp h with rfl | h
    · exact ⟨y, List.mem_cons_self, r⟩
    · obtain ⟨b, hb, f⟩ := paired_mem t a h
      exact ⟨b, List.mem_cons_of_mem _ hb, f⟩
theorem paired_upd {H : Hp} {p : Addr} {o : HO} : ∀ {l : List Addr} {m : List (List Nat)}, Paired (fun q xs => H q = some (.lst (vns xs))) l m → (∀ x ∈ l, x ≠ p) → Paired (fun q xs => (upd H p o) q = some (.lst (vns xs))) l m
  | _, _, .nil, _ => .nil
  | _, _, .cons r t, h => .cons (by rw [upd_ne (h _ List.mem_cons_self)]; exact r) (paired_upd t fun x hx => h x (List.mem_cons_of_mem _ hx))
theorem same_but {H H' : Hp} {p : Addr} {o : HO} (h : Same H H') (hp : H p = none) : Same H (upd H' p o) := RD.same_mut h hp
/-- all but what stands at a is as it was -/
def SameX (a : Addr) (H H' : Hp) : Prop := ∀ b o, H b = some o → b ≠ a → H' b = some o
theorem SameX.refl (a : Addr) (H : Hp) : SameX a H H := fun _ _ h _ => h
theorem SameX.trans {a : Addr} {H H1 H2 : Hp} (x : SameX a H H1) (y : SameX a H1 H2) : SameX a H H2 := fun b o h hb => y b o (x b o h hb) hb
theorem Same.x {a : Addr} {H H1 : Hp} (x : Same H H1) : SameX a H H1 := fun b o h _ => x b o h
theorem SameX.put {a : Addr} {H H1 : Hp} {o : HO} (x : SameX a H H1) : SameX a H (upd H1 a o) := fun b u h hb => by rw [upd_ne hb]; exact x b u h hb
theorem SameX.same {a : Addr} {H H1 : Hp} (x : SameX a H H1) (h : H a = none) : Same H H1 := fun b o e => x b o e (ne_of_none e h)
theorem SameX.mut {a : Addr} {H H' : Hp} {p : Addr} {o : HO} (e : SameX a H H') (h : H p = none) : SameX a H (upd H' p o) := fun b u hb hn => by
  rw [upd_ne (ne_of_none hb h)]
  exact e b u hb hn
theorem SameX.free {a : Addr} {H H' : Hp} (e : SameX a H H') {l : Addr} (h : H' l = Option.none) (hl : l ≠ a) : H l = Option.none := by
  cases q : H l with
  | none => rfl
  | some o =>
    rw [e l o q hl] at h
    cases h
theorem SameX.under {t : Addr} {H H1 H2 : Hp} (x : SameX t H1 H2) (s : Same H H1) (n : H t = none) : Same H H2 := fun b o e => x b o (s b o e) (ne_of_none e n)
theorem same_not {H H' : Hp} {p q : Addr} {o : HO} (_ : Same H H') (e : H p = some o) (n : H q = none) : p ≠ q := ne_of_none e n
end Pf

namespace Pf
open PySem PySem.Spec PyProof.Rows L2
def topS (i : Nat) : Stmt := PySem.Challenge.pw_halfmeshes_k11_links_and_rounds.main.body.getD i (.Pass ⟨0, 0, 0, 0⟩)
abbrev s_twin_of : Stmt := topS 5
theorem sc_twin_of : FnScope ["half"] ["half"] (defScope s_twin_of) := ⟨rfl, rfl, rfl, by decide +kernel, rfl, by decide +kernel, by decide +kernel⟩
abbrev s_rounds : Stmt := topS 6
theorem sc_rounds : FnScope ["steps", "seen", "found", "half", "members"] ["steps"] (defScope s_rounds) := ⟨rfl, rfl, rfl, by decide +kernel, rfl, by decide +kernel, by decide +kernel⟩
abbrev s_are_integers : Stmt := topS 7
theorem sc_are_integers : FnScope ["values", "value"] ["values"] (defScope s_are_integers) := ⟨rfl, rfl, rfl, by decide +kernel, rfl, by decide +kernel, by decide +kernel⟩
abbrev s_Mesh_d_initd_ : Stmt := inClass (topS 8) 0
theorem sc_Mesh_d_initd_ : FnScope ["self", "nexts", "size", "half", "after"] ["self", "nexts"] (defScope s_Mesh_d_initd_) := ⟨rfl, rfl, rfl, by decide +kernel, rfl, by decide +kernel, by decide +kernel⟩
abbrev s_Mesh_d_lend_ : Stmt := inClass (topS 8) 2
theorem sc_Mesh_d_lend_ : FnScope ["self"] ["self"] (defScope s_Mesh_d_lend_) := ⟨rfl, rfl, rfl, by decide +kernel, rfl, by decide +kernel, by decide +kernel⟩
abbrev s_Mesh_d_containsd_ : Stmt := inClass (topS 8) 3
theorem sc_Mesh_d_containsd_ : FnScope ["self", "half"] ["self", "half"] (defScope s_Mesh_d_containsd_) := ⟨rfl, rfl, rfl, by decide +kernel, rfl, by decide +kernel, by decide +kernel⟩
abbrev s_Mesh_d_eqd_ : Stmt := inClass (topS 8) 4
theorem sc_Mesh_d_eqd_ : FnScope ["self", "other"] ["self", "other"] (defScope s_Mesh_d_eqd_) := ⟨rfl, rfl, rfl, by decide +kernel, rfl, by decide +kernel, by decide +kernel⟩
abbrev s_Mesh_after : Stmt := inClass (topS 8) 5
theorem sc_Mesh_after : FnScope ["self", "half"] ["self", "half"] (defScope s_Mesh_after) := ⟨rfl, rfl, rfl, by decide +kernel, rfl, by decide +kernel, by decide +kernel⟩
abbrev s_Mesh_before : Stmt := inClass (topS 8) 6
theorem sc_Mesh_before : FnScope ["self", "half"] ["self", "half"] (defScope s_Mesh_before) := ⟨rfl, rfl, rfl, by decide +kernel, rfl, by decide +kernel, by decide +kernel⟩
abbrev s_Mesh_twin : Stmt := inClass (topS 8) 7
theorem sc_Mesh_twin : FnScope ["self", "half"] ["self", "half"] (defScope s_Mesh_twin) := ⟨rfl, rfl, rfl, by decide +kernel, rfl, by decide +kernel, by decide +kernel⟩
abbrev s_Mesh_turned : Stmt := inClass (topS 8) 8
theorem sc_Mesh_turned : FnScope ["self", "half"] ["self", "half"] (defScope s_Mesh_turned) := ⟨rfl, rfl, rfl, by decide +kernel, rfl, by decide +kernel, by decide +kernel⟩
abbrev s_Mesh_nexts : Stmt := inClass (topS 8) 9
theorem sc_Mesh_nexts : FnScope ["self"] ["self"] (defScope s_Mesh_nexts) := ⟨rfl, rfl, rfl, by decide +kernel, rfl, by decide +kernel, by decide +kernel⟩
abbrev s_Mesh_faces : Stmt := inClass (topS 8) 10
theorem sc_Mesh_faces : FnScope ["self"] ["self"] (defScope s_Mesh_faces) := ⟨rfl, rfl, rfl, by decide +kernel, rfl, by decide +kernel, by decide +kernel⟩
abbrev s_Mesh_corners : Stmt := inClass (topS 8) 11
theorem sc_Mesh_corners : FnScope ["self", "half"] ["self"] (defScope s_Mesh_corners) := ⟨rfl, rfl, rfl, by decide +kernel, rfl, by decide +kernel, by decide +kernel⟩
abbrev s_l_tape : Stmt := topS 10
theorem sc_l_tape : FnScope ["_law_script", "_law_k", "_law_cell"] ["_law_script", "_law_k"] (defScope s_l_tape) := ⟨rfl, rfl, rfl, by decide +kernel, rfl, by decide +kernel, by decide +kernel⟩
abbrev s_l_pick : Stmt := topS 11
theorem sc_l_pick : FnScope ["_law_tape_here", "_law_many", "_law_digit", "_law_mixed"] ["_law_tape_here", "_law_many"] (defScope s_l_pick) := ⟨rfl, rfl, rfl, by decide +kernel, rfl, by decide +kernel, by decide +kernel⟩
abbrev s_l_nexts : Stmt := topS 12
theorem sc_l_nexts : FnScope ["_law_tape_here", "_law_edges", "_law_left", "_law_nexts_here", "_law_k", "_law_at"] ["_law_tape_here", "_law_edges"] (defScope s_l_nexts) := ⟨rfl, rfl, rfl, by decide +kernel, rfl, by decide +kernel, by decide +kernel⟩
abbrev s_l_size : Stmt := topS 13
theorem sc_l_size : FnScope ["_law_tape_here", "_law_choice"] ["_law_tape_here"] (defScope s_l_size) := ⟨rfl, rfl, rfl, by decide +kernel, rfl, by decide +kernel, by decide +kernel⟩
abbrev s_l_twin : Stmt := topS 14
theorem sc_l_twin : FnScope ["_law_half"] ["_law_half"] (defScope s_l_twin) := ⟨rfl, rfl, rfl, by decide +kernel, rfl, by decide +kernel, by decide +kernel⟩
abbrev s_l_turned : Stmt := topS 15
theorem sc_l_turned : FnScope ["_law_nexts_here", "_law_half", "_law_k"] ["_law_nexts_here", "_law_half"] (defScope s_l_turned) := ⟨rfl, rfl, rfl, by decide +kernel, rfl, by decide +kernel, by decide +kernel⟩
abbrev s_l_round : Stmt := topS 16
theorem sc_l_round : FnScope ["_law_nexts_here", "_law_half", "_law_by_face", "_law_found", "_law_after"] ["_law_nexts_here", "_law_half", "_law_by_face"] (defScope s_l_round) := ⟨rfl, rfl, rfl, by decide +kernel, rfl, by decide +kernel, by decide +kernel⟩
abbrev s_l_rounds : Stmt := topS 17
theorem sc_l_rounds : FnScope ["_law_nexts_here", "_law_by_face", "_law_found", "_law_half", "_law_members"] ["_law_nexts_here", "_law_by_face"] (defScope s_l_rounds) := ⟨rfl, rfl, rfl, by decide +kernel, rfl, by decide +kernel, by decide +kernel⟩
abbrev s_l_right : Stmt := topS 18
theorem sc_l_right : FnScope ["_law_mesh", "_law_nexts_here", "_law_half", "_law_faces", "_law_corners"] ["_law_mesh", "_law_nexts_here"] (defScope s_l_right) := ⟨rfl, rfl, rfl, by decide +kernel, rfl, by decide +kernel, by decide +kernel⟩
abbrev s_l_spoil : Stmt := topS 19
theorem sc_l_spoil : FnScope ["_law_mesh", "_law_found", "_law_members"] ["_law_mesh"] (defScope s_l_spoil) := ⟨rfl, rfl, rfl, by decide +kernel, rfl, by decide +kernel, by decide +kernel⟩
abbrev s_law : Stmt := topS 20
theorem sc_law : FnScope ["_law_script", "_law_tape_here", "_law_edges", "_law_nexts_here", "_law_others", "_law_passed", "_law_mesh", "_law_other", "_law_half"] ["_law_script"] (defScope s_law) := ⟨rfl, rfl, rfl, by decide +kernel, rfl, by decide +kernel, by decide +kernel⟩
structure Ad where
  f_twin_of : Addr
  d_twin_of : FuncData
  f_rounds : Addr
  d_rounds : FuncData
  f_are_integers : Addr
  d_are_integers : FuncData
  f_Mesh_d_initd_ : Addr
  d_Mesh_d_initd_ : FuncData
  f_Mesh_d_lend_ : Addr
  d_Mesh_d_lend_ : FuncData
  f_Mesh_d_containsd_ : Addr
  d_Mesh_d_containsd_ : FuncData
  f_Mesh_d_eqd_ : Addr
  d_Mesh_d_eqd_ : FuncData
  f_Mesh_after : Addr
  d_Mesh_after : FuncData
  f_Mesh_before : Addr
  d_Mesh_before : FuncData
  f_Mesh_twin : Addr
  d_Mesh_twin : FuncData
  f_Mesh_turned : Addr
  d_Mesh_turned : FuncData
  f_Mesh_nexts : Addr
  d_Mesh_nexts : FuncData
  f_Mesh_faces : Addr
  d_Mesh_faces : FuncData
  f_Mesh_corners : Addr
  d_Mesh_corners : FuncData
  f_l_tape : Addr
  d_l_tape : FuncData
  f_l_pick : Addr
  d_l_pick : FuncData
  f_l_nexts : Addr
  d_l_nexts : FuncData
  f_l_size : Addr
  d_l_size : FuncData
  f_l_twin : Addr
  d_l_twin : FuncData
  f_l_turned : Addr
  d_l_turned : FuncData
  f_l_round : Addr
  d_l_round : FuncData
  f_l_rounds : Addr
  d_l_rounds : FuncData
  f_l_right : Addr
  d_l_right : FuncData
  f_l_spoil : Addr
  d_l_spoil : FuncData
  f_law : Addr
  d_law : FuncData
  c_MeshError : Addr
  c_NotAMesh : Addr
  c_Mesh : Addr
structure Txt (K : PySem.W.Frag) (mg : Str → Option Value) (A : Ad) : Prop where
  F_twin_of : Fun K "twin_of" "twin_of" s_twin_of A.f_twin_of A.d_twin_of
  b_twin_of : Binds K A.d_twin_of ["half"] []
  g_twin_of : mg "twin_of" = some (.ref A.f_twin_of)
  F_rounds : Fun K "rounds" "rounds" s_rounds A.f_rounds A.d_rounds
  b_rounds : Binds K A.d_rounds ["steps"] []
  g_rounds : mg "rounds" = some (.ref A.f_rounds)
  F_are_integers : Fun K "are_integers" "are_integers" s_are_integers A.f_are_integers A.d_are_integers
  b_are_integers : Binds K A.d_are_integers ["values"] []
  g_are_integers : mg "are_integers" = some (.ref A.f_are_integers)
  F_Mesh_d_initd_ : Fun K "__init__" "Mesh.__init__" s_Mesh_d_initd_ A.f_Mesh_d_initd_ A.d_Mesh_d_initd_
  b_Mesh_d_initd_ : Binds K A.d_Mesh_d_initd_ ["self", "nexts"] []
  m_Mesh_d_initd_ : Meth K A.c_Mesh "__init__" A.f_Mesh_d_initd_
  F_Mesh_d_lend_ : Fun K "__len__" "Mesh.__len__" s_Mesh_d_lend_ A.f_Mesh_d_lend_ A.d_Mesh_d_lend_
  b_Mesh_d_lend_ : Binds K A.d_Mesh_d_lend_ ["self"] []
  m_Mesh_d_lend_ : Meth K A.c_Mesh "__len__" A.f_Mesh_d_lend_
  F_Mesh_d_containsd_ : Fun K "__contains__" "Mesh.__contains__" s_Mesh_d_containsd_ A.f_Mesh_d_containsd_ A.d_Mesh_d_containsd_
  b_Mesh_d_containsd_ : Binds K A.d_Mesh_d_containsd_ ["self", "half"] []
  m_Mesh_d_containsd_ : Meth K A.c_Mesh "__contains__" A.f_Mesh_d_containsd_
  F_Mesh_d_eqd_ : Fun K "__eq__" "Mesh.__eq__" s_Mesh_d_eqd_ A.f_Mesh_d_eqd_ A.d_Mesh_d_eqd_
  b_Mesh_d_eqd_ : Binds K A.d_Mesh_d_eqd_ ["self", "other"] []
  m_Mesh_d_eqd_ : Meth K A.c_Mesh "__eq__" A.f_Mesh_d_eqd_
  F_Mesh_after : Fun K "after" "Mesh.after" s_Mesh_after A.f_Mesh_after A.d_Mesh_after
  b_Mesh_after : Binds K A.d_Mesh_after ["self", "half"] []
  m_Mesh_after : Meth K A.c_Mesh "after" A.f_Mesh_after
  F_Mesh_before : Fun K "before" "Mesh.before" s_Mesh_before A.f_Mesh_before A.d_Mesh_before
  b_Mesh_before : Binds K A.d_Mesh_before ["self", "half"] []
  m_Mesh_before : Meth K A.c_Mesh "before" A.f_Mesh_before
  F_Mesh_twin : Fun K "twin" "Mesh.twin" s_Mesh_twin A.f_Mesh_twin A.d_Mesh_twin
  b_Mesh_twin : Binds K A.d_Mesh_twin ["self", "half"] []
  m_Mesh_twin : Meth K A.c_Mesh "twin" A.f_Mesh_twin
  F_Mesh_turned : Fun K "turned" "Mesh.turned" s_Mesh_turned A.f_Mesh_turned A.d_Mesh_turned
  b_Mesh_turned : Binds K A.d_Mesh_turned ["self", "half"] []
  m_Mesh_turned : Meth K A.c_Mesh "turned" A.f_Mesh_turned
  F_Mesh_nexts : Fun K "nexts" "Mesh.nexts" s_Mesh_nexts A.f_Mesh_nexts A.d_Mesh_nexts
  b_Mesh_nexts : Binds K A.d_Mesh_nexts ["self"] []
  m_Mesh_nexts : Meth K A.c_Mesh "nexts" A.f_Mesh_nexts
  F_Mesh_faces : Fun K "faces" "Mesh.faces" s_Mesh_faces A.f_Mesh_faces A.d_Mesh_faces
  b_Mesh_faces : Binds K A.d_Mesh_faces ["self"] []
  m_Mesh_faces : Meth K A.c_Mesh "faces" A.f_Mesh_faces
  F_Mesh_corners : Fun K "corners" "Mesh.corners" s_Mesh_corners A.f_Mesh_corners A.d_Mesh_corners
  b_Mesh_corners : Binds K A.d_Mesh_corners ["self"] []
  m_Mesh_corners : Meth K A.c_Mesh "corners" A.f_Mesh_corners
  F_l_tape : Fun K "_law_tape" "_law_tape" s_l_tape A.f_l_tape A.d_l_tape
  b_l_tape : Binds K A.d_l_tape ["_law_script", "_law_k"] []
  g_l_tape : mg "_law_tape" = some (.ref A.f_l_tape)
  F_l_pick : Fun K "_law_pick" "_law_pick" s_l_pick A.f_l_pick A.d_l_pick
  b_l_pick : Binds K A.d_l_pick ["_law_tape_here", "_law_many"] []
  g_l_pick : mg "_law_pick" = some (.ref A.f_l_pick)
  F_l_nexts : Fun K "_law_nexts" "_law_nexts" s_l_nexts A.f_l_nexts A.d_l_nexts
  b_l_nexts : Binds K A.d_l_nexts ["_law_tape_here", "_law_edges"] []
  g_l_nexts : mg "_law_nexts" = some (.ref A.f_l_nexts)
  F_l_size : Fun K "_law_size" "_law_size" s_l_size A.f_l_size A.d_l_size
  b_l_size : Binds K A.d_l_size ["_law_tape_here"] []
  g_l_size : mg "_law_size" = some (.ref A.f_l_size)
  F_l_twin : Fun K "_law_twin" "_law_twin" s_l_twin A.f_l_twin A.d_l_twin
  b_l_twin : Binds K A.d_l_twin ["_law_half"] []
  g_l_twin : mg "_law_twin" = some (.ref A.f_l_twin)
  F_l_turned : Fun K "_law_turned" "_law_turned" s_l_turned A.f_l_turned A.d_l_turned
  b_l_turned : Binds K A.d_l_turned ["_law_nexts_here", "_law_half"] []
  g_l_turned : mg "_law_turned" = some (.ref A.f_l_turned)
  F_l_round : Fun K "_law_round" "_law_round" s_l_round A.f_l_round A.d_l_round
  b_l_round : Binds K A.d_l_round ["_law_nexts_here", "_law_half", "_law_by_face"] []
  g_l_round : mg "_law_round" = some (.ref A.f_l_round)
  F_l_rounds : Fun K "_law_rounds" "_law_rounds" s_l_rounds A.f_l_rounds A.d_l_rounds
  b_l_rounds : Binds K A.d_l_rounds ["_law_nexts_here", "_law_by_face"] []
  g_l_rounds : mg "_law_rounds" = some (.ref A.f_l_rounds)
  F_l_right : Fun K "_law_right" "_law_right" s_l_right A.f_l_right A.d_l_right
  b_l_right : Binds K A.d_l_right ["_law_mesh", "_law_nexts_here"] []
  g_l_right : mg "_law_right" = some (.ref A.f_l_right)
  F_l_spoil : Fun K "_law_spoil" "_law_spoil" s_l_spoil A.f_l_spoil A.d_l_spoil
  b_l_spoil : Binds K A.d_l_spoil ["_law_mesh"] []
  g_l_spoil : mg "_law_spoil" = some (.ref A.f_l_spoil)
  F_law : Fun K "law" "law" s_law A.f_law A.d_law
  b_law : Binds K A.d_law ["_law_script"] []
  g_law : mg "law" = some (.ref A.f_law)
  g_MeshError : mg "MeshError" = some (.ref A.c_MeshError)
  g_NotAMesh : mg "NotAMesh" = some (.ref A.c_NotAMesh)
  g_Mesh : mg "Mesh" = some (.ref A.c_Mesh)
  cl_Mesh : Cls K A.c_Mesh
  mk_Mesh : Mk K A.c_Mesh A.f_Mesh_d_initd_
  n_Mesh_following : NoAttr K A.c_Mesh "following"
  n_Mesh_preceding : NoAttr K A.c_Mesh "preceding"
  z_abs : mg "abs" = none
  z_all : mg "all" = none
  z_bool : mg "bool" = none
  z_enumerate : mg "enumerate" = none
  z_int : mg "int" = none
  z_isinstance : mg "isinstance" = none
  z_len : mg "len" = none
  z_list : mg "list" = none
  z_min : mg "min" = none
  z_range : mg "range" = none
  z_sorted : mg "sorted" = none
end Pf
local macro_rules | `(tactic| walk_at "rd1") => `(tactic| (with_reducible first
  | refine RD.var0 ?_ | refine RD.varS ?_ | refine RD.cst ?_ | refine RD.op ?_ | refine RD.i0 ?_ | refine RD.eqI ?_ | refine RD.neI ?_ | refine RD.exb ?_ | refine RD.tst ?_ | refine RD.tb' ?_
  | refine RD.seq ?_ | refine RD.asg ?_ | refine RD.gn0 ?_ | refine RD.gnS ?_ | refine RD.ifs ?_ | refine RD.ret ?_ | refine RD.nxt ?_ | refine RD.drp ?_ | refine RD.cons ?_ | refine RD.nil ?_
  | refine RD.cb ?_ | refine RD.call ?_ | refine RD.bT ?_ | refine RD.bF ?_ | refine RD.and ?_ | refine RD.or ?_ | refine RD.not ?_ | refine RD.andV ?_ | refine RD.orV ?_ | refine RD.notV ?_ | refine RD.tif ?_
  | refine RD.for_ ?_ | refine RD.iL ?_ | refine RD.iR1 ?_ | refine RD.iR2 ?_ | refine RD.iE ?_ | refine RD.iT ?_ | refine RD.iZ ?_ | refine RD.iS ?_ | refine RD.lc_ ?_ | refine RD.bm ?_ | refine RD.bm0 ?_ | refine RD.fld ?_ | refine RD.meth ?_ | refine RD.make ?_
  | refine RD.lst ?_ | refine RD.tup ?_ | refine RD.sl ?_ | refine RD.nop ?_ | refine RD.prt ?_ | refine RD.exi ?_ | refine RD.un ?_ | refine RD.u0 ?_ | refine RD.aug ?_ | refine RD.gsub ?_ | refine RD.chain ?_ | refine RD.yes ?_
  | refine RD.eqB ?_ | refine RD.neB ?_ | refine RD.eqS ?_ | refine RD.neS ?_ | refine RD.dput ?_ | refine RD.dget ?_ | refine RD.din ?_ | refine RD.dnin ?_ | refine RD.dnew ?_ | refine RD.sfld ?_ | refine RD.lrg ?_ | refine RD.rg1 ?_ | refine RD.int1 ?_ | refine RD.abs1 ?_ | refine RD.max2 ?_ | refine RD.min2 ?_ | refine RD.tru ?_ | refine RD.retN ?_ | refine RD.brk ?_ | refine RD.cnt ?_))
local macro_rules | `(tactic| walk_at "rd") => `(tactic| (repeat (walk_at "rd1")))
local macro_rules | `(tactic| walk_at "hp") => `(tactic| first | assumption | exact upd_same | (rw [upd_ne (by first | assumption | (apply Ne.symm; assumption) | (exact ne_of_none (by assumption) (by assumption)) | (exact Ne.symm (ne_of_none (by assumption) (by assumption))))]; walk_at "hp"))
local macro_rules | `(tactic| walk_at "wp") => `(tactic| simp only [L2.wipe, List.map_cons, List.map_nil, List.set_cons_succ, List.set_cons_zero])
local macro_rules | `(tactic| walk_at "gn") => `(tactic| (repeat (with_reducible first | refine RD.gn0 ?_ | refine RD.gnS ?_)))
namespace Pf
open PySem PySem.Spec PyProof.Rows L2
/-- a tape: two numbers -/
def TapeAt (H : Hp) (a : Addr) : Prop := ∃ x y : Int, H a = some (.lst [.int x, .int y]) ∧ 0 ≤ x ∧ 0 ≤ y ∧ y < 2147483647
theorem TapeAt.same {H H' : Hp} {a : Addr} (t : TapeAt H a) (s : Same H H') : TapeAt H' a := by
  obtain ⟨x, y, h, r⟩ := t
  exact ⟨x, y, s _ _ h, r⟩
theorem TapeAt.mk {H : Hp} {a : Addr} {x y : Int} (h : 0 ≤ x) (h1 : 0 ≤ y) (h2 : y < 2147483647) : TapeAt (upd H a (.lst [.int x, .int y])) a := ⟨x, y, upd_same, h, h1, h2⟩
def sp_l_pick : Sp := fun vs H Q _ => ∃ (a : Addr) (m : Int), vs = [.ref a, .int m] ∧ TapeAt H a ∧ 0 < m ∧ m < 1000001 ∧
  ∀ (v : Nat) (H' : Hp), (v : Int) < m → TapeAt H' a → SameX a H H' → Q (vn v) H'
theorem pick_end {H : Hp} {a : Addr} {m : Int} {Q : VK} (k : ∀ (v : Nat) (H' : Hp), (v : Int) < m → TapeAt H' a → SameX a H H' → Q (vn v) H') {z x y : Int} (h0 : 0 ≤ z) (h1 : z < m) (hx : 0 ≤ x) (hy : 0 ≤ y) (hy2 : y < 2147483647) : Q (.int z) (upd H a (.lst [.int x, .int y])) := by
  obtain ⟨v, rfl⟩ := Int.eq_ofNat_of_zero_le h0
  exact k v _ h1 (TapeAt.mk hx hy hy2) (SameX.put (SameX.refl a H))
def sp_l_tape (K : PySem.W.Frag) : Sp := fun vs H Q _ => ∃ (a : Addr) (ns : List Int) (k : Int), vs = [.ref a, .int k] ∧ SqL K H a (ns.map V.int) ∧ 0 ≤ k ∧ k < 100 ∧
  ∀ H' p, Same H H' → H p = none → TapeAt H' p → Q (.ref p) H'
def sp_l_size : Sp := fun vs H Q _ => ∃ (a : Addr), vs = [.ref a] ∧ TapeAt H a ∧ ∀ (v : Nat) (H' : Hp), v ≤ 30 → TapeAt H' a → SameX a H H' → Q (vn v) H'
def sp_l_nexts : Sp := fun vs H Q _ => ∃ (a : Addr) (e : Nat), vs = [.ref a, vn e] ∧ TapeAt H a ∧ e ≤ 30 ∧
  ∀ (H' : Hp) (p : Addr) (ns : List Nat), MM.IsMesh ns → ns.length = 2 * e → H p = none → TapeAt H' a → SameX a H H' → H' p = some (.lst (vns ns)) → Q (.ref p) H'
section
variable {P : Program} {w : World} {K : PySem.W.Frag} {mg : Str → Option Value} {base : Heap} {A : Ad}
theorem ok_l_pick (T : Txt K mg A) : FnOk P w K mg base CX0 1 A.f_l_pick A.d_l_pick ["_law_tape_here", "_law_many"] (sp_l_pick) := by
  refine T.F_l_pick.ok sc_l_pick (fun vs H Q E h => ?_) (fun cdv Ar outer s H vs Q E hr h => ?_)
  · obtain ⟨a, m, rfl, _⟩ := h
    rfl
  · obtain ⟨a, m, rfl, ⟨x, y, hA, hx, hy, hy2⟩, hm, hm2, k⟩ := h
    refine ⟨_, (pss_cons (ps_if (pt_cmpR op_ge (pe_ix (RD.k_ixL (K := K) rfl) (pv 0) pe_int (fun _ _ => rfl)) (pe_op op_pow pe_int pe_int) (nomark _))
      (pss_cons (ps_set (i := 2) sc_l_pick.nd rfl (Or.inl rfl) (pe_op op_mod (pe_callTy RD.k_int (by rfl) T.z_int (by decide +kernel) (pa_cons (pe_ix (RD.k_ixL (K := K) rfl) (pv 0) pe_int (fun _ _ => rfl)) pa_nil)) (pv 1)))
      (pss_cons (ps_asg (pe_op op_fdiv (pe_ix (RD.k_ixL (K := K) rfl) (pv 0) pe_int (fun _ _ => rfl)) (pv 1)) (pg_sub (pv 0) pe_int set_list))
      (pss_one (ps_ret (pv 2)))))
      pss_nil)
      (pss_cons (ps_asg (pe_op op_mod (pe_callTy RD.k_int (by rfl) T.z_int (by decide +kernel) (pa_cons (pe_op op_add (pe_op op_add (pe_op op_mul (pe_ix (RD.k_ixL (K := K) rfl) (pv 0) pe_int (fun _ _ => rfl)) pe_int) (pe_op op_mul (pe_ix (RD.k_ixL (K := K) rfl) (pv 0) pe_int (fun _ _ => rfl)) pe_int)) pe_int) pa_nil)) pe_int) (pg_sub (pv 0) pe_int set_list))
      (pss_cons (ps_set (i := 3) sc_l_pick.nd rfl (Or.inl rfl) (pe_op op_mod (pe_callTy RD.k_int (by rfl) T.z_int (by decide +kernel) (pa_cons (pe_op op_add (pe_op op_add (pe_op op_mul (pe_ix (RD.k_ixL (K := K) rfl) (pv 0) pe_int (fun _ _ => rfl)) (pe_ix (RD.k_ixL (K := K) rfl) (pv 0) pe_int (fun _ _ => rfl))) (pe_op op_mul (pe_ix (RD.k_ixL (K := K) rfl) (pv 0) pe_int (fun _ _ => rfl)) pe_int)) pe_int) pa_nil)) pe_int))
      (pss_one (ps_ret (pe_op op_mod (pe_callTy RD.k_int (by rfl) T.z_int (by decide +kernel) (pa_cons (pe_op op_fdiv (pv 3) pe_int) pa_nil)) (pv 1))))))), ?_⟩
    show tSeq _ _ _ [some (.ref a), some (.int m), none, none] H
    walk_at "rd"
    refine RD.ixL (sq hA) rfl ?_
    walk_at "rd"
    refine RD.iC ⟨by decide, by decide, by decide⟩ ?_
    walk_at "rd"
    refine RD.dec (fun hbig => ?_) (fun hsm => ?_)
    · walk_at "rd"
      refine RD.ixL (sq hA) rfl ?_
      walk_at "rd"
      refine RD.iC hm ?_
      walk_at "rd"
      refine RD.ixL (sq hA) rfl ?_
      walk_at "rd"
      refine RD.iC ⟨hm, by omega⟩ ?_
      walk_at "rd"
      refine RD.setL hA rfl ?_
      walk_at "rd"
      exact pick_end k (Int.emod_nonneg _ (by omega)) (Int.emod_lt_of_pos _ hm) (Int.ediv_nonneg hx (by omega)) hy hy2
    · have hx18 : x < 1000000000000000000 := by
        have e : ((10 : Int) ^ (18 : Int).toNat) = 1000000000000000000 := by decide
        rw [e] at hsm
        omega
      walk_at "rd"
      refine RD.ixL (sq hA) rfl ?_
      walk_at "rd"
      refine RD.iC (.inr ⟨by decide, by decide⟩) ?_
      walk_at "rd"
      refine RD.ixL (sq hA) rfl ?_
      walk_at "rd"
      refine RD.iC (.inr ⟨by decide, by decide⟩) ?_
      walk_at "rd"
      refine RD.iC (by decide) ?_
      generalize hy' : (y * 48271 + x * 69621 + 11) % 2147483647 = y'
      have y0 : 0 ≤ y' := by rw [← hy']; exact Int.emod_nonneg _ (by decide)
      have y1 : y' < 2147483647 := by rw [← hy']; exact Int.emod_lt_of_pos _ (by decide)
      walk_at "rd"
      refine RD.setL hA rfl ?_
      have hB : (upd H a (.lst [.int x, .int y'])) a = some (.lst [.int x, .int y']) := upd_same
      walk_at "rd"
      refine RD.ixL (sq hB) rfl ?_
      walk_at "rd"
      refine RD.ixL (sq hB) rfl ?_
      walk_at "rd"
      refine RD.iC (.inl ⟨by omega, by omega⟩) ?_
      walk_at "rd"
      refine RD.ixL (sq hB) rfl ?_
      walk_at "rd"
      refine RD.iC (.inr ⟨by decide, by decide⟩) ?_
      walk_at "rd"
      refine RD.iC (by decide) ?_
      walk_at "rd"
      refine RD.iC ⟨by decide, by decide⟩ ?_
      walk_at "rd"
      refine RD.iC hm ?_
      exact pick_end k (Int.emod_nonneg _ (by omega)) (Int.emod_lt_of_pos _ hm) hx y0 y1
theorem ok_l_tape (T : Txt K mg A) : FnOk P w K mg base CX0 1 A.f_l_tape A.d_l_tape ["_law_script", "_law_k"] (sp_l_tape K) := by
  refine T.F_l_tape.ok sc_l_tape (fun vs H Q E h => ?_) (fun cdv Ar outer s H vs Q E hr h => ?_)
  · obtain ⟨a, ns, k, rfl, _⟩ := h
    rfl
  · obtain ⟨a, ns, k, rfl, hS, hk, hk2, q⟩ := h
    refine ⟨_, (pss_cons (ps_set (i := 2) sc_l_tape.nd rfl (Or.inl rfl) pe_int)
      (pss_cons (ps_if (pt_cmpR (RD.k_neD (K := K) rfl hr.units) (pv 0) (pe_lst pa_nil) (nomark _))
      (pss_one (ps_set (i := 2) sc_l_tape.nd rfl (Or.inl rfl) (pe_ix (RD.k_ixL (K := K) rfl) (pv 0) (pe_op op_mod (pe_callTy RD.k_int (by rfl) T.z_int (by decide +kernel) (pa_cons (pv 1) pa_nil)) (pe_callB (RD.k_len (K := K) rfl) (by rfl) T.z_len (by decide +kernel) (pa_cons (pv 0) pa_nil))) (fun _ _ => rfl))))
      pss_nil)
      (pss_one (ps_ret (pe_lst (pa_cons (pe_callB RD.k_abs (by rfl) T.z_abs (by decide +kernel) (pa_cons (pv 2) pa_nil)) (pa_cons (pe_op op_add (pe_op op_mul pe_int (pv 1)) pe_int) pa_nil))))))), ?_⟩
    show tSeq _ _ _ [some (.ref a), some (.int k), none] H
    walk_at "rd"
    refine ⟨Nat.zero_le _, fun p hp => ?_⟩
    have s1 : Same H (upd H p (.lst [])) := RD.same_new hp
    have hS1 := s1.seq hS
    refine RD.neD (d := dI ns) (e := dI []) (dp_I hS1) (dp_I (l := []) (sq upd_same)) (sh_dI _) (sh_dI _) ?_
    rw [eqv_dI]
    walk_at "rd"
    refine RD.ndec (fun hne => ?_) (fun _ => ?_)
    · have hl : 0 < ns.length := by
        cases ns with
        | nil => exact absurd rfl hne
        | cons _ _ => exact Nat.succ_pos _
      walk_at "rd"
      refine RD.len hS1 ?_
      rw [List.length_map]
      refine RD.iC (show (0 : Int) < _ by omega) ?_
      obtain ⟨j, hj⟩ := Int.eq_ofNat_of_zero_le (Int.emod_nonneg k (show ((ns.length : Nat) : Int) ≠ 0 by omega))
      have hj2 := Int.emod_lt_of_pos k (show (0 : Int) < ((ns.length : Nat) : Int) by omega)
      rw [hj] at hj2 ⊢
      have hjl : j < ns.length := by omega
      refine RD.ixL hS1 (at_n (v := .int ns[j]) (by rw [List.getElem?_map, List.getElem?_eq_getElem hjl]; rfl)) ?_
      walk_at "rd"
      refine RD.iC (.inl ⟨by decide, by decide⟩) ?_
      walk_at "rd"
      refine ⟨(show 2 ≤ sizeLine by decide), fun r hr => ?_⟩
      refine q _ r (s1.trans (RD.same_new hr)) (s1.free hr) (TapeAt.mk ?_ (by omega) (by omega))
      split <;> omega
    · walk_at "rd"
      refine RD.iC (.inl ⟨by decide, by decide⟩) ?_
      walk_at "rd"
      refine ⟨(show 2 ≤ sizeLine by decide), fun r hr => ?_⟩
      refine q _ r (s1.trans (RD.same_new hr)) (s1.free hr) (TapeAt.mk ?_ (by omega) (by omega))
      split <;> omega
theorem ok_l_size (T : Txt K mg A) : FnOk P w K mg base CX0 2 A.f_l_size A.d_l_size ["_law_tape_here"] (sp_l_size) := by
  have G_l_pick := ok_l_pick (P := P) (w := w) (base := base) T
  refine T.F_l_size.ok sc_l_size (fun vs H Q E h => ?_) (fun cdv Ar outer s H vs Q E hr h => ?_)
  · obtain ⟨a, rfl, _⟩ := h
    rfl
  · obtain ⟨a, rfl, tA, q⟩ := h
    refine ⟨_, (pss_cons (ps_set (i := 1) sc_l_size.nd rfl (Or.inl rfl) (pe_call G_l_pick (hr.mono (by decide)) (by rfl) T.g_l_pick T.F_l_pick.kp T.b_l_pick .nil pass0 (pa_cons (pv 0) (pa_cons pe_int pa_nil))))
      (pss_cons (ps_if (pt_cmpR op_eq (pv 1) pe_int (nomark _))
      (pss_one (ps_ret pe_int))
      pss_nil)
      (pss_cons (ps_if (pt_cmpR op_lt (pv 1) pe_int (nomark _))
      (pss_one (ps_ret (pe_call G_l_pick (hr.mono (by decide)) (by rfl) T.g_l_pick T.F_l_pick.kp T.b_l_pick .nil pass0 (pa_cons (pv 0) (pa_cons pe_int pa_nil)))))
      pss_nil)
      (pss_one (ps_ret (pe_call G_l_pick (hr.mono (by decide)) (by rfl) T.g_l_pick T.F_l_pick.kp T.b_l_pick .nil pass0 (pa_cons (pv 0) (pa_cons pe_int pa_nil)))))))), ?_⟩
    show tSeq _ _ _ [some (.ref a), none] H
    walk_at "rd"
    refine ⟨a, 32, rfl, tA, by decide, by decide, fun v H1 hv t1 s1 => ?_⟩
    walk_at "rd"
    refine RD.dec (fun _ => ?_) (fun _ => ?_)
    · walk_at "rd"
      exact q 30 H1 (by omega) t1 s1
    · walk_at "rd"
      refine RD.dec (fun _ => ?_) (fun _ => ?_)
      · walk_at "rd"
        exact ⟨a, 13, rfl, t1, by decide, by decide, fun v H2 hv t2 s2 => q v H2 (by omega) t2 (s1.trans s2)⟩
      · walk_at "rd"
        exact ⟨a, 8, rfl, t1, by decide, by decide, fun v H2 hv t2 s2 => q v H2 (by omega) t2 (s1.trans s2)⟩
theorem ok_l_nexts (T : Txt K mg A) : FnOk P w K mg base CX0 2 A.f_l_nexts A.d_l_nexts ["_law_tape_here", "_law_edges"] (sp_l_nexts) := by
  have G_l_pick := ok_l_pick (P := P) (w := w) (base := base) T
  refine T.F_l_nexts.ok sc_l_nexts (fun vs H Q E h => ?_) (fun cdv Ar outer s H vs Q E hr h => ?_)
  · obtain ⟨a, e, rfl, _⟩ := h
    rfl
  · obtain ⟨a, e, rfl, tA, he, q⟩ := h
    refine ⟨_, (pss_cons (ps_setLc (i := 2) (own := [("_law_k", 4)]) (g := gName 4) (by rfl) sc_l_nexts.nd rfl rfl (sw_true rfl rfl rfl (by decide +kernel)) (pi_range1 (by rfl) T.z_range (pa_cons (pe_op op_mul pe_int (pv 1)) pa_nil)) (blkOk_by (own := [("_law_k", 4)]) (N := ["_law_tape_here", "_law_edges", "_law_left", "_law_nexts_here", "_law_k", "_law_at"]) (sc := defScope s_l_nexts) (by decide +kernel)) (fun _ _ _ _ _ => (pg_name (i := 4) sc_l_nexts.nd rfl (Or.inl rfl))) (fun _ _ _ _ _ => pts_nil) (fun _ _ _ _ _ => (pv 4)))
      (pss_cons (ps_set (i := 3) sc_l_nexts.nd rfl (Or.inl rfl) (pe_lst pa_nil))
      (pss_cons (ps_for PassesOwn.never rfl (pi_range1 (by rfl) T.z_range (pa_cons (pe_op op_mul pe_int (pv 1)) pa_nil)) (pg_name (i := 4) sc_l_nexts.nd rfl (Or.inl rfl))
      (pss_cons (ps_set (i := 5) sc_l_nexts.nd rfl (Or.inl rfl) (pe_call G_l_pick (hr.mono (by decide)) (by rfl) T.g_l_pick T.F_l_pick.kp T.b_l_pick .nil pass0 (pa_cons (pv 0) (pa_cons (pe_callB (RD.k_len (K := K) rfl) (by rfl) T.z_len (by decide +kernel) (pa_cons (pv 2) pa_nil)) pa_nil))))
      (pss_cons (ps_expr (RD.k_bm (K := K) rfl PySem.F.plainAttrs_list PySem.F.slot_list_append PySem.F.type_list_append mt_append (pv 3) (pa_cons (pe_ix (RD.k_ixL (K := K) rfl) (pv 2) (pv 5) (fun _ _ => rfl)) pa_nil)))
      (pss_one (ps_set (i := 2) sc_l_nexts.nd rfl (Or.inl rfl) (pe_op op_cat (pe_slice (RD.k_slL (K := K) rfl) (pv 2) po_none (po_some (pv 5))) (pe_slice (RD.k_slL (K := K) rfl) (pv 2) (po_some (pe_op op_add (pv 5) pe_int)) po_none)))))))
      (pss_one (ps_ret (pv 3)))))), ?_⟩
    show tSeq _ _ _ [some (.ref a), some (vn e), none, none, none, none] H
    walk_at "rd"
    refine RD.iC (.inl ⟨by decide, by decide⟩) ?_
    walk_at "rd"
    refine RD.lcR (z := 2 * (e : Int)) (n := 2 * e) (by omega) (by omega) (by omega) (fun _ => true) vn (fun i H1 Q' R' hi s1 kT kF => ?_) (fun H1 l nl s1 el => ?_)
    · walk_at "wp"
      walk_at "rd"
      refine ⟨rfl, ?_⟩
      walk_at "rd"
      exact kT rfl _ (Same.refl _)
    rw [RD.pick_all (fun _ => rfl)] at el
    walk_at "rd"
    refine ⟨Nat.zero_le _, fun p np => ?_⟩
    walk_at "rd"
    refine RD.iC (.inl ⟨by decide, by decide⟩) ?_
    walk_at "rd"
    have la : l ≠ a := fun z => by
      obtain ⟨x, y, hA, _⟩ := tA
      rw [z, hA] at nl
      cases nl
    have tA1 : TapeAt (upd H1 p (.lst [])) a := (tA.same s1).same (RD.same_new np)
    have pa : p ≠ a := fun z => by
      obtain ⟨x, y, hA, _⟩ := tA.same s1
      rw [z, hA] at np
      cases np
    have np0 : H p = none := s1.free np
    refine RD.goR (n := 2 * e) (by omega) (by omega) (by omega) (fun i σ H2 => ∃ (l' : Addr) (ns left : List Nat) (o4 o5 : Option V), σ = [some (.ref a), some (vn e), some (.ref l'), some (.ref p), o4, o5] ∧ l' ≠ a ∧ l' ≠ p ∧ TapeAt H2 a ∧ SameX a H H2 ∧ H2 l' = some (.lst (vns left)) ∧ H2 p = some (.lst (vns ns)) ∧ (ns ++ left).Perm (List.range (2 * e)) ∧ ns.length = i)
      ⟨l, [], List.range (2 * e), none, none, rfl, la, ne_of_none el np, tA1, (Same.x s1).mut np0, by rw [upd_ne (ne_of_none el np)]; exact el, upd_same, List.Perm.refl _, rfl⟩ ?_ ?_
    · rintro i σ H2 hi ⟨l', ns, left, o4, o5, rfl, la', lp', tA2, s2, el2, ep2, pm, hl⟩
      have hlen := pm.length_eq
      rw [List.length_append, List.length_range, hl] at hlen
      walk_at "rd"
      refine RD.len (sq el2) ?_
      walk_at "rd"
      refine ⟨a, _, rfl, tA2, by rw [vns_len]; omega, by rw [vns_len]; omega, fun v H3 hv tA3 s3 => ?_⟩
      rw [vns_len] at hv
      have hv' : v < left.length := by omega
      have el3 := s3 _ _ el2 la'
      have ep3 := s3 _ _ ep2 pa
      walk_at "rd"
      refine ⟨RD.tyL (sq ep3), ?_⟩
      walk_at "rd"
      refine RD.ixL (sq el3) (at_n (vns_at (List.getElem?_eq_getElem hv'))) ?_
      walk_at "rd"
      refine RD.app ep3 (by rw [vns_len]; exact szt (by omega)) ?_
      have el4 : (upd H3 p (.lst (vns ns ++ [vn left[v]]))) l' = some (.lst (vns left)) := by rw [upd_ne lp']; exact el3
      walk_at "rd"
      refine RD.slL (sq el4) fun c1 nc1 => ?_
      have s4 := RD.same_new (o := .lst (cutV (vns left) none (some (v : Int)))) nc1
      walk_at "rd"
      refine RD.slL (sq (s4 _ _ el4)) fun c2 nc2 => ?_
      have s5 := RD.same_new (o := .lst (cutV (vns left) (some ((v : Int) + 1)) none)) nc2
      have e1 : cutV (vns left) none (some (v : Int)) = vns (left.take v) := by rw [cut_to]; exact (List.map_take ..).symm
      have e2 : cutV (vns left) (some ((v : Int) + 1)) none = vns (left.drop (v + 1)) := by
        rw [show ((v : Int) + 1) = ((v + 1 : Nat) : Int) by omega, cut_from]
        exact (List.map_drop ..).symm
      rw [e1] at nc2 s4 s5 ⊢
      rw [e2] at s5 ⊢
      refine RD.cat (s5 _ _ upd_same) upd_same (by rw [vns_len, vns_len, List.length_take, List.length_drop]; exact szl (by omega)) fun c3 nc3 => ?_
      have s6 := RD.same_new (o := .lst (vns (left.take v) ++ vns (left.drop (v + 1)))) nc3
      walk_at "rd"
      have sA := (s4.trans s5).trans s6
      have ta5 : TapeAt (upd H3 p (.lst (vns ns ++ [vn left[v]]))) a := by
        obtain ⟨x, y, hA, r⟩ := tA3
        exact ⟨x, y, by rw [upd_ne pa.symm]; exact hA, r⟩
      have ep5 : (upd H3 p (.lst (vns ns ++ [vn left[v]]))) p = some (.lst (vns (ns ++ [left[v]]))) := by rw [upd_same, vns_app]; rfl
      have fr : ∀ b o, (upd H3 p (.lst (vns ns ++ [vn left[v]]))) b = some o → b ≠ c3 := fun b o h => ne_of_none ((s4.trans s5) _ _ h) nc3
      refine ⟨c3, ns ++ [left[v]], left.take v ++ left.drop (v + 1), _, _, rfl, ?_, ?_, ta5.same sA, ?_, by rw [upd_same, vns_app], sA _ _ ep5, ?_, by rw [List.length_append, hl]; rfl⟩
      · obtain ⟨x, y, hA, r⟩ := ta5
        exact (fr _ _ hA).symm
      · exact (fr _ _ ep5).symm
      · exact ((s2.trans s3).mut np0).trans (Same.x sA)
      · rw [List.append_assoc]
        refine List.Perm.trans (List.Perm.append_left ns ?_) pm
        rw [← List.eraseIdx_eq_take_drop_succ]
        exact MM.perm_erase left v hv'
    · rintro σ H2 ⟨l', ns, left, o4, o5, rfl, la', lp', tA2, s2, el2, ep2, pm, hl⟩
      have hlen := pm.length_eq
      rw [List.length_append, List.length_range, hl] at hlen
      have e0 : left = [] := List.eq_nil_of_length_eq_zero (by omega)
      subst e0
      rw [List.append_nil] at pm
      walk_at "rd"
      exact q H2 p ns ⟨by rw [hl]; exact pm, by omega⟩ hl np0 tA2 s2 ep2
end
end Pf

namespace Pf
open PySem PySem.Spec PyProof.Rows L2 MM
/-! ### the object -/
theorem fp_ne : ¬ (("following" : Str) = "preceding") := by decide +kernel
def mflds (a b : Addr) : List (Str × V) := putF "preceding" (.ref b) (putF "following" (.ref a) [])
theorem mf_f (a b : Addr) : (mflds a b).lookup ("following" : Str) = some (.ref a) := by
  unfold mflds
  rw [lookup_putF, if_neg fp_ne, lookup_putF, if_pos rfl]
theorem mf_p (a b : Addr) : (mflds a b).lookup ("preceding" : Str) = some (.ref b) := by
  unfold mflds
  rw [lookup_putF, if_pos rfl]
theorem mf_no (a b : Addr) {m : Str} (h1 : ¬ m = "preceding") (h2 : ¬ m = "following") : (mflds a b).lookup m = none := by
  unfold mflds
  rw [lookup_putF, if_neg h1, lookup_putF, if_neg h2]
  rfl
structure MeshAt (A : Ad) (H : Hp) (p a b : Addr) (ns : List Nat) : Prop where
  ob : ∃ dx, H p = some (.ins A.c_Mesh dx (mflds a b))
  fo : H a = some (.lst (vns ns))
  pr : H b = some (.lst (vns (inv ns)))
theorem MeshAt.same {A : Ad} {H H' : Hp} {p a b : Addr} {ns : List Nat} (m : MeshAt A H p a b ns) (s : Same H H') : MeshAt A H' p a b ns := by
  obtain ⟨⟨dx, h⟩, h1, h2⟩ := m
  exact ⟨⟨dx, s _ _ h⟩, s _ _ h1, s _ _ h2⟩
theorem MeshAt.sameX {A : Ad} {H H' : Hp} {p a b t : Addr} {ns : List Nat} (m : MeshAt A H p a b ns) (s : SameX t H H') (n1 : p ≠ t) (n2 : a ≠ t) (n3 : b ≠ t) : MeshAt A H' p a b ns := by
  obtain ⟨⟨dx, h⟩, h1, h2⟩ := m
  exact ⟨⟨dx, s _ _ h n1⟩, s _ _ h1 n2, s _ _ h2 n3⟩
/-! ### promises -/
def sp_twin_of : Sp := fun vs H Q _ => ∃ h : Nat, vs = [vn h] ∧ Q (vn (tw h)) H
def sp_rounds (K : PySem.W.Frag) : Sp := fun vs H Q _ => ∃ (a : Addr) (st : List Nat), vs = [.ref a] ∧ SqL K H a (vns st) ∧ PermOn (fn st) st.length ∧ st.length ≤ 1000 ∧
  ∀ (H' : Hp) (q : Addr) (qs : List Addr), Same H H' → H q = none → (∀ x ∈ qs, H x = none ∧ x ≠ q) → LL H' q qs (rnds (fn st) st.length st.length) → Q (.ref q) H'
def sp_are (K : PySem.W.Frag) : Sp := fun vs H Q _ => ∃ (a : Addr) (ns : List Int), vs = [.ref a] ∧ SqL K H a (ns.map V.int) ∧ ns.length ≤ 1000 ∧ ∀ H', Same H H' → Q (.bl true) H'
def sp_init (A : Ad) : Sp := fun vs H Q _ => ∃ (p dx q : Addr) (ns : List Nat), vs = [.ref p, .ref q] ∧ H p = some (.ins A.c_Mesh dx []) ∧ H q = some (.lst (vns ns)) ∧ IsMesh ns ∧ ns.length ≤ 62 ∧
  ∀ (H' : Hp) (a b : Addr), H a = none → H b = none → a ≠ b → MeshAt A H' p a b ns → SameX p H H' → Q .non H'
def sp_after (A : Ad) : Sp := fun vs H Q _ => ∃ (p a b : Addr) (ns : List Nat) (h : Nat), vs = [.ref p, vn h] ∧ MeshAt A H p a b ns ∧ h < ns.length ∧ Q (vn (fn ns h)) H
def sp_before (A : Ad) : Sp := fun vs H Q _ => ∃ (p a b : Addr) (ns : List Nat) (h : Nat), vs = [.ref p, vn h] ∧ MeshAt A H p a b ns ∧ h < ns.length ∧ Q (vn (ns.idxOf h)) H
def sp_twin : Sp := fun vs H Q _ => ∃ (p : Addr) (h : Nat), vs = [.ref p, vn h] ∧ Q (vn (tw h)) H
def sp_turned (A : Ad) : Sp := fun vs H Q _ => ∃ (p a b : Addr) (ns : List Nat) (h : Nat), vs = [.ref p, vn h] ∧ MeshAt A H p a b ns ∧ h < ns.length ∧ Q (vn (tw (ns.idxOf h))) H
def sp_nexts (A : Ad) : Sp := fun vs H Q _ => ∃ (p a b : Addr) (ns : List Nat), vs = [.ref p] ∧ MeshAt A H p a b ns ∧ ∀ q, H q = none → Q (.ref q) (upd H q (.lst (vns ns)))
def sp_lists (A : Ad) (f : Bool) : Sp := fun vs H Q _ => ∃ (p a b : Addr) (ns : List Nat), vs = [.ref p] ∧ MeshAt A H p a b ns ∧ IsMesh ns ∧ ns.length ≤ 1000 ∧
  ∀ (H' : Hp) (q : Addr) (qs : List Addr), Same H H' → H q = none → (∀ x ∈ qs, H x = none ∧ x ≠ q) → LL H' q qs (rnds (fn (stp ns f)) ns.length ns.length) → Q (.ref q) H'
/-! ### mathematics of the loop -/
def mkK (x : Nat) : Key × V := (Sum.inl (x : Int), V.bl true)
theorem val_mk (x : Nat) : ∀ L : List Nat, valV (L.map mkK) (Sum.inl (x : Int) : Key) = if x ∈ L then some (.bl true) else none
  | [] => rfl
  | y :: L => by
    rw [List.map_cons]
    by_cases e : y = x
    · subst e
      rw [valV_pos (by rfl), if_pos List.mem_cons_self]
      rfl
    · have ne : ¬ (mkK y).1 = (Sum.inl (x : Int) : Key) := fun z => e (Int.ofNat.inj (Sum.inl.inj z))
      rw [valV_neg ne, val_mk x L]
      by_cases m : x ∈ L
      · rw [if_pos m, if_pos (List.mem_cons_of_mem _ m)]
      · rw [if_neg m, if_neg fun z => by
          rcases List.mem_cons.mp z with z | z
          · exact e z.symm
          · exact m z]
def cmin (f : Nat → Nat) (n h : Nat) : List Nat := if isMin f n h = true then cyc f n h else []
theorem rnds_next (f : Nat → Nat) (n h : Nat) : rnds f n (h + 1) = rnds f n h ++ (if (cmin f n h).isEmpty = true then [] else [cmin f n h]) := by
  show rnds f n h ++ (if isMin f n h = true then [cyc f n h] else []) = _
  unfold cmin
  by_cases q : isMin f n h = true
  · rw [if_pos q, if_pos q]; rfl
  · rw [if_neg q, if_neg q]; rfl
theorem cmin_stop {f : Nat → Nat} {n h j : Nat} (p : PermOn f n) (hh : h < n) (hj : j ≤ (cmin f n h).length) : it f j h ∈ (rnds f n h).flatten ++ (cmin f n h).take j ↔ j = (cmin f n h).length := by
  by_cases q : isMin f n h = true
  · have ec : cmin f n h = cyc f n h := if_pos q
    rw [ec] at hj ⊢
    constructor
    · intro hm
      rcases Nat.lt_or_ge j (cyc f n h).length with hl | hl
      · exfalso
        have hat := cyc_at p hh hl
        have hmem : it f j h ∈ cyc f n h := List.mem_of_getElem? hat
        rcases List.mem_append.mp hm with hm | hm
        · exact min_out p hh q hmem hm
        · obtain ⟨i, hi, e⟩ := List.mem_take_iff_getElem.mp hm
          have hi' : i < (cyc f n h).length := by omega
          have e2 : (cyc f n h)[i]? = (cyc f n h)[j]? := by rw [List.getElem?_eq_getElem hi', e, hat]
          have := (List.getElem?_inj hi' (cyc_nodup p hh)).mp e2
          omega
      · omega
    · rintro rfl
      rw [cyc_end p hh]
      refine List.mem_append_right _ ?_
      rw [List.take_length]
      exact cyc_self h
  · have ec : cmin f n h = [] := if_neg q
    rw [ec] at hj ⊢
    have : j = 0 := by simpa using hj
    subst this
    constructor
    · intro _; rfl
    · intro _
      exact List.mem_append_left _ (not_min_in p hh (by simpa using q))
theorem cmin_at {f : Nat → Nat} {n h j : Nat} (p : PermOn f n) (hh : h < n) (hj : j < (cmin f n h).length) : (cmin f n h)[j]? = some (it f j h) := by
  by_cases q : isMin f n h = true
  · have ec : cmin f n h = cyc f n h := if_pos q
    rw [ec] at hj ⊢
    exact cyc_at p hh hj
  · have ec : cmin f n h = [] := if_neg q
    rw [ec] at hj
    exact absurd hj (Nat.not_lt_zero _)
theorem cmin_len {f : Nat → Nat} {n h : Nat} (p : PermOn f n) (hh : h < n) : (cmin f n h).length ≤ n := by
  unfold cmin
  by_cases q : isMin f n h = true
  · rw [if_pos q]; exact cyc_len p hh
  · rw [if_neg q]; exact Nat.zero_le _
theorem nodup_len : ∀ (n : Nat) (l : List Nat), l.Nodup → (∀ x ∈ l, x < n) → l.length ≤ n := by
  intro n l hN hB
  rcases Nat.lt_or_ge n l.length with h | h
  · exfalso
    obtain ⟨i, j, hij, hj, e⟩ := pigeon n (fun i => l.getD i 0) (fun i hi => by
      have hi' : i < l.length := by omega
      show l.getD i 0 < n
      rw [List.getD_eq_getElem?_getD, List.getElem?_eq_getElem hi']
      exact hB _ (List.getElem_mem _))
    have hi' : i < l.length := by omega
    have hj' : j < l.length := by omega
    have e' : l.getD i 0 = l.getD j 0 := e
    rw [List.getD_eq_getElem?_getD, List.getD_eq_getElem?_getD, List.getElem?_eq_getElem hi', List.getElem?_eq_getElem hj'] at e'
    have e2 : l[i]? = l[j]? := by
      rw [List.getElem?_eq_getElem hi', List.getElem?_eq_getElem hj']
      exact congrArg some e'
    have := (List.getElem?_inj hi' hN).mp e2
    omega
  · exact h
theorem flat_len {f : Nat → Nat} {n m : Nat} (p : PermOn f n) (hm : m ≤ n) : (rnds f n m).flatten.length ≤ n := by
  refine nodup_len n _ (rnds_nodup p m hm) fun x hx => ?_
  obtain ⟨g, hg, _, hx⟩ := mem_flat.mp hx
  exact cyc_lt p (by omega) hx
theorem inv_of {ns L : List Nat} (m : IsMesh ns) (hl : L.length = ns.length) (h : ∀ j x : Nat, ns[j]? = some x → L[x]? = some j) : L = inv ns := by
  refine List.ext_getElem? fun x => ?_
  rcases Nat.lt_or_ge x ns.length with hx | hx
  · rw [inv_at hx, h _ _ (idx_at (m.mem hx))]
  · rw [List.getElem?_eq_none (by omega), List.getElem?_eq_none (by rw [inv_len]; omega)]
section
variable {P : Program} {w : World} {K : PySem.W.Frag} {mg : Str → Option Value} {base : Heap} {A : Ad}
theorem ok_twin_of (T : Txt K mg A) : FnOk P w K mg base CX0 1 A.f_twin_of A.d_twin_of ["half"] (sp_twin_of) := by
  refine T.F_twin_of.ok sc_twin_of (fun vs H Q E h => ?_) (fun cdv Ar outer s H vs Q E hr h => ?_)
  · obtain ⟨n, rfl, _⟩ := h
    rfl
  · obtain ⟨n, rfl, q⟩ := h
    refine ⟨_, (pss_one (ps_ret (pe_ifExp (pt_cmpR op_eq (pe_op op_mod (pv 0) pe_int) pe_int (nomark _)) (pe_op op_add (pv 0) pe_int) (pe_op op_sub (pv 0) pe_int)))), ?_⟩
    show tRet _ _ [some (vn n)] H
    walk_at "rd"
    refine RD.iC (by decide) ?_
    walk_at "rd"
    refine RD.dec (fun e => ?_) (fun e => ?_)
    · walk_at "rd"
      have e2 : ((n : Int) + 1) = ((tw n : Nat) : Int) := by unfold tw; rw [if_pos (by omega)]; omega
      rw [e2]
      exact q
    · walk_at "rd"
      have e2 : ((n : Int) - 1) = ((tw n : Nat) : Int) := by unfold tw; rw [if_neg (by omega)]; omega
      rw [e2]
      exact q
theorem ok_rounds (T : Txt K mg A) : FnOk P w K mg base CX0 1 A.f_rounds A.d_rounds ["steps"] (sp_rounds K) := by
  refine T.F_rounds.ok sc_rounds (fun vs H Q E h => ?_) (fun cdv Ar outer s H vs Q E hr h => ?_)
  · obtain ⟨a, st, rfl, _⟩ := h
    rfl
  · obtain ⟨a, st, rfl, hS, pf, hn, q⟩ := h
    refine ⟨_, (pss_cons (ps_set (i := 1) sc_rounds.nd rfl (Or.inl rfl) pe_dnewK)
      (pss_cons (ps_set (i := 2) sc_rounds.nd rfl (Or.inl rfl) (pe_lst pa_nil))
      (pss_cons (ps_for PassesOwn.never rfl (pi_range1 (by rfl) T.z_range (pa_cons (pe_callB (RD.k_len (K := K) rfl) (by rfl) T.z_len (by decide +kernel) (pa_cons (pv 0) pa_nil)) pa_nil)) (pg_name (i := 3) sc_rounds.nd rfl (Or.inl rfl))
      (pss_cons (ps_set (i := 4) sc_rounds.nd rfl (Or.inl rfl) (pe_lst pa_nil))
      (pss_cons (ps_while PassesOwn.never (pt_cmp (pc_dnotin (hu_of hr) (pv 3) (pv 1)))
      (pss_cons (ps_dput (hu_of hr) (pv 1) (pv 3) pe_bl rfl)
      (pss_cons (ps_expr (RD.k_bm (K := K) rfl PySem.F.plainAttrs_list PySem.F.slot_list_append PySem.F.type_list_append mt_append (pv 4) (pa_cons (pv 3) pa_nil)))
      (pss_one (ps_set (i := 3) sc_rounds.nd rfl (Or.inl rfl) (pe_ix (RD.k_ixL (K := K) rfl) (pv 0) (pv 3) (fun _ _ => rfl)))))))
      (pss_one (ps_if (RD.k_tru (K := K) rfl (pv 4) (by intro _; rfl))
      (pss_one (ps_expr (RD.k_bm (K := K) rfl PySem.F.plainAttrs_list PySem.F.slot_list_append PySem.F.type_list_append mt_append (pv 2) (pa_cons (pv 4) pa_nil))))
      pss_nil)))))
      (pss_one (ps_ret (pv 2)))))), ?_⟩
    show tSeq _ _ _ [some (.ref a), none, none, none, none] H
    walk_at "rd"
    intro d nd
    walk_at "rd"
    refine ⟨Nat.zero_le _, fun fo nfo => ?_⟩
    have s0 : Same H (upd H d (.dK [])) := RD.same_new nd
    have s1 : Same H (upd (upd H d (.dK [])) fo (.lst [])) := s0.trans (RD.same_new nfo)
    have nfo0 : H fo = none := s0.free nfo
    have dfo : d ≠ fo := ne_of_none upd_same nfo
    walk_at "rd"
    refine RD.len (s1.seq hS) ?_
    rw [vns_len]
    walk_at "rd"
    refine RD.goR (n := st.length) (by omega) (by omega) (by omega) (fun i σ H2 => ∃ (qs : List Addr) (o3 o4 : Option V), σ = [some (.ref a), some (.ref d), some (.ref fo), o3, o4] ∧ Same H H2 ∧
        H2 d = some (.dK ((rnds (fn st) st.length i).flatten.map mkK)) ∧ (∀ x ∈ qs, H x = none ∧ x ≠ fo ∧ x ≠ d) ∧ LL H2 fo qs (rnds (fn st) st.length i))
      ⟨[], none, none, rfl, s1, by rw [upd_ne dfo, upd_same]; rfl, (by intro x hx; cases hx), upd_same, .nil⟩ ?_ ?_
    · rintro i σ H2 hi ⟨qs, o3, o4, rfl, s2, ed, hqs, ll⟩
      walk_at "rd"
      refine ⟨Nat.zero_le _, fun m nm => ?_⟩
      have nm0 : H m = none := s2.free nm
      have dm : d ≠ m := ne_of_none ed nm
      have fm : fo ≠ m := ne_of_none ll.top nm
      have qm : ∀ x ∈ qs, x ≠ m := fun x hx => by
        obtain ⟨b, _, e⟩ := paired_mem ll.each x hx
        exact ne_of_none e nm
      walk_at "rd"
      -- the walk
      refine RD.whl (fun k σ H3 => ∃ j, j + k = (cmin (fn st) st.length i).length ∧ σ = [some (.ref a), some (.ref d), some (.ref fo), some (vn (it (fn st) j i)), some (.ref m)] ∧ Same H H3 ∧
          H3 d = some (.dK (((rnds (fn st) st.length i).flatten ++ (cmin (fn st) st.length i).take j).map mkK)) ∧ H3 m = some (.lst (vns ((cmin (fn st) st.length i).take j))) ∧ LL H3 fo qs (rnds (fn st) st.length i))
        (cmin (fn st) st.length i).length ⟨0, by omega, rfl, RD.same_mut s2 nm0, by rw [upd_ne dm, List.take_zero, List.append_nil]; exact ed, upd_same, ll.same (RD.same_new nm)⟩ ?_
      rintro k σ H3 ⟨j, hj, rfl, s3, ed3, em3, ll3⟩
      have hst := cmin_stop (j := j) pf hi (by omega)
      walk_at "rd"
      refine ⟨d, _, rfl, DGet.k (k := Sum.inl ((it (fn st) j i : Nat) : Int)) ed3, ?_⟩
      rw [val_mk]
      by_cases hend : j = (cmin (fn st) st.length i).length
      · rw [if_pos (hst.mpr hend)]
        walk_at "rd"
        show (if false = true then _ else _)
        walk_at "rd"
        refine RD.truL (sq em3) ?_
        rw [hend, List.take_length] at em3 ed3 ⊢
        cases hc : (cmin (fn st) st.length i) with
        | nil =>
          rw [hc] at ed3
          walk_at "rd"
          refine ⟨qs, _, _, rfl, s3, ?_, hqs, ?_⟩
          · rw [rnds_next, hc]
            simpa using ed3
          · rw [rnds_next, hc]
            simpa using ll3
        | cons c0 cr =>
          rw [hc] at ed3 em3
          show (if true = true then _ else _)
          walk_at "rd"
          refine ⟨RD.tyL (sq ll3.top), ?_⟩
          walk_at "rd"
          have hl := rnds_len (f := fn st) (n := st.length) i
          have hl2 := paired_len ll3.each
          refine RD.app ll3.top (by rw [List.length_map]; exact szt (by omega)) ?_
          refine ⟨qs ++ [m], _, _, rfl, RD.same_mut s3 nfo0, ?_, ?_, ?_, ?_⟩
          · rw [upd_ne dfo, rnds_next, hc]
            simpa using ed3
          · intro x hx
            rcases List.mem_append.mp hx with hx | hx
            · exact hqs x hx
            · rw [List.mem_singleton.mp hx]
              exact ⟨nm0, fm.symm, dm.symm⟩
          · rw [upd_same, List.map_append]
            rfl
          · rw [rnds_next, hc]
            have e1 : Paired (fun q xs => (upd H3 fo (.lst (qs.map V.ref ++ [V.ref m]))) q = some (.lst (vns xs))) qs (rnds (fn st) st.length i) := by
              exact paired_upd ll3.each fun x hx => (hqs x hx).2.1
            refine paired_app e1 (.cons ?_ .nil)
            rw [upd_ne fm.symm]
            exact em3
      · have hlt : j < (cmin (fn st) st.length i).length := by omega
        have hnot := fun z => hend (hst.mp z)
        rw [if_neg hnot]
        walk_at "rd"
        show (if true = true then _ else _)
        walk_at "rd"
        refine RD.wN ?_
        walk_at "rd"
        have hfl := flat_len (m := i) pf (by omega)
        have hcl := cmin_len pf hi
        refine ⟨d, _, rfl, DPut.k (k := Sum.inl ((it (fn st) j i : Nat) : Int)) ed3 ?_, ?_⟩
        · rw [List.length_map, List.length_append, List.length_take]
          exact szt (by omega)
        rw [putK_new _ (by rw [val_mk, if_neg hnot])]
        have em4 : ∀ o, (upd H3 d o) m = some (.lst (vns ((cmin (fn st) st.length i).take j))) := fun o => by rw [upd_ne dm.symm]; exact em3
        walk_at "rd"
        refine ⟨RD.tyL (sq (em4 _)), ?_⟩
        walk_at "rd"
        refine RD.app (em4 _) (by rw [vns_len, List.length_take]; exact szt (by omega)) ?_
        have hx : it (fn st) j i < st.length := pf.it_lt j i hi
        have hS' : SqL K (upd (upd H3 d (.dK (((rnds (fn st) st.length i).flatten ++ (cmin (fn st) st.length i).take j).map mkK ++ [(Sum.inl ((it (fn st) j i : Nat) : Int), .bl true)]))) m (.lst (vns ((cmin (fn st) st.length i).take j) ++ [vn (it (fn st) j i)]))) a (vns st) := (RD.same_mut (RD.same_mut s3 nd) nm0).seq hS
        walk_at "rd"
        refine RD.ixL hS' (at_n (vns_at (fn_at hx))) ?_
        walk_at "rd"
        have tk := RD.take_one (cmin_at pf hi hlt)
        refine ⟨k - 1, by omega, j + 1, by omega, rfl, RD.same_mut (RD.same_mut s3 nd) nm0, ?_, ?_, ?_⟩
        · rw [upd_ne dm, upd_same, tk]
          simp only [List.map_append, List.append_assoc]
          rfl
        · rw [upd_same, tk, vns_app]
          rfl
        · refine ⟨by rw [upd_ne fm, upd_ne dfo.symm]; exact ll3.top, paired_upd (paired_upd ll3.each fun x hx => (hqs x hx).2.2) qm⟩
    · rintro σ H2 ⟨qs, o3, o4, rfl, s2, ed, hqs, ll⟩
      walk_at "rd"
      exact q H2 fo qs s2 nfo0 (fun x hx => ⟨(hqs x hx).1, (hqs x hx).2.1⟩) ll
theorem ok_are_integers (T : Txt K mg A) : FnOk P w K mg base CX0 1 A.f_are_integers A.d_are_integers ["values"] (sp_are K) := by
  refine T.F_are_integers.ok sc_are_integers (fun vs H Q E h => ?_) (fun cdv Ar outer s H vs Q E hr h => ?_)
  · obtain ⟨a, ns, rfl, _⟩ := h
    rfl
  · obtain ⟨a, ns, rfl, hS, hl, q⟩ := h
    refine ⟨_, (pss_one (ps_ret (pe_callB (RD.k_all (K := K) rfl rfl) (by rfl) T.z_all (by decide +kernel) (pa_cons (pe_lc (own := [("value", 1)]) (g := gName 1) (by rfl) sc_are_integers.nd (RD.k_pil (K := K) rfl (pv 0)) (blkOk_by (own := [("value", 1)]) (N := ["values", "value"]) (sc := defScope s_are_integers) (by decide +kernel)) (fun _ _ _ _ _ => (pg_name (i := 1) sc_are_integers.nd rfl (Or.inl rfl))) (fun _ _ _ _ _ => pts_nil) (fun _ _ _ _ _ => (pe_and (pe_callB (RD.k_isi (K := K) rfl) (by rfl) T.z_isinstance (by decide +kernel) (pa_cons (pv 1) (pa_cons (pe_bltn (v := .ty "int") (by rfl) T.z_int (by decide +kernel) rfl) pa_nil))) (pe_one (pe_not (pe_callB (RD.k_isi (K := K) rfl) (by rfl) T.z_isinstance (by decide +kernel) (pa_cons (pv 1) (pa_cons (pe_bltn (v := .ty "bool") (by rfl) T.z_bool (by decide +kernel) rfl) pa_nil)))))))) pa_nil)))), ?_⟩
    show tRet _ _ [some (.ref a), none] H
    walk_at "rd"
    refine RD.lcL hS (by rw [List.length_map]; exact szl (by omega)) (fun _ => true) (fun _ => .bl true) (fun i x H1 Q' R' hx s1 kT kF => ?_) (fun H1 l nl s1 el => ?_)
    · obtain ⟨z, rfl⟩ : ∃ z, x = V.int z := by
        rw [List.getElem?_map] at hx
        cases e : ns[i]? with
        | none => rw [e] at hx; cases hx
        | some z => rw [e] at hx; exact ⟨z, (Option.some.inj hx).symm⟩
      walk_at "wp"
      walk_at "rd"
      refine ⟨rfl, ?_⟩
      walk_at "rd"
      refine RD.isi (.ty "int") (.base (.int z)) (kit_ty (r := true) (by decide +kernel)) ?_
      walk_at "rd"
      refine RD.isi (.ty "bool") (.base (.int z)) (kit_ty (r := false) (by decide +kernel)) ?_
      walk_at "rd"
      exact kT rfl _ (Same.refl _)
    rw [RD.pick_all (fun _ => rfl)] at el
    walk_at "rd"
    refine RD.all1 (bs := ns.map fun _ => true) (sq (by rw [el, List.map_map, List.map_map]; rfl)) ?_
    have e : (ns.map fun _ => true).all id = true := by simp
    rw [e]
    exact q H1 s1
theorem ok_Mesh_d_initd_ (T : Txt K mg A) : FnOk P w K mg base CX0 2 A.f_Mesh_d_initd_ A.d_Mesh_d_initd_ ["self", "nexts"] (sp_init A) := by
  have G_are_integers := ok_are_integers (P := P) (w := w) (base := base) T
  refine T.F_Mesh_d_initd_.ok sc_Mesh_d_initd_ (fun vs H Q E h => ?_) (fun cdv Ar outer s H vs Q E hr h => ?_)
  · obtain ⟨p, dx, r, ns, rfl, _⟩ := h
    rfl
  · obtain ⟨p, dx, r, ns, rfl, hp, hr0, hM, hl, q⟩ := h
    refine ⟨_, (pss_cons (ps_set (i := 2) sc_Mesh_d_initd_.nd rfl (Or.inl rfl) (pe_callB (RD.k_len (K := K) rfl) (by rfl) T.z_len (by decide +kernel) (pa_cons (pv 1) pa_nil)))
      (pss_cons (ps_if (PW.pt (pw_or (pt_cmpR op_eq (pe_op op_mod (pv 2) pe_int) pe_int (nomark _)) (pw_or (pt_not (pt_val (pe_call G_are_integers (hr.mono (by decide)) (by rfl) T.g_are_integers T.F_are_integers.kp T.b_are_integers .nil pass0 (pa_cons (pv 1) pa_nil)))) (pw_or1 (pt_cmpR (RD.k_neD (K := K) rfl hr.units) (pe_callB (RD.k_sorted (K := K) rfl) (by rfl) T.z_sorted (by decide +kernel) (pa_cons (pv 1) pa_nil)) (pe_listRg (by rfl) (by rfl) T.z_list (prg_1 (by rfl) T.z_range (pv 2))) (nomark _))))))
      (pss_one ps_never)
      pss_nil)
      (pss_cons (RD.k_sfld (K := K) rfl (pv 0) (pe_callTy (RD.k_list (K := K) rfl) (by rfl) T.z_list (by decide +kernel) (pa_cons (pv 1) pa_nil)) rfl)
      (pss_cons (RD.k_sfld (K := K) rfl (pv 0) (pe_op op_rep (pe_lst (pa_cons pe_int pa_nil)) (pv 2)) rfl)
      (pss_one (ps_for PassesOwn.never rfl (RD.k_pie (K := K) rfl (by rfl) T.z_enumerate (pa_cons (RD.k_fld (K := K) rfl (pv 0) rfl) pa_nil)) (RD.k_gtup (K := K) rfl rfl (pgs_cons (pg_name (i := 3) sc_Mesh_d_initd_.nd rfl (Or.inl rfl)) (pgs_cons (pg_name (i := 4) sc_Mesh_d_initd_.nd rfl (Or.inl rfl)) pgs_nil)))
      (pss_one (ps_asg (pv 3) (pg_sub (RD.k_fld (K := K) rfl (pv 0) rfl) (pv 4) set_list))))))))), ?_⟩
    show tSeq _ _ _ [some (.ref p), some (.ref r), none, none, none] H
    walk_at "rd"
    refine RD.len (sq hr0) ?_
    rw [vns_len]
    walk_at "rd"
    refine RD.iC (by decide) ?_
    walk_at "rd"
    have he := hM.even
    refine RD.decF (by omega) ?_
    walk_at "rd"
    refine ⟨r, ns.map (fun n : Nat => (n : Int)), rfl, by rw [← vns_int]; exact sq hr0, by rw [List.length_map]; omega, fun H1 s1 => ?_⟩
    walk_at "rd"
    show (if false = true then _ else _)
    walk_at "rd"
    have hr1 := s1 _ _ hr0
    refine RD.sort1 (ns := ns.map (fun n : Nat => (n : Int))) (by rw [← vns_int]; exact sq hr1) (by rw [List.length_map]; omega) fun ns' c pm so nc => ?_
    have en : ns' = (List.range ns.length).map (fun n : Nat => (n : Int)) := by
      refine List.Perm.eq_of_pairwise (le := (· ≤ ·)) (fun x y _ _ h1 h2 => Int.le_antisymm h1 h2) so ?_ (pm.trans (hM.perm.map _))
      refine List.pairwise_map.mpr (List.Pairwise.imp ?_ (List.pairwise_lt_range (n := ns.length)))
      intro x y hxy
      omega
    subst en
    have s2 := RD.same_new (o := .lst (((List.range ns.length).map (fun n : Nat => (n : Int))).map V.int)) nc
    walk_at "rd"
    refine ⟨RgOk.of_le (by omega) (by omega) (by omega) (by omega), fun c2 nc2 => ?_⟩
    have erg : rgV 0 (ns.length : Int) = ((List.range ns.length).map (fun n : Nat => (n : Int))).map V.int := by
      unfold rgV
      rw [List.map_map, show ((ns.length : Int) - 0).toNat = ns.length by omega]
      refine List.map_congr_left fun x _ => ?_
      show V.int (0 + (x : Int)) = V.int (x : Int)
      rw [Int.zero_add]
    rw [erg]
    have s3 := RD.same_new (o := .lst (((List.range ns.length).map (fun n : Nat => (n : Int))).map V.int)) nc2
    refine RD.neD (dp_I (sq (s3 _ _ upd_same))) (dp_I (sq upd_same)) (sh_dI _) (sh_dI _) ?_
    rw [eqv_dI]
    walk_at "rd"
    refine RD.ndF rfl ?_
    have s4 := (s1.trans s2).trans s3
    walk_at "rd"
    refine RD.list (sq (s4 _ _ hr0)) fun a na => ?_
    have s5 := RD.same_new (o := .lst (vns ns)) na
    have pa : p ≠ a := ne_of_none (s4 _ _ hp) na
    walk_at "rd"
    refine ⟨p, _, dx, [], rfl, s5 _ _ (s4 _ _ hp), T.cl_Mesh, T.n_Mesh_following, by decide, ?_⟩
    walk_at "rd"
    refine ⟨szl (by simp), fun z nz => ?_⟩
    walk_at "rd"
    refine RD.rep upd_same (by omega) (by omega) ?_ fun b nb => ?_
    · rw [Int.toNat_natCast]
      exact szl (by simp; omega)
    have ezr : (List.replicate ((ns.length : Int)).toNat [V.int 0]).flatten = vns (List.replicate ns.length 0) := by
      rw [Int.toNat_natCast]
      unfold vns
      rw [List.map_replicate]
      clear hl he hM hr0 pm so hr1 s2 erg s3 nc nc2 s4 na nz nb s5 q
      induction ns.length with
      | zero => rfl
      | succ m ih => rw [List.replicate_succ, List.flatten_cons, ih, List.replicate_succ]; rfl
    rw [ezr]
    have pz : p ≠ z := ne_of_none upd_same nz
    have s6 := RD.same_new (o := .lst [V.int 0]) nz
    have pb : p ≠ b := ne_of_none (s6 _ _ upd_same) nb
    have s7 := RD.same_new (o := .lst (vns (List.replicate ns.length 0))) nb
    have ab : a ≠ b := ne_of_none (s6 _ _ (by rw [upd_ne pa.symm]; exact upd_same)) nb
    have s8 := s6.trans s7
    have na0 : H a = none := s4.free na
    have nb0 : H b = none := by
      have e1 : H b = none ∨ b = p := by
        by_cases e : b = p
        · exact .inr e
        · left
          have := s6.free nb
          rw [upd_ne e] at this
          exact s4.free (s5.free this)
      rcases e1 with e | e
      · exact e
      · exact absurd e.symm pb
    walk_at "rd"
    refine ⟨p, _, dx, _, rfl, s8 _ _ upd_same, T.cl_Mesh, T.n_Mesh_preceding, (by show 1 < 1000; decide), ?_⟩
    have ep : ∀ X : Hp, (upd X p (.ins A.c_Mesh dx (putF "preceding" (.ref b) (putF "following" (.ref a) [])))) p = some (.ins A.c_Mesh dx (mflds a b)) := fun _ => upd_same
    walk_at "rd"
    refine ⟨p, _, dx, _, _, rfl, ep _, T.cl_Mesh, T.n_Mesh_following, mf_f a b, ?_⟩
    walk_at "rd"
    have ea : (upd (upd (upd (upd (upd (upd (upd H1 c (.lst (((List.range ns.length).map (fun n : Nat => (n : Int))).map V.int))) c2 (.lst (((List.range ns.length).map (fun n : Nat => (n : Int))).map V.int))) a (.lst (vns ns))) p (.ins A.c_Mesh dx (putF "following" (.ref a) []))) z (.lst [V.int 0])) b (.lst (vns (List.replicate ns.length 0)))) p (.ins A.c_Mesh dx (putF "preceding" (.ref b) (putF "following" (.ref a) [])))) a = some (.lst (vns ns)) := by
      rw [upd_ne pa.symm]
      exact s8 _ _ (by rw [upd_ne pa.symm]; exact upd_same)
    refine RD.goE (sq ea) (fun i σ H3 => ∃ (L : List Nat) (o3 o4 : Option V), σ = [some (.ref p), some (.ref r), some (.int (ns.length : Int)), o3, o4] ∧ L.length = ns.length ∧ (∀ j x : Nat, j < i → ns[j]? = some x → L[x]? = some j) ∧
        H3 p = some (.ins A.c_Mesh dx (mflds a b)) ∧ H3 a = some (.lst (vns ns)) ∧ H3 b = some (.lst (vns L)) ∧ SameX p H H3)
      ⟨List.replicate ns.length 0, none, none, rfl, List.length_replicate, fun j x hj => absurd hj (Nat.not_lt_zero _), upd_same, ea, by rw [upd_ne pb.symm, upd_same], ?_⟩ (fun i σ H3 _ ⟨L, o3, o4, _, _, _, _, e, _⟩ => sq e) ?_ ?_
    · exact (((((Same.x s4).trans (Same.x s5)).put).trans (Same.x s8))).put
    · rintro i x σ H3 tp hx ⟨L, o3, o4, rfl, hL, hj, e1, e2, e3, s9⟩ ntp
      obtain ⟨m, hm, rfl⟩ := of_vns hx
      have sT := RD.same_new (o := .tup [V.int ((i : Nat) : Int), vn m]) ntp
      refine RD.gtup2 (st upd_same) ?_
      walk_at "rd"
      refine ⟨p, _, dx, _, _, rfl, sT _ _ e1, T.cl_Mesh, T.n_Mesh_preceding, mf_p a b, ?_⟩
      walk_at "rd"
      have hml : m < L.length := by rw [hL]; exact hM.lt (List.mem_of_getElem? hm)
      refine RD.setL (sT _ _ e3) (by rw [vns_len]; exact ix_n hml) ?_
      have ebt : b ≠ tp := ne_of_none e3 ntp
      refine ⟨L.set m i, _, _, rfl, by rw [List.length_set]; exact hL, fun j x hji hjx => ?_, by rw [upd_ne pb]; exact sT _ _ e1, by rw [upd_ne ab]; exact sT _ _ e2, ?_, ?_⟩
      · by_cases e : j = i
        · subst e
          rw [hm] at hjx
          cases hjx
          rw [List.getElem?_set_self hml]
        · have hne : m ≠ x := fun z => by
            subst z
            have hjl : j < ns.length := (List.getElem?_eq_some_iff.mp hjx).1
            exact e ((List.getElem?_inj hjl hM.nodup).mp (hjx.trans hm.symm))
          rw [List.getElem?_set_ne hne]
          exact hj j x (by omega) hjx
      · rw [upd_same]
        show some (HO.lst ((vns L).set m (vn i))) = _
        unfold vns
        rw [List.map_set]
      · exact (s9.trans (Same.x sT)).mut nb0
    · rintro σ H3 ⟨L, o3, o4, rfl, hL, hj, e1, e2, e3, s9⟩
      rw [vns_len] at hj
      have eL : L = inv ns := inv_of hM hL fun j x hjx => hj j x (List.getElem?_eq_some_iff.mp hjx).1 hjx
      subst eL
      exact q H3 a b na0 nb0 ab ⟨⟨dx, e1⟩, e2, e3⟩ s9
theorem ok_Mesh_after (T : Txt K mg A) : FnOk P w K mg base CX0 1 A.f_Mesh_after A.d_Mesh_after ["self", "half"] (sp_after A) := by
  refine T.F_Mesh_after.ok sc_Mesh_after (fun vs H Q E h => ?_) (fun cdv Ar outer s H vs Q E hr h => ?_)
  · obtain ⟨p, a, b, ns, n, rfl, _⟩ := h
    rfl
  · obtain ⟨p, a, b, ns, n, rfl, ⟨⟨dx, h1⟩, h2, h3⟩, hn, q⟩ := h
    refine ⟨_, (pss_one (ps_ret (pe_ix (RD.k_ixL (K := K) rfl) (RD.k_fld (K := K) rfl (pv 0) rfl) (pv 1) (fun _ _ => rfl)))), ?_⟩
    show tRet _ _ [some (.ref p), some (vn n)] H
    walk_at "rd"
    refine ⟨p, _, dx, _, _, rfl, h1, T.cl_Mesh, T.n_Mesh_following, mf_f a b, ?_⟩
    walk_at "rd"
    exact RD.ixL (sq h2) (at_n (vns_at (fn_at hn))) q
theorem ok_Mesh_before (T : Txt K mg A) : FnOk P w K mg base CX0 1 A.f_Mesh_before A.d_Mesh_before ["self", "half"] (sp_before A) := by
  refine T.F_Mesh_before.ok sc_Mesh_before (fun vs H Q E h => ?_) (fun cdv Ar outer s H vs Q E hr h => ?_)
  · obtain ⟨p, a, b, ns, n, rfl, _⟩ := h
    rfl
  · obtain ⟨p, a, b, ns, n, rfl, ⟨⟨dx, h1⟩, h2, h3⟩, hn, q⟩ := h
    refine ⟨_, (pss_one (ps_ret (pe_ix (RD.k_ixL (K := K) rfl) (RD.k_fld (K := K) rfl (pv 0) rfl) (pv 1) (fun _ _ => rfl)))), ?_⟩
    show tRet _ _ [some (.ref p), some (vn n)] H
    walk_at "rd"
    refine ⟨p, _, dx, _, _, rfl, h1, T.cl_Mesh, T.n_Mesh_preceding, mf_p a b, ?_⟩
    walk_at "rd"
    exact RD.ixL (sq h3) (at_n (vns_at (inv_at hn))) q
theorem ok_Mesh_twin (T : Txt K mg A) : FnOk P w K mg base CX0 2 A.f_Mesh_twin A.d_Mesh_twin ["self", "half"] (sp_twin) := by
  have G_twin_of := ok_twin_of (P := P) (w := w) (base := base) T
  refine T.F_Mesh_twin.ok sc_Mesh_twin (fun vs H Q E h => ?_) (fun cdv Ar outer s H vs Q E hr h => ?_)
  · obtain ⟨p, n, rfl, _⟩ := h
    rfl
  · obtain ⟨p, n, rfl, q⟩ := h
    refine ⟨_, (pss_one (ps_ret (pe_call G_twin_of (hr.mono (by decide)) (by rfl) T.g_twin_of T.F_twin_of.kp T.b_twin_of .nil pass0 (pa_cons (pv 1) pa_nil)))), ?_⟩
    show tRet _ _ [some (.ref p), some (vn n)] H
    walk_at "rd"
    exact ⟨n, rfl, q⟩
theorem ok_Mesh_turned (T : Txt K mg A) : FnOk P w K mg base CX0 2 A.f_Mesh_turned A.d_Mesh_turned ["self", "half"] (sp_turned A) := by
  have G_twin_of := ok_twin_of (P := P) (w := w) (base := base) T
  refine T.F_Mesh_turned.ok sc_Mesh_turned (fun vs H Q E h => ?_) (fun cdv Ar outer s H vs Q E hr h => ?_)
  · obtain ⟨p, a, b, ns, n, rfl, _⟩ := h
    rfl
  · obtain ⟨p, a, b, ns, n, rfl, ⟨⟨dx, h1⟩, h2, h3⟩, hn, q⟩ := h
    refine ⟨_, (pss_one (ps_ret (pe_call G_twin_of (hr.mono (by decide)) (by rfl) T.g_twin_of T.F_twin_of.kp T.b_twin_of .nil pass0 (pa_cons (pe_ix (RD.k_ixL (K := K) rfl) (RD.k_fld (K := K) rfl (pv 0) rfl) (pv 1) (fun _ _ => rfl)) pa_nil)))), ?_⟩
    show tRet _ _ [some (.ref p), some (vn n)] H
    walk_at "rd"
    refine ⟨p, _, dx, _, _, rfl, h1, T.cl_Mesh, T.n_Mesh_preceding, mf_p a b, ?_⟩
    walk_at "rd"
    refine RD.ixL (sq h3) (at_n (vns_at (inv_at hn))) ?_
    walk_at "rd"
    exact ⟨_, rfl, q⟩
theorem ok_Mesh_nexts (T : Txt K mg A) : FnOk P w K mg base CX0 1 A.f_Mesh_nexts A.d_Mesh_nexts ["self"] (sp_nexts A) := by
  refine T.F_Mesh_nexts.ok sc_Mesh_nexts (fun vs H Q E h => ?_) (fun cdv Ar outer s H vs Q E hr h => ?_)
  · obtain ⟨p, a, b, ns, rfl, _⟩ := h
    rfl
  · obtain ⟨p, a, b, ns, rfl, ⟨⟨dx, h1⟩, h2, h3⟩, q⟩ := h
    refine ⟨_, (pss_one (ps_ret (pe_callTy (RD.k_list (K := K) rfl) (by rfl) T.z_list (by decide +kernel) (pa_cons (RD.k_fld (K := K) rfl (pv 0) rfl) pa_nil)))), ?_⟩
    show tRet _ _ [some (.ref p)] H
    walk_at "rd"
    refine ⟨p, _, dx, _, _, rfl, h1, T.cl_Mesh, T.n_Mesh_following, mf_f a b, ?_⟩
    walk_at "rd"
    exact RD.list (sq h2) q
theorem ok_Mesh_faces (T : Txt K mg A) : FnOk P w K mg base CX0 2 A.f_Mesh_faces A.d_Mesh_faces ["self"] (sp_lists A true) := by
  have G_rounds := ok_rounds (P := P) (w := w) (base := base) T
  refine T.F_Mesh_faces.ok sc_Mesh_faces (fun vs H Q E h => ?_) (fun cdv Ar outer s H vs Q E hr h => ?_)
  · obtain ⟨p, a, b, ns, rfl, _⟩ := h
    rfl
  · obtain ⟨p, a, b, ns, rfl, ⟨⟨dx, h1⟩, h2, h3⟩, hM, hl, q⟩ := h
    refine ⟨_, (pss_one (ps_ret (pe_call G_rounds (hr.mono (by decide)) (by rfl) T.g_rounds T.F_rounds.kp T.b_rounds .nil pass0 (pa_cons (RD.k_fld (K := K) rfl (pv 0) rfl) pa_nil)))), ?_⟩
    show tRet _ _ [some (.ref p)] H
    walk_at "rd"
    refine ⟨p, _, dx, _, _, rfl, h1, T.cl_Mesh, T.n_Mesh_following, mf_f a b, ?_⟩
    walk_at "rd"
    exact ⟨a, ns, rfl, sq h2, hM.fnp, hl, q⟩
theorem ok_Mesh_corners (T : Txt K mg A) : FnOk P w K mg base CX0 2 A.f_Mesh_corners A.d_Mesh_corners ["self"] (sp_lists A false) := by
  have G_rounds := ok_rounds (P := P) (w := w) (base := base) T
  have G_twin_of := ok_twin_of (P := P) (w := w) (base := base) T
  refine T.F_Mesh_corners.ok sc_Mesh_corners (fun vs H Q E h => ?_) (fun cdv Ar outer s H vs Q E hr h => ?_)
  · obtain ⟨p, a, b, ns, rfl, _⟩ := h
    rfl
  · obtain ⟨p, a, b, ns, rfl, ⟨⟨dx, h1⟩, h2, h3⟩, hM, hl, q⟩ := h
    refine ⟨_, (pss_one (ps_ret (pe_call G_rounds (hr.mono (by decide)) (by rfl) T.g_rounds T.F_rounds.kp T.b_rounds .nil pass0 (pa_cons (pe_lc (own := [("half", 1)]) (g := gName 1) (by rfl) sc_Mesh_corners.nd (RD.k_pil (K := K) rfl (RD.k_fld (K := K) rfl (pv 0) rfl)) (blkOk_by (own := [("half", 1)]) (N := ["self", "half"]) (sc := defScope s_Mesh_corners) (by decide +kernel)) (fun _ _ _ _ _ => (pg_name (i := 1) sc_Mesh_corners.nd rfl (Or.inl rfl))) (fun _ _ _ _ _ => pts_nil) (fun _ _ _ _ _ => (pe_call G_twin_of (hr.mono (by decide)) (by rfl) T.g_twin_of T.F_twin_of.kp T.b_twin_of .nil pass0 (pa_cons (pv 1) pa_nil)))) pa_nil)))), ?_⟩
    show tRet _ _ [some (.ref p), none] H
    walk_at "rd"
    refine ⟨p, _, dx, _, _, rfl, h1, T.cl_Mesh, T.n_Mesh_preceding, mf_p a b, ?_⟩
    refine RD.lcL (sq h3) (by rw [vns_len, inv_len]; exact szl (by omega)) (fun _ => true) (fun v => match v with | .int i => vn (tw i.toNat) | _ => v) (fun i x H1 Q' R' hx s1 kT kF => ?_) (fun H1 l nl s1 el => ?_)
    · obtain ⟨n, hn, rfl⟩ := of_vns hx
      walk_at "wp"
      walk_at "rd"
      refine ⟨rfl, ?_⟩
      walk_at "rd"
      exact ⟨n, rfl, kT rfl _ (Same.refl _)⟩
    rw [RD.pick_all (fun _ => rfl)] at el
    have e1 : (vns (inv ns)).map (fun v => match v with | .int i => vn (tw i.toNat) | _ => v) = vns (stp ns false) := by
      show _ = vns ((inv ns).map tw)
      unfold vns
      rw [List.map_map, List.map_map]
      rfl
    rw [e1] at el
    walk_at "rd"
    have hsl : (stp ns false).length = ns.length := stp_len false
    refine ⟨l, stp ns false, rfl, sq el, by rw [hsl]; exact hM.stp false, by rw [hsl]; exact hl, fun H2 r rs s2 nr nrs ll => ?_⟩
    rw [hsl] at ll
    exact q H2 r rs (s1.trans s2) (s1.free nr) (fun x hx => ⟨s1.free (nrs x hx).1, (nrs x hx).2⟩) ll
end
end Pf

namespace Pf
open PySem PySem.Spec PyProof.Rows L2 MM
def sp_l_turned (K : PySem.W.Frag) : Sp := fun vs H Q _ => ∃ (a : Addr) (ns : List Nat) (h : Nat), vs = [.ref a, vn h] ∧ SqL K H a (vns ns) ∧ IsMesh ns ∧ ns.length ≤ 1000 ∧ h < ns.length ∧ Q (vn (tw (ns.idxOf h))) H
def sp_l_round (K : PySem.W.Frag) : Sp := fun vs H Q _ => ∃ (a : Addr) (ns : List Nat) (h : Nat) (b : Bool), vs = [.ref a, vn h, .bl b] ∧ SqL K H a (vns ns) ∧ IsMesh ns ∧ ns.length ≤ 1000 ∧ h < ns.length ∧
  ∀ (H' : Hp) (p : Addr), Same H H' → H p = none → H' p = some (.lst (vns (cyc (fn (stp ns b)) ns.length h))) → Q (.ref p) H'
def sp_l_rounds (K : PySem.W.Frag) : Sp := fun vs H Q _ => ∃ (a : Addr) (ns : List Nat) (b : Bool), vs = [.ref a, .bl b] ∧ SqL K H a (vns ns) ∧ IsMesh ns ∧ ns.length ≤ 1000 ∧
  ∀ (H' : Hp) (q : Addr) (qs : List Addr), Same H H' → H q = none → (∀ x ∈ qs, H x = none ∧ x ≠ q) → LL H' q qs (rnds (fn (stp ns b)) ns.length ns.length) → Q (.ref q) H'
theorem idx_of {ns : List Nat} (m : IsMesh ns) {i h : Nat} (e : ns[i]? = some h) : ns.idxOf h = i := by
  have hi := (List.getElem?_eq_some_iff.mp e).1
  have hh := List.mem_of_getElem? e
  exact ((List.getElem?_inj (idx_lt hh) m.nodup).mp ((idx_at hh).trans e.symm))
theorem cyc_ne {f : Nat → Nat} {n h i : Nat} (p : PermOn f n) (hh : h < n) (h0 : 0 < i) (hi : i < (cyc f n h).length) : it f i h ≠ h := fun e => by
  have h1 := cyc_at p hh hi
  have h2 : (cyc f n h)[0]? = some h := rfl
  rw [e, ← h2] at h1
  have := (List.getElem?_inj hi (cyc_nodup p hh)).mp h1
  omega
theorem min_is {f : Nat → Nat} {n h : Nat} {m : Int} (hm : m ∈ (cyc f n h).map (fun n : Nat => (n : Int))) (hl : ∀ y ∈ (cyc f n h).map (fun n : Nat => (n : Int)), m ≤ y) : m = (h : Int) ↔ isMin f n h = true := by
  constructor
  · intro e
    refine isMin_iff.mpr fun x hx => ?_
    have := hl _ (List.mem_map_of_mem hx)
    omega
  · intro e
    obtain ⟨x, hx, rfl⟩ := List.mem_map.mp hm
    have h1 := isMin_iff.mp e x hx
    have h2 := hl _ (List.mem_map_of_mem (cyc_self (f := f) (n := n) h))
    have h3 : (x : Int) ≤ ((h : Nat) : Int) := h2
    omega
/-- nexts[x] if by_face else turned(nexts, x) -/
theorem rd_step {K : PySem.W.Frag} {H : Hp} {a : Addr} {ns : List Nat} {b : Bool} {x i : Nat} {σ : L2.St} {Q : VK} (h0 : σ[0]? = some (some (.ref a))) (hi : σ[i]? = some (some (vn x))) (hS : SqL K H a (vns ns)) (hM : IsMesh ns) (hl : ns.length ≤ 1000) (hx : x < ns.length)
    (q : Q (vn (fn (stp ns b) x)) H) : if b = true then tOp (rIxL K) (tVar 0) (tVar i) σ H Q else tCall (sp_l_turned K) [] E0 (tCons (tVar 0) (tCons (tVar i) tNil)) σ H Q := by
  cases b with
  | true =>
    refine RD.bT ⟨_, h0, _, hi, RD.ixL hS (at_n (vns_at (fn_at hx))) q⟩
  | false =>
    rw [fn_stp hx] at q
    refine RD.bF ⟨_, h0, _, hi, a, ns, x, rfl, hS, hM, hl, hx, q⟩
section
variable {P : Program} {w : World} {K : PySem.W.Frag} {mg : Str → Option Value} {base : Heap} {A : Ad}
theorem ok_l_twin (T : Txt K mg A) : FnOk P w K mg base CX0 1 A.f_l_twin A.d_l_twin ["_law_half"] (sp_twin_of) := by
  refine T.F_l_twin.ok sc_l_twin (fun vs H Q E h => ?_) (fun cdv Ar outer s H vs Q E hr h => ?_)
  · obtain ⟨n, rfl, _⟩ := h
    rfl
  · obtain ⟨n, rfl, q⟩ := h
    refine ⟨_, (pss_one (ps_ret (pe_op op_sub (pe_op op_add (pv 0) pe_int) (pe_op op_mul pe_int (pe_op op_mod (pe_callTy RD.k_int (by rfl) T.z_int (by decide +kernel) (pa_cons (pv 0) pa_nil)) pe_int))))), ?_⟩
    show tRet _ _ [some (vn n)] H
    walk_at "rd"
    refine RD.iC (by decide) ?_
    walk_at "rd"
    refine RD.iC (.inl ⟨by decide, by decide⟩) ?_
    walk_at "rd"
    have e2 : ((n : Int) + 1 - 2 * ((n : Int) % 2)) = ((tw n : Nat) : Int) := by
      unfold tw
      by_cases h : n % 2 = 0
      · rw [if_pos h]; omega
      · rw [if_neg h]; omega
    rw [e2]
    exact q
theorem ok_l_turned (T : Txt K mg A) : FnOk P w K mg base CX0 2 A.f_l_turned A.d_l_turned ["_law_nexts_here", "_law_half"] (sp_l_turned K) := by
  have G_l_twin := ok_l_twin (P := P) (w := w) (base := base) T
  refine T.F_l_turned.ok sc_l_turned (fun vs H Q E h => ?_) (fun cdv Ar outer s H vs Q E hr h => ?_)
  · obtain ⟨a, ns, n, rfl, _⟩ := h
    rfl
  · obtain ⟨a, ns, n, rfl, hS, hM, hl, hn, q⟩ := h
    refine ⟨_, (pss_cons (ps_for PassesOwn.never rfl (pi_range1 (by rfl) T.z_range (pa_cons (pe_callB (RD.k_len (K := K) rfl) (by rfl) T.z_len (by decide +kernel) (pa_cons (pv 0) pa_nil)) pa_nil)) (pg_name (i := 2) sc_l_turned.nd rfl (Or.inl rfl))
      (pss_one (ps_if (pt_cmpR op_eq (pe_ix (RD.k_ixL (K := K) rfl) (pv 0) (pv 2) (fun _ _ => rfl)) (pv 1) (nomark _))
      (pss_one (ps_ret (pe_call G_l_twin (hr.mono (by decide)) (by rfl) T.g_l_twin T.F_l_twin.kp T.b_l_twin .nil pass0 (pa_cons (pv 2) pa_nil))))
      pss_nil)))
      (pss_one (ps_ret (pe_un un_neg pe_int)))), ?_⟩
    show tSeq _ _ _ [some (.ref a), some (vn n), none] H
    walk_at "rd"
    refine RD.len hS ?_
    rw [vns_len]
    walk_at "rd"
    refine RD.goR (n := ns.length) (by omega) (by omega) (by omega) (fun i σ H2 => ∃ o2, σ = [some (.ref a), some (vn n), o2] ∧ H2 = H ∧ ∀ j, j < i → ns[j]? ≠ some n) ⟨none, rfl, rfl, fun j hj => absurd hj (Nat.not_lt_zero _)⟩ ?_ ?_
    · rintro i σ H2 hi ⟨o2, rfl, rfl, hj⟩
      walk_at "rd"
      refine RD.ixL hS (at_n (vns_at (fn_at hi))) ?_
      walk_at "rd"
      refine RD.dec (fun e => ?_) (fun e => ?_)
      · walk_at "rd"
        have e1 : ns[i]? = some n := by rw [fn_at hi]; exact congrArg some (Int.ofNat.inj e)
        refine ⟨i, rfl, ?_⟩
        rw [idx_of hM e1] at q
        exact q
      · walk_at "rd"
        refine ⟨_, rfl, rfl, fun j hji z => ?_⟩
        by_cases e2 : j = i
        · subst e2
          rw [fn_at hi] at z
          exact e (congrArg _ (Option.some.inj z))
        · exact hj j (by omega) z
    · rintro σ H2 ⟨o2, rfl, rfl, hj⟩
      exact absurd (idx_at (hM.mem hn)) (hj _ (idx_lt (hM.mem hn)))
theorem ok_l_round (T : Txt K mg A) : FnOk P w K mg base CX0 3 A.f_l_round A.d_l_round ["_law_nexts_here", "_law_half", "_law_by_face"] (sp_l_round K) := by
  have G_l_turned := ok_l_turned (P := P) (w := w) (base := base) T
  refine T.F_l_round.ok sc_l_round (fun vs H Q E h => ?_) (fun cdv Ar outer s H vs Q E hr h => ?_)
  · obtain ⟨a, ns, n, b, rfl, _⟩ := h
    rfl
  · obtain ⟨a, ns, n, b, rfl, hS, hM, hl, hn, q⟩ := h
    refine ⟨_, (pss_cons (ps_set (i := 3) sc_l_round.nd rfl (Or.inl rfl) (pe_lst (pa_cons (pv 1) pa_nil)))
      (pss_cons (ps_set (i := 4) sc_l_round.nd rfl (Or.inl rfl) (pe_ifExp (pt_val (pv 2)) (pe_ix (RD.k_ixL (K := K) rfl) (pv 0) (pv 1) (fun _ _ => rfl)) (pe_call G_l_turned (hr.mono (by decide)) (by rfl) T.g_l_turned T.F_l_turned.kp T.b_l_turned .nil pass0 (pa_cons (pv 0) (pa_cons (pv 1) pa_nil)))))
      (pss_cons (ps_while PassesOwn.never (PW.pt (pw_and (pt_cmpR op_ne (pv 4) (pv 1) (nomark _)) (pw_and1 (pt_cmpR op_le (pe_callB (RD.k_len (K := K) rfl) (by rfl) T.z_len (by decide +kernel) (pa_cons (pv 3) pa_nil)) (pe_callB (RD.k_len (K := K) rfl) (by rfl) T.z_len (by decide +kernel) (pa_cons (pv 0) pa_nil)) (nomark _)))))
      (pss_cons (ps_expr (RD.k_bm (K := K) rfl PySem.F.plainAttrs_list PySem.F.slot_list_append PySem.F.type_list_append mt_append (pv 3) (pa_cons (pv 4) pa_nil)))
      (pss_one (ps_set (i := 4) sc_l_round.nd rfl (Or.inl rfl) (pe_ifExp (pt_val (pv 2)) (pe_ix (RD.k_ixL (K := K) rfl) (pv 0) (pv 4) (fun _ _ => rfl)) (pe_call G_l_turned (hr.mono (by decide)) (by rfl) T.g_l_turned T.F_l_turned.kp T.b_l_turned .nil pass0 (pa_cons (pv 0) (pa_cons (pv 4) pa_nil))))))))
      (pss_one (ps_ret (pv 3)))))), ?_⟩
    show tSeq _ _ _ [some (.ref a), some (vn n), some (.bl b), none, none] H
    walk_at "rd"
    refine ⟨szl (by simp), fun p np => ?_⟩
    have s1 := RD.same_new (o := .lst [vn n]) np
    have pf := hM.stp b
    have hlen := cyc_len pf hn
    walk_at "rd"
    refine rd_step rfl rfl (s1.seq hS) hM hl hn ?_
    walk_at "rd"
    refine RD.whl (fun k σ H2 => ∃ j, j + 1 + k = (cyc (fn (stp ns b)) ns.length n).length ∧ σ = [some (.ref a), some (vn n), some (.bl b), some (.ref p), some (vn (it (fn (stp ns b)) (j + 1) n))] ∧ Same H H2 ∧ H2 p = some (.lst (vns ((cyc (fn (stp ns b)) ns.length n).take (j + 1)))))
      ((cyc (fn (stp ns b)) ns.length n).length - 1) ⟨0, ?_, rfl, s1, upd_same⟩ ?_
    · have : 0 < (cyc (fn (stp ns b)) ns.length n).length := Nat.succ_pos _
      omega
    rintro k σ H2 ⟨j, hj, rfl, s2, ep⟩
    walk_at "rd"
    refine RD.ndec (fun e => ?_) (fun e => ?_)
    · have hlt : j + 1 < (cyc (fn (stp ns b)) ns.length n).length := by
        rcases Nat.lt_or_ge (j + 1) (cyc (fn (stp ns b)) ns.length n).length with h | h
        · exact h
        · exfalso
          have : j + 1 = (cyc (fn (stp ns b)) ns.length n).length := by omega
          rw [this, cyc_end pf hn] at e
          exact e rfl
      walk_at "rd"
      refine RD.len (sq ep) ?_
      walk_at "rd"
      refine RD.len (s2.seq hS) ?_
      rw [vns_len, vns_len, List.length_take]
      walk_at "rd"
      refine RD.decT (by omega) ?_
      refine RD.wN ?_
      walk_at "rd"
      refine ⟨RD.tyL (sq ep), ?_⟩
      walk_at "rd"
      refine RD.app ep (by rw [vns_len, List.length_take]; exact szt (by omega)) ?_
      have s3 : Same H (upd H2 p (.lst (vns ((cyc (fn (stp ns b)) ns.length n).take (j + 1)) ++ [vn (it (fn (stp ns b)) (j + 1) n)]))) := RD.same_mut s2 np
      walk_at "rd"
      refine rd_step rfl rfl (s3.seq hS) hM hl (pf.it_lt _ _ hn) ?_
      walk_at "rd"
      refine ⟨k - 1, by omega, j + 1, by omega, rfl, s3, ?_⟩
      rw [upd_same, RD.take_one (cyc_at pf hn hlt), vns_app]
      rfl
    · walk_at "rd"
      have hend : j + 1 = (cyc (fn (stp ns b)) ns.length n).length := by
        rcases Nat.lt_or_ge (j + 1) (cyc (fn (stp ns b)) ns.length n).length with h | h
        · exact absurd (Int.ofNat.inj e) (cyc_ne pf hn (by omega) h)
        · omega
      rw [hend, List.take_length] at ep
      exact q H2 p s2 np ep
theorem ok_l_rounds (T : Txt K mg A) : FnOk P w K mg base CX0 4 A.f_l_rounds A.d_l_rounds ["_law_nexts_here", "_law_by_face"] (sp_l_rounds K) := by
  have G_l_round := ok_l_round (P := P) (w := w) (base := base) T
  refine T.F_l_rounds.ok sc_l_rounds (fun vs H Q E h => ?_) (fun cdv Ar outer s H vs Q E hr h => ?_)
  · obtain ⟨a, ns, b, rfl, _⟩ := h
    rfl
  · obtain ⟨a, ns, b, rfl, hS, hM, hl, q⟩ := h
    refine ⟨_, (pss_cons (ps_set (i := 2) sc_l_rounds.nd rfl (Or.inl rfl) (pe_lst pa_nil))
      (pss_cons (ps_for PassesOwn.never rfl (pi_range1 (by rfl) T.z_range (pa_cons (pe_callB (RD.k_len (K := K) rfl) (by rfl) T.z_len (by decide +kernel) (pa_cons (pv 0) pa_nil)) pa_nil)) (pg_name (i := 3) sc_l_rounds.nd rfl (Or.inl rfl))
      (pss_cons (ps_set (i := 4) sc_l_rounds.nd rfl (Or.inl rfl) (pe_call G_l_round (hr.mono (by decide)) (by rfl) T.g_l_round T.F_l_round.kp T.b_l_round .nil pass0 (pa_cons (pv 0) (pa_cons (pv 3) (pa_cons (pv 1) pa_nil)))))
      (pss_one (ps_if (pt_cmpR op_eq (pe_callB (RD.k_min (K := K) rfl rfl) (by rfl) T.z_min (by decide +kernel) (pa_cons (pv 4) pa_nil)) (pv 3) (nomark _))
      (pss_one (ps_expr (RD.k_bm (K := K) rfl PySem.F.plainAttrs_list PySem.F.slot_list_append PySem.F.type_list_append mt_append (pv 2) (pa_cons (pv 4) pa_nil))))
      pss_nil))))
      (pss_one (ps_ret (pv 2))))), ?_⟩
    show tSeq _ _ _ [some (.ref a), some (.bl b), none, none, none] H
    walk_at "rd"
    refine ⟨Nat.zero_le _, fun fo nfo => ?_⟩
    have s1 := RD.same_new (o := .lst []) nfo
    have pf := hM.stp b
    walk_at "rd"
    refine RD.len (s1.seq hS) ?_
    rw [vns_len]
    walk_at "rd"
    refine RD.goR (n := ns.length) (by omega) (by omega) (by omega) (fun i σ H2 => ∃ (qs : List Addr) (o3 o4 : Option V), σ = [some (.ref a), some (.bl b), some (.ref fo), o3, o4] ∧ Same H H2 ∧
        (∀ x ∈ qs, H x = none ∧ x ≠ fo) ∧ LL H2 fo qs (rnds (fn (stp ns b)) ns.length i))
      ⟨[], none, none, rfl, s1, (by intro x hx; cases hx), upd_same, .nil⟩ ?_ ?_
    · rintro i σ H2 hi ⟨qs, o3, o4, rfl, s2, hqs, ll⟩
      walk_at "rd"
      refine ⟨a, ns, i, b, rfl, s2.seq hS, hM, hl, hi, fun H3 m s3 nm em => ?_⟩
      have ll3 := ll.same s3
      have fm : fo ≠ m := ne_of_none ll.top nm
      walk_at "rd"
      refine RD.min1 (ns := (cyc (fn (stp ns b)) ns.length i).map (fun n : Nat => (n : Int))) (by rw [← vns_int]; exact sq em) (by rw [List.length_map]; exact Nat.succ_pos _) fun mn hm hle => ?_
      have hmin := min_is hm hle
      walk_at "rd"
      refine RD.dec (fun e => ?_) (fun e => ?_)
      · have hq := hmin.mp e
        have hl1 := rnds_len (f := fn (stp ns b)) (n := ns.length) i
        have hl2 := paired_len ll3.each
        walk_at "rd"
        refine ⟨RD.tyL (sq ll3.top), ?_⟩
        walk_at "rd"
        refine RD.app ll3.top (by rw [List.length_map]; exact szt (by omega)) ?_
        refine ⟨qs ++ [m], _, _, rfl, RD.same_mut (s2.trans s3) nfo, fun x hx => ?_, by rw [upd_same, List.map_append]; rfl, ?_⟩
        · rcases List.mem_append.mp hx with hx | hx
          · exact hqs x hx
          · rw [List.mem_singleton.mp hx]
            exact ⟨s2.free nm, fm.symm⟩
        · show Paired _ _ (rnds (fn (stp ns b)) ns.length i ++ (if isMin (fn (stp ns b)) ns.length i = true then [cyc (fn (stp ns b)) ns.length i] else []))
          rw [if_pos hq]
          refine paired_app (paired_upd ll3.each fun x hx => (hqs x hx).2) (.cons ?_ .nil)
          rw [upd_ne fm.symm]
          exact em
      · walk_at "rd"
        refine ⟨qs, _, _, rfl, s2.trans s3, hqs, ?_⟩
        have e1 : rnds (fn (stp ns b)) ns.length (i + 1) = rnds (fn (stp ns b)) ns.length i := by
          show rnds (fn (stp ns b)) ns.length i ++ (if isMin (fn (stp ns b)) ns.length i = true then [cyc (fn (stp ns b)) ns.length i] else []) = _
          rw [if_neg fun z => e (hmin.mpr z), List.append_nil]
        rw [e1]
        exact ll3
    · rintro σ H2 ⟨qs, o3, o4, rfl, s2, hqs, ll⟩
      walk_at "rd"
      exact q H2 fo qs s2 nfo hqs ll
end
end Pf

namespace Pf
open PySem PySem.Spec PyProof.Rows L2 MM
/-- Mesh(r), r a right list -/
theorem mk_mesh {A : Ad} {H : Hp} {r : Addr} {ns : List Nat} {Q : VK} {E : XK} (hr : H r = some (.lst (vns ns))) (hM : IsMesh ns) (hl : ns.length ≤ 62)
    (q : ∀ (H' : Hp) (p a b : Addr), H p = none → H a = none → H b = none → Same H H' → MeshAt A H' p a b ns → Q (.ref p) H') :
    RD.MKE A.c_Mesh (sp_init A) [] E [.ref r] H Q := by
  intro x dx nx ndx ne
  have s0 : Same H (upd (upd H dx (.own x)) x (.ins A.c_Mesh dx [])) := RD.same_mut (RD.same_new ndx) nx
  refine ⟨x, dx, r, ns, rfl, upd_same, s0 _ _ hr, hM, hl, fun H' a b na nb _ m sx => ⟨rfl, ?_⟩⟩
  refine q H' x a b nx (s0.free na) (s0.free nb) (fun c o e => sx c o (s0 c o e) (ne_of_none e nx)) m
end Pf

namespace Pf
open PySem PySem.Spec PyProof.Rows L2 MM
def sp_l_right (A : Ad) : Sp := fun vs H Q _ => ∃ (p a b r : Addr) (ns : List Nat), vs = [.ref p, .ref r] ∧ MeshAt A H p a b ns ∧ H r = some (.lst (vns ns)) ∧ IsMesh ns ∧ ns.length ≤ 60 ∧ ∀ H', Same H H' → Q (.bl true) H'
def sp_l_spoil (A : Ad) : Sp := fun vs H Q _ => ∃ (p a b : Addr) (ns : List Nat), vs = [.ref p] ∧ MeshAt A H p a b ns ∧ IsMesh ns ∧ ns.length ≤ 60 ∧ ∀ H', Same H H' → Q .non H'
def Lists (H : Hp) (qs : List Addr) (n : Nat) : Prop := ∀ x ∈ qs, ∃ xs, H x = some (.lst xs) ∧ xs.length ≤ n
theorem LL.lists {H : Hp} {q : Addr} {qs : List Addr} {xss : List (List Nat)} {n : Nat} (h : LL H q qs xss) (hx : ∀ c ∈ xss, c.length ≤ n) : Lists H qs n := fun x hm => by
  obtain ⟨c, hc, e⟩ := paired_mem h.each x hm
  exact ⟨_, e, by rw [vns_len]; exact hx c hc⟩
section
variable {P : Program} {w : World} {K : PySem.W.Frag} {mg : Str → Option Value} {base : Heap} {A : Ad}
theorem ok_l_right (T : Txt K mg A) : FnOk P w K mg base CX0 5 A.f_l_right A.d_l_right ["_law_mesh", "_law_nexts_here"] (sp_l_right A) := by
  have G_Mesh_nexts := ok_Mesh_nexts (P := P) (w := w) (base := base) T
  have G_Mesh_before := ok_Mesh_before (P := P) (w := w) (base := base) T
  have G_Mesh_after := ok_Mesh_after (P := P) (w := w) (base := base) T
  have G_Mesh_turned := ok_Mesh_turned (P := P) (w := w) (base := base) T
  have G_l_turned := ok_l_turned (P := P) (w := w) (base := base) T
  have G_Mesh_twin := ok_Mesh_twin (P := P) (w := w) (base := base) T
  have G_l_twin := ok_l_twin (P := P) (w := w) (base := base) T
  have G_Mesh_faces := ok_Mesh_faces (P := P) (w := w) (base := base) T
  have G_Mesh_corners := ok_Mesh_corners (P := P) (w := w) (base := base) T
  have G_l_rounds := ok_l_rounds (P := P) (w := w) (base := base) T
  refine T.F_l_right.ok sc_l_right (fun vs H Q E h => ?_) (fun cdv Ar outer s H vs Q E hr h => ?_)
  · obtain ⟨p, a, b, r, ns, rfl, _⟩ := h
    rfl
  · obtain ⟨p, a, b, r, ns, rfl, m, er, hM, hl, q⟩ := h
    refine ⟨_, (pss_cons (ps_if (pt_cmpR (RD.k_neD (K := K) rfl hr.units) (pe_meth0 (pv 0) T.cl_Mesh T.m_Mesh_nexts G_Mesh_nexts (hr.mono (by decide)) T.b_Mesh_nexts .nil pass0) (pv 1) (nomark _))
      (pss_one (ps_ret pe_bl))
      pss_nil)
      (pss_cons (ps_for PassesOwn.never rfl (pi_range1 (by rfl) T.z_range (pa_cons (pe_callB (RD.k_len (K := K) rfl) (by rfl) T.z_len (by decide +kernel) (pa_cons (pv 1) pa_nil)) pa_nil)) (pg_name (i := 2) sc_l_right.nd rfl (Or.inl rfl))
      (pss_cons (ps_if (PW.pt (pw_or (pt_cmpR op_ne (pe_meth (pv 0) T.cl_Mesh T.m_Mesh_after G_Mesh_after (hr.mono (by decide)) T.b_Mesh_after .nil pass0 (pa_cons (pv 2) pa_nil)) (pe_ix (RD.k_ixL (K := K) rfl) (pv 1) (pv 2) (fun _ _ => rfl)) (nomark _)) (pw_or1 (pt_cmpR op_ne (pe_meth (pv 0) T.cl_Mesh T.m_Mesh_before G_Mesh_before (hr.mono (by decide)) T.b_Mesh_before .nil pass0 (pa_cons (pe_ix (RD.k_ixL (K := K) rfl) (pv 1) (pv 2) (fun _ _ => rfl)) pa_nil)) (pv 2) (nomark _)))))
      (pss_one (ps_ret pe_bl))
      pss_nil)
      (pss_one (ps_if (PW.pt (pw_or (pt_cmpR op_ne (pe_meth (pv 0) T.cl_Mesh T.m_Mesh_twin G_Mesh_twin (hr.mono (by decide)) T.b_Mesh_twin .nil pass0 (pa_cons (pv 2) pa_nil)) (pe_call G_l_twin (hr.mono (by decide)) (by rfl) T.g_l_twin T.F_l_twin.kp T.b_l_twin .nil pass0 (pa_cons (pv 2) pa_nil)) (nomark _)) (pw_or1 (pt_cmpR op_ne (pe_meth (pv 0) T.cl_Mesh T.m_Mesh_turned G_Mesh_turned (hr.mono (by decide)) T.b_Mesh_turned .nil pass0 (pa_cons (pv 2) pa_nil)) (pe_call G_l_turned (hr.mono (by decide)) (by rfl) T.g_l_turned T.F_l_turned.kp T.b_l_turned .nil pass0 (pa_cons (pv 1) (pa_cons (pv 2) pa_nil))) (nomark _)))))
      (pss_one (ps_ret pe_bl))
      pss_nil))))
      (pss_cons (ps_set (i := 3) sc_l_right.nd rfl (Or.inl rfl) (pe_meth0 (pv 0) T.cl_Mesh T.m_Mesh_faces G_Mesh_faces (hr.mono (by decide)) T.b_Mesh_faces .nil pass0))
      (pss_cons (ps_set (i := 4) sc_l_right.nd rfl (Or.inl rfl) (pe_meth0 (pv 0) T.cl_Mesh T.m_Mesh_corners G_Mesh_corners (hr.mono (by decide)) T.b_Mesh_corners .nil pass0))
      (pss_cons (ps_if (PW.pt (pw_or (pt_not (pt_val (pe_callB (RD.k_isi (K := K) rfl) (by rfl) T.z_isinstance (by decide +kernel) (pa_cons (pv 3) (pa_cons (pe_bltn (v := .ty "list") (by rfl) T.z_list (by decide +kernel) rfl) pa_nil))))) (pw_or1 (pt_cmpR (RD.k_neD (K := K) rfl hr.units) (pv 3) (pe_call G_l_rounds (hr.mono (by decide)) (by rfl) T.g_l_rounds T.F_l_rounds.kp T.b_l_rounds .nil pass0 (pa_cons (pv 1) (pa_cons pe_bl pa_nil))) (nomark _)))))
      (pss_one (ps_ret pe_bl))
      pss_nil)
      (pss_one (ps_ret (pe_and (pe_callB (RD.k_isi (K := K) rfl) (by rfl) T.z_isinstance (by decide +kernel) (pa_cons (pv 4) (pa_cons (pe_bltn (v := .ty "list") (by rfl) T.z_list (by decide +kernel) rfl) pa_nil))) (pe_one (pe_cmpR (RD.k_eqD (K := K) rfl hr.units) (pv 4) (pe_call G_l_rounds (hr.mono (by decide)) (by rfl) T.g_l_rounds T.F_l_rounds.kp T.b_l_rounds .nil pass0 (pa_cons (pv 1) (pa_cons pe_bl pa_nil))) (nomark _))))))))))), ?_⟩
    show tSeq _ _ _ [some (.ref p), some (.ref r), none, none, none] H
    walk_at "rd"
    obtain ⟨dx, h1⟩ := m.ob
    refine ⟨p, dx, _, rfl, h1, mf_no _ _ (by decide +kernel) (by decide +kernel), ?_⟩
    walk_at "rd"
    refine ⟨p, a, b, ns, rfl, m, fun c nc => ?_⟩
    have s1 := RD.same_new (o := .lst (vns ns)) nc
    walk_at "rd"
    refine RD.neD (dp_N (sq upd_same)) (dp_N (sq (s1 _ _ er))) (sh_dN _) (sh_dN _) ?_
    rw [eqv_dN]
    walk_at "rd"
    refine RD.ndF rfl ?_
    walk_at "rd"
    refine RD.len (sq (s1 _ _ er)) ?_
    rw [vns_len]
    walk_at "rd"
    refine RD.goR (n := ns.length) (by omega) (by omega) (by omega) (fun i σ H2 => ∃ o2, σ = [some (.ref p), some (.ref r), o2, none, none] ∧ H2 = upd H c (.lst (vns ns))) ⟨none, rfl, rfl⟩ ?_ ?_
    · rintro i σ H2 hi ⟨o2, rfl, rfl⟩
      have m1 := m.same s1
      have er1 := s1 _ _ er
      have h1' := s1 _ _ h1
      have hx : fn ns i < ns.length := hM.fnp.lt i hi
      walk_at "rd"
      refine ⟨p, dx, _, rfl, h1', mf_no _ _ (by decide +kernel) (by decide +kernel), ?_⟩
      walk_at "rd"
      refine ⟨p, a, b, ns, i, rfl, m1, hi, ?_⟩
      walk_at "rd"
      refine RD.ixL (sq er1) (at_n (vns_at (fn_at hi))) ?_
      walk_at "rd"
      refine RD.ndF rfl ?_
      walk_at "rd"
      refine ⟨p, dx, _, rfl, h1', mf_no _ _ (by decide +kernel) (by decide +kernel), ?_⟩
      walk_at "rd"
      refine RD.ixL (sq er1) (at_n (vns_at (fn_at hi))) ?_
      walk_at "rd"
      refine ⟨p, a, b, ns, _, rfl, m1, hx, ?_⟩
      rw [idx_of hM (fn_at hi)]
      walk_at "rd"
      refine RD.ndF rfl ?_
      walk_at "rd"
      refine ⟨p, dx, _, rfl, h1', mf_no _ _ (by decide +kernel) (by decide +kernel), ?_⟩
      walk_at "rd"
      refine ⟨p, i, rfl, ?_⟩
      walk_at "rd"
      refine ⟨i, rfl, ?_⟩
      walk_at "rd"
      refine RD.ndF rfl ?_
      walk_at "rd"
      refine ⟨p, dx, _, rfl, h1', mf_no _ _ (by decide +kernel) (by decide +kernel), ?_⟩
      walk_at "rd"
      refine ⟨p, a, b, ns, i, rfl, m1, hi, ?_⟩
      walk_at "rd"
      refine ⟨r, ns, i, rfl, sq er1, hM, by omega, hi, ?_⟩
      walk_at "rd"
      refine RD.ndF rfl ?_
      walk_at "rd"
      exact ⟨_, rfl, rfl⟩
    · rintro σ H2 ⟨o2, rfl, rfl⟩
      have m1 := m.same s1
      have er1 := s1 _ _ er
      have h1' := s1 _ _ h1
      walk_at "rd"
      refine ⟨p, dx, _, rfl, h1', mf_no _ _ (by decide +kernel) (by decide +kernel), ?_⟩
      walk_at "rd"
      refine ⟨p, a, b, ns, rfl, m1, hM, by omega, fun H3 f fs s3 nf nfs lf => ?_⟩
      walk_at "rd"
      refine ⟨p, dx, _, rfl, s3 _ _ h1', mf_no _ _ (by decide +kernel) (by decide +kernel), ?_⟩
      walk_at "rd"
      refine ⟨p, a, b, ns, rfl, m1.same s3, hM, by omega, fun H4 g gs s4 ng ngs lg => ?_⟩
      have lf4 := lf.same s4
      walk_at "rd"
      refine RD.isi (.ty "list") (.base (.lst lf4.top)) (kit_ty (r := true) (by decide +kernel)) ?_
      walk_at "rd"
      show (if false = true then _ else _)
      walk_at "rd"
      refine ⟨r, ns, true, rfl, sq (s4 _ _ (s3 _ _ er1)), hM, by omega, fun H5 u us s5 nu nus lu => ?_⟩
      refine RD.neD (dp_LL (lf4.same s5)) (dp_LL lu) (sh_dLL _) (sh_dLL _) ?_
      rw [eqv_dLL]
      walk_at "rd"
      refine RD.ndF rfl ?_
      have lg5 := lg.same s5
      walk_at "rd"
      refine RD.isi (.ty "list") (.base (.lst lg5.top)) (kit_ty (r := true) (by decide +kernel)) ?_
      walk_at "rd"
      refine ⟨r, ns, false, rfl, sq (s5 _ _ (s4 _ _ (s3 _ _ er1))), hM, by omega, fun H6 v vs s6 nv nvs lv => ?_⟩
      refine RD.eqD (dp_LL (lg5.same s6)) (dp_LL lv) (sh_dLL _) (sh_dLL _) ?_
      rw [eqv_dLL, decide_eq_true rfl]
      exact q H6 ((((s1.trans s3).trans s4).trans s5).trans s6)
theorem ok_l_spoil (T : Txt K mg A) : FnOk P w K mg base CX0 3 A.f_l_spoil A.d_l_spoil ["_law_mesh"] (sp_l_spoil A) := by
  have G_Mesh_corners := ok_Mesh_corners (P := P) (w := w) (base := base) T
  have G_Mesh_faces := ok_Mesh_faces (P := P) (w := w) (base := base) T
  have G_Mesh_nexts := ok_Mesh_nexts (P := P) (w := w) (base := base) T
  refine T.F_l_spoil.ok sc_l_spoil (fun vs H Q E h => ?_) (fun cdv Ar outer s H vs Q E hr h => ?_)
  · obtain ⟨p, a, b, ns, rfl, _⟩ := h
    rfl
  · obtain ⟨p, a, b, ns, rfl, m, hM, hl, q⟩ := h
    refine ⟨_, (pss_cons (ps_for PassesOwn.never rfl (RD.k_pil (K := K) rfl (pe_lst (pa_cons (pe_meth0 (pv 0) T.cl_Mesh T.m_Mesh_faces G_Mesh_faces (hr.mono (by decide)) T.b_Mesh_faces .nil pass0) (pa_cons (pe_meth0 (pv 0) T.cl_Mesh T.m_Mesh_corners G_Mesh_corners (hr.mono (by decide)) T.b_Mesh_corners .nil pass0) pa_nil)))) (pg_name (i := 1) sc_l_spoil.nd rfl (Or.inl rfl))
      (pss_cons (ps_for PassesOwn.never rfl (RD.k_pil (K := K) rfl (pv 1)) (pg_name (i := 2) sc_l_spoil.nd rfl (Or.inl rfl))
      (pss_one (ps_expr (RD.k_bm (K := K) rfl PySem.F.plainAttrs_list PySem.F.slot_list_append PySem.F.type_list_append mt_append (pv 2) (pa_cons pe_int pa_nil)))))
      (pss_one (ps_expr (RD.k_bm (K := K) rfl PySem.F.plainAttrs_list PySem.F.slot_list_append PySem.F.type_list_append mt_append (pv 1) (pa_cons (pe_lst (pa_cons pe_int pa_nil)) pa_nil))))))
      (pss_one (ps_expr (RD.k_bm (K := K) rfl PySem.F.plainAttrs_list PySem.F.slot_list_append PySem.F.type_list_append mt_append (pe_meth0 (pv 0) T.cl_Mesh T.m_Mesh_nexts G_Mesh_nexts (hr.mono (by decide)) T.b_Mesh_nexts .nil pass0) (pa_cons pe_int pa_nil))))), ?_⟩
    show tSeq _ _ _ [some (.ref p), none, none] H
    walk_at "rd"
    obtain ⟨dx, h1⟩ := m.ob
    refine ⟨p, dx, _, rfl, h1, mf_no _ _ (by decide +kernel) (by decide +kernel), ?_⟩
    walk_at "rd"
    refine ⟨p, a, b, ns, rfl, m, hM, by omega, fun H1 f fs s1 nf nfs lf => ?_⟩
    walk_at "rd"
    refine ⟨p, dx, _, rfl, s1 _ _ h1, mf_no _ _ (by decide +kernel) (by decide +kernel), ?_⟩
    walk_at "rd"
    refine ⟨p, a, b, ns, rfl, m.same s1, hM, by omega, fun H2 g gs s2 ng ngs lg => ?_⟩
    have each : ∀ (bb : Bool), ∀ c ∈ rnds (fn (stp ns bb)) ns.length ns.length, c.length ≤ 60 := fun bb c hc => by
      have := (rnds_each (hM.stp bb) (Nat.le_refl _) hc).1
      omega
    have Lf := (lf.same s2).lists (each true)
    have Lg := lg.lists (each false)
    have ef := (lf.same s2).top
    have eg := lg.top
    have lenf : fs.length ≤ 60 := by
      have := paired_len lf.each
      have := rnds_len (f := fn (stp ns true)) (n := ns.length) ns.length
      omega
    have leng : gs.length ≤ 60 := by
      have := paired_len lg.each
      have := rnds_len (f := fn (stp ns false)) (n := ns.length) ns.length
      omega
    have fg : f ≠ g := ne_of_none lf.top ng
    have gfs : g ∉ fs := fun z => by
      obtain ⟨c, _, e⟩ := paired_mem lf.each g z
      rw [e] at ng
      cases ng
    have dj : ∀ x ∈ gs, x ∉ fs ∧ x ≠ f := fun x hx => by
      constructor
      · intro z
        obtain ⟨c, _, e⟩ := paired_mem lf.each x z
        rw [(ngs x hx).1] at e
        cases e
      · intro z
        have := lf.top
        rw [← z, (ngs x hx).1] at this
        cases this
    walk_at "rd"
    refine ⟨szl (by simp), fun L nL => ?_⟩
    have sL := RD.same_new (o := .lst [V.ref f, V.ref g]) nL
    have Lfs : ∀ x ∈ fs, x ≠ L := fun x hx => by
      obtain ⟨xs, e, _⟩ := Lf x hx
      exact ne_of_none e nL
    have Lgs : ∀ x ∈ gs, x ≠ L := fun x hx => by
      obtain ⟨xs, e, _⟩ := Lg x hx
      exact ne_of_none e nL
    have Lf1 : f ≠ L := ne_of_none ef nL
    have Lg1 : g ≠ L := ne_of_none eg nL
    have nL0 : H L = none := s1.free (s2.free nL)
    have s3 : Same H (upd H2 L (.lst [V.ref f, V.ref g])) := (s1.trans s2).trans sL
    have ng0 : H g = none := s1.free ng
    have nfs0 : ∀ x ∈ fs, H x = none := fun x hx => (nfs x hx).1
    have ngs0 : ∀ x ∈ gs, H x = none := fun x hx => s1.free (ngs x hx).1
    -- one list of lists is gone through
    have inner : ∀ (qq : Addr) (qs : List Addr) (H3 : Hp) (t : TS) (rt : VK) (nx bk ct : L2.St → Hp → Prop) (o2 : Option V), H3 qq = some (.lst (qs.map V.ref)) → Lists H3 qs 60 → qq ∉ qs → qs.length ≤ 60 →
        (∀ (H4 : Hp) (o2' : Option V), (∀ c o, H3 c = some o → c ∉ qs → H4 c = some o) → Lists H4 qs 1000 → nx [some (.ref p), some (.ref qq), o2'] H4) →
        tFor (iList K (tVar 1)) (gName 2) (tDrop (tBM K "list" rAppend (tVar 2) (tCons (tC (V.int 99)) tNil))) ⟨nx, rt, bk, ct⟩ [some (.ref p), some (.ref qq), o2] H3 := by
      intro qq qs H3 t rt nx bk ct o2 e1 hL hq hlen k
      walk_at "rd"
      refine RD.goL (sq e1) (fun i σ H4 => ∃ o2', σ = [some (.ref p), some (.ref qq), o2'] ∧ (∀ c o, H3 c = some o → c ∉ qs → H4 c = some o) ∧ Lists H4 qs (60 + i)) ⟨o2, rfl, fun _ _ h _ => h, hL⟩ (fun i σ H4 _ ⟨_, _, h, _⟩ => sq (h _ _ e1 hq)) ?_ ?_
      · rintro i x σ H4 hx ⟨o2', rfl, h4, l4⟩
        have hi : i < qs.length := by
          have := (List.getElem?_eq_some_iff.mp hx).1
          rwa [List.length_map] at this
        obtain ⟨y, hy, rfl⟩ : ∃ y, y ∈ qs ∧ x = V.ref y := by
          rw [List.getElem?_map, List.getElem?_eq_getElem hi] at hx
          exact ⟨qs[i], List.getElem_mem hi, (Option.some.inj hx).symm⟩
        obtain ⟨xs, ey, hxs⟩ := l4 y hy
        walk_at "rd"
        refine ⟨RD.tyL (sq ey), ?_⟩
        walk_at "rd"
        refine RD.app ey (szt (by omega)) ?_
        refine ⟨_, rfl, fun c o h hc => ?_, fun z hz => ?_⟩
        · rw [upd_ne (fun e : c = y => hc (by rw [e]; exact hy))]
          exact h4 c o h hc
        · by_cases e : z = y
          · subst e
            exact ⟨_, upd_same, by rw [List.length_append]; show xs.length + 1 ≤ _; omega⟩
          · obtain ⟨ys, ez, hys⟩ := l4 z hz
            exact ⟨ys, by rw [upd_ne e]; exact ez, by omega⟩
      · rintro σ H4 ⟨o2', rfl, h4, l4⟩
        rw [List.length_map] at l4
        refine k H4 _ h4 fun z hz => ?_
        obtain ⟨ys, ez, hys⟩ := l4 z hz
        exact ⟨ys, ez, by omega⟩
    refine RD.goL (sq upd_same) (fun i σ H3 => ∃ o1 o2, σ = [some (.ref p), o1, o2] ∧ Same H H3 ∧ H3 L = some (.lst [V.ref f, V.ref g]) ∧ (i ≤ 0 → H3 f = some (.lst (fs.map V.ref)) ∧ Lists H3 fs 60) ∧ (i ≤ 1 → H3 g = some (.lst (gs.map V.ref)) ∧ Lists H3 gs 60))
      ⟨none, none, rfl, s3, upd_same, fun _ => ⟨sL _ _ ef, fun x hx => ?_⟩, fun _ => ⟨sL _ _ eg, fun x hx => ?_⟩⟩ (fun i σ H3 _ ⟨_, _, _, _, e, _⟩ => sq e) ?_ ?_
    · obtain ⟨xs, e, h⟩ := Lf x hx
      exact ⟨xs, sL _ _ e, h⟩
    · obtain ⟨xs, e, h⟩ := Lg x hx
      exact ⟨xs, sL _ _ e, h⟩
    · rintro i x σ H3 hx ⟨o1, o2, rfl, s4, eL, h0, h1⟩
      match i, hx with
      | 0, hx =>
        cases hx
        obtain ⟨e1, l1⟩ := h0 (Nat.le_refl _)
        obtain ⟨e2, l2⟩ := h1 (by omega)
        walk_at "gn"
        refine RD.seq ?_
        refine inner f fs H3 tNext _ _ _ _ _ e1 l1 (fun z => (nfs f z).2 rfl) lenf fun H4 o2' h4 l4 => ?_
        walk_at "rd"
        have ef4 := h4 _ _ e1 fun z => (nfs f z).2 rfl
        refine ⟨RD.tyL (sq ef4), ?_⟩
        walk_at "rd"
        refine ⟨szl (by simp), fun z nz => ?_⟩
        have sz := RD.same_new (o := .lst [V.int 98]) nz
        walk_at "rd"
        refine RD.app (sz _ _ ef4) (by rw [List.length_map]; exact szt (by omega)) ?_
        refine ⟨_, _, rfl, fun c o e => ?_, ?_, fun h => absurd h (by omega), fun _ => ⟨?_, fun x hx => ?_⟩⟩
        · rw [upd_ne (ne_of_none e nf)]
          exact sz _ _ (h4 _ _ (s4 _ _ e) fun z => by rw [nfs0 c z] at e; cases e)
        · rw [upd_ne Lf1.symm]
          exact sz _ _ (h4 _ _ eL fun z => Lfs L z rfl)
        · rw [upd_ne fg.symm]
          exact sz _ _ (h4 _ _ e2 gfs)
        · obtain ⟨xs, e, hxs⟩ := l2 x hx
          refine ⟨xs, ?_, hxs⟩
          rw [upd_ne (dj x hx).2]
          exact sz _ _ (h4 _ _ e (dj x hx).1)
      | 1, hx =>
        cases hx
        obtain ⟨e2, l2⟩ := h1 (Nat.le_refl _)
        walk_at "gn"
        refine RD.seq ?_
        refine inner g gs H3 tNext _ _ _ _ _ e2 l2 (fun z => (ngs g z).2 rfl) leng fun H4 o2' h4 l4 => ?_
        walk_at "rd"
        have eg4 := h4 _ _ e2 fun z => (ngs g z).2 rfl
        refine ⟨RD.tyL (sq eg4), ?_⟩
        walk_at "rd"
        refine ⟨szl (by simp), fun z nz => ?_⟩
        have sz := RD.same_new (o := .lst [V.int 98]) nz
        walk_at "rd"
        refine RD.app (sz _ _ eg4) (by rw [List.length_map]; exact szt (by omega)) ?_
        refine ⟨_, _, rfl, fun c o e => ?_, ?_, fun h => absurd h (by omega), fun h => absurd h (by omega)⟩
        · rw [upd_ne (ne_of_none e ng0)]
          exact sz _ _ (h4 _ _ (s4 _ _ e) fun z => by rw [ngs0 c z] at e; cases e)
        · rw [upd_ne Lg1.symm]
          exact sz _ _ (h4 _ _ eL fun z => Lgs L z rfl)
      | i + 2, hx => simp at hx
    · rintro σ H3 ⟨o1, o2, rfl, s4, eL, _, _⟩
      walk_at "rd"
      have m4 := m.same s4
      refine ⟨p, dx, _, rfl, s4 _ _ h1, mf_no _ _ (by decide +kernel) (by decide +kernel), ?_⟩
      walk_at "rd"
      refine ⟨p, a, b, ns, rfl, m4, fun c nc => ?_⟩
      refine ⟨RD.tyL (sq upd_same), ?_⟩
      walk_at "rd"
      refine RD.app upd_same (by rw [vns_len]; exact szt (by omega)) ?_
      exact q _ (RD.same_mut (s4.trans (RD.same_new nc)) (s4.free nc))
end
end Pf

namespace Pf
open PySem PySem.Spec PyProof.Rows L2
def sp_law (K : PySem.W.Frag) : Sp := fun vs H Q _ => ∃ (a : Addr) (ns : List Int), vs = [.ref a] ∧ SqL K H a (ns.map V.int) ∧ ns.length ≤ 63 ∧ ∀ H', Q (.bl true) H'
end Pf

namespace Pf
open PySem PySem.Spec PyProof.Rows L2 MM
section
variable {P : Program} {w : World} {K : PySem.W.Frag} {mg : Str → Option Value} {base : Heap} {A : Ad}
theorem ok_law (T : Txt K mg A) : FnOk P w K mg base CX0 6 A.f_law A.d_law ["_law_script"] (sp_law K) := by
  have G_l_tape := ok_l_tape (P := P) (w := w) (base := base) T
  have G_l_size := ok_l_size (P := P) (w := w) (base := base) T
  have G_l_nexts := ok_l_nexts (P := P) (w := w) (base := base) T
  have G_Mesh_d_initd_ := ok_Mesh_d_initd_ (P := P) (w := w) (base := base) T
  have G_l_right := ok_l_right (P := P) (w := w) (base := base) T
  have G_l_spoil := ok_l_spoil (P := P) (w := w) (base := base) T
  refine T.F_law.ok sc_law (fun vs H Q E h => ?_) (fun cdv Ar outer s H vs Q E hr h => ?_)
  · obtain ⟨a, ns, rfl, _⟩ := h
    rfl
  · obtain ⟨a, zs, rfl, hS, hlen, q⟩ := h
    refine ⟨_, (pss_cons (ps_set (i := 1) sc_law.nd rfl (Or.inl rfl) (pe_call G_l_tape (hr.mono (by decide)) (by rfl) T.g_l_tape T.F_l_tape.kp T.b_l_tape .nil pass0 (pa_cons (pv 0) (pa_cons pe_int pa_nil))))
      (pss_cons (ps_set (i := 2) sc_law.nd rfl (Or.inl rfl) (pe_call G_l_size (hr.mono (by decide)) (by rfl) T.g_l_size T.F_l_size.kp T.b_l_size .nil pass0 (pa_cons (pv 1) pa_nil)))
      (pss_cons (ps_set (i := 3) sc_law.nd rfl (Or.inl rfl) (pe_call G_l_nexts (hr.mono (by decide)) (by rfl) T.g_l_nexts T.F_l_nexts.kp T.b_l_nexts .nil pass0 (pa_cons (pe_call G_l_tape (hr.mono (by decide)) (by rfl) T.g_l_tape T.F_l_tape.kp T.b_l_tape .nil pass0 (pa_cons (pv 0) (pa_cons pe_int pa_nil))) (pa_cons (pv 2) pa_nil))))
      (pss_cons (ps_set (i := 4) sc_law.nd rfl (Or.inl rfl) (pe_call G_l_nexts (hr.mono (by decide)) (by rfl) T.g_l_nexts T.F_l_nexts.kp T.b_l_nexts .nil pass0 (pa_cons (pe_call G_l_tape (hr.mono (by decide)) (by rfl) T.g_l_tape T.F_l_tape.kp T.b_l_tape .nil pass0 (pa_cons (pv 0) (pa_cons pe_int pa_nil))) (pa_cons (pv 2) pa_nil))))
      (pss_cons (ps_setLc (i := 5) (own := [("_law_half", 8)]) (g := gName 8) (by rfl) sc_law.nd rfl rfl (sw_true rfl rfl rfl (by decide +kernel)) (RD.k_pil (K := K) rfl (pv 3)) (blkOk_by (own := [("_law_half", 8)]) (N := ["_law_script", "_law_tape_here", "_law_edges", "_law_nexts_here", "_law_others", "_law_passed", "_law_mesh", "_law_other", "_law_half"]) (sc := defScope s_law) (by decide +kernel)) (fun _ _ _ _ _ => (pg_name (i := 8) sc_law.nd rfl (Or.inl rfl))) (fun _ _ _ _ _ => pts_nil) (fun _ _ _ _ _ => (pv 8)))
      (pss_cons (ps_set (i := 6) sc_law.nd rfl (Or.inl rfl) (pe_make T.mk_Mesh G_Mesh_d_initd_ (hr.mono (by decide)) (by rfl) T.g_Mesh T.b_Mesh_d_initd_ .nil pass0 (pa_cons (pv 5) pa_nil)))
      (pss_cons (ps_set (i := 7) sc_law.nd rfl (Or.inl rfl) (pe_make T.mk_Mesh G_Mesh_d_initd_ (hr.mono (by decide)) (by rfl) T.g_Mesh T.b_Mesh_d_initd_ .nil pass0 (pa_cons (pv 4) pa_nil)))
      (pss_cons (ps_if (PW.pt (pw_or (pt_not (pt_val (pe_call G_l_right (hr.mono (by decide)) (by rfl) T.g_l_right T.F_l_right.kp T.b_l_right .nil pass0 (pa_cons (pv 6) (pa_cons (pv 3) pa_nil))))) (pw_or1 (pt_not (pt_val (pe_call G_l_right (hr.mono (by decide)) (by rfl) T.g_l_right T.F_l_right.kp T.b_l_right .nil pass0 (pa_cons (pv 7) (pa_cons (pv 4) pa_nil))))))))
      (pss_one (ps_ret pe_bl))
      pss_nil)
      (pss_cons (ps_expr (RD.k_bm (K := K) rfl PySem.F.plainAttrs_list PySem.F.slot_list_append PySem.F.type_list_append mt_append (pv 5) (pa_cons pe_int pa_nil)))
      (pss_cons (ps_if (pt_cmpR op_gt (pv 2) pe_int (nomark _))
      (pss_one (ps_asg pe_int (pg_sub (pv 5) pe_int set_list)))
      pss_nil)
      (pss_cons (ps_expr (pe_call G_l_spoil (hr.mono (by decide)) (by rfl) T.g_l_spoil T.F_l_spoil.kp T.b_l_spoil .nil pass0 (pa_cons (pv 6) pa_nil)))
      (pss_one (ps_ret (pe_and (pe_call G_l_right (hr.mono (by decide)) (by rfl) T.g_l_right T.F_l_right.kp T.b_l_right .nil pass0 (pa_cons (pv 6) (pa_cons (pv 3) pa_nil))) (pe_one (pe_call G_l_right (hr.mono (by decide)) (by rfl) T.g_l_right T.F_l_right.kp T.b_l_right .nil pass0 (pa_cons (pv 7) (pa_cons (pv 4) pa_nil)))))))))))))))))), ?_⟩
    show tSeq _ _ _ [some (.ref a), none, none, none, none, none, none, none, none] H
    walk_at "rd"
    refine ⟨a, zs, 0, rfl, hS, by decide, by decide, fun H1 t0 s1 nt0 tp0 => ?_⟩
    walk_at "rd"
    refine ⟨t0, rfl, tp0, fun e H2 he tp2 sx2 => ?_⟩
    have s2 : Same H H2 := sx2.under s1 nt0
    walk_at "rd"
    refine ⟨a, zs, 1, rfl, s2.seq hS, by decide, by decide, fun H3 t1 s3 nt1 tp3 => ?_⟩
    walk_at "rd"
    refine ⟨t1, e, rfl, tp3, he, fun H4 n1 ns hM hl nn1 tp4 sx4 en1 => ?_⟩
    have s4 : Same H2 H4 := sx4.under s3 nt1
    walk_at "rd"
    refine ⟨a, zs, 2, rfl, s4.seq (s2.seq hS), by decide, by decide, fun H5 t2 s5 nt2 tp5 => ?_⟩
    walk_at "rd"
    refine ⟨t2, e, rfl, tp5, he, fun H6 n2 ms hM2 hl2 nn2 tp6 sx6 en2 => ?_⟩
    have s6 : Same H4 H6 := sx6.under s5 nt2
    have en1' := s6 _ _ en1
    walk_at "rd"
    refine RD.lcL (sq en1') (by rw [vns_len]; exact szl (by omega)) (fun _ => true) id (fun i x H1 Q' R' hx s1 kT kF => ?_) (fun H7 ps nps s7 eps => ?_)
    · walk_at "wp"
      walk_at "rd"
      refine ⟨rfl, ?_⟩
      walk_at "rd"
      exact kT rfl _ (Same.refl _)
    rw [RD.pick_all (fun _ => rfl), List.map_id] at eps
    walk_at "rd"
    refine mk_mesh eps hM (by omega) fun H8 p1 a1 b1 np1 na1 nb1 s8 m8 => ?_
    walk_at "rd"
    refine mk_mesh (s8 _ _ (s7 _ _ en2)) hM2 (by omega) fun H9 p2 a2 b2 np2 na2 nb2 s9 m9 => ?_
    have m8' := m8.same s9
    have en1'' := s9 _ _ (s8 _ _ (s7 _ _ en1'))
    have en2'' := s9 _ _ (s8 _ _ (s7 _ _ en2))
    walk_at "rd"
    refine ⟨p1, a1, b1, n1, ns, rfl, m8', en1'', hM, by omega, fun H10 s10 => ?_⟩
    walk_at "rd"
    show (if false = true then _ else _)
    walk_at "rd"
    refine ⟨p2, a2, b2, n2, ms, rfl, m9.same s10, s10 _ _ en2'', hM2, by omega, fun H11 s11 => ?_⟩
    walk_at "rd"
    show (if false = true then _ else _)
    walk_at "rd"
    have ep11 : H11 ps = some (.lst (vns ns)) := s11 _ _ (s10 _ _ (s9 _ _ (s8 _ _ eps)))
    have m1 := (m8'.same s10).same s11
    have m2 := (m9.same s10).same s11
    have e1 := s11 _ _ (s10 _ _ en1'')
    have e2 := s11 _ _ (s10 _ _ en2'')
    have n1ps : n1 ≠ ps := ne_of_none en1' nps
    have n2ps : n2 ≠ ps := ne_of_none en2 nps
    have x1 : p1 ≠ ps ∧ a1 ≠ ps ∧ b1 ≠ ps := ⟨(ne_of_none eps np1).symm, (ne_of_none eps na1).symm, (ne_of_none eps nb1).symm⟩
    have ep8 := s8 _ _ eps
    have x2 : p2 ≠ ps ∧ a2 ≠ ps ∧ b2 ≠ ps := ⟨(ne_of_none ep8 np2).symm, (ne_of_none ep8 na2).symm, (ne_of_none ep8 nb2).symm⟩
    refine ⟨RD.tyL (sq ep11), ?_⟩
    walk_at "rd"
    refine RD.app ep11 (by rw [vns_len]; exact szt (by omega)) ?_
    -- what follows, from any heap that differs at ps alone
    have fin : ∀ (Hm : Hp) (t : TS) (o8 : Option V), SameX ps H11 Hm → (tSeq (tDrop (tCall (sp_l_spoil A) [] E0 (tCons (tVar 6) tNil))) (tRet (tAndV (tCall (sp_l_right A) [] E0 (tCons (tVar 6) (tCons (tVar 3) tNil))) (tCall (sp_l_right A) [] E0 (tCons (tVar 7) (tCons (tVar 4) tNil)))))) ⟨fun _ H' => Q .non H', Q, fun _ _ => False, fun _ _ => False⟩
        [some (.ref a), some (.ref t0), some (vn e), some (.ref n1), some (.ref n2), some (.ref ps), some (.ref p1), some (.ref p2), o8] Hm := by
      intro Hm t o8 sm
      have m1' := m1.sameX sm x1.1 x1.2.1 x1.2.2
      have m2' := m2.sameX sm x2.1 x2.2.1 x2.2.2
      have e1' := sm _ _ e1 n1ps
      have e2' := sm _ _ e2 n2ps
      walk_at "rd"
      refine ⟨p1, a1, b1, ns, rfl, m1', hM, by omega, fun Ha sa => ?_⟩
      walk_at "rd"
      refine ⟨p1, a1, b1, n1, ns, rfl, m1'.same sa, sa _ _ e1', hM, by omega, fun Hb sb => ?_⟩
      walk_at "rd"
      refine ⟨p2, a2, b2, n2, ms, rfl, (m2'.same sa).same sb, sb _ _ (sa _ _ e2'), hM2, by omega, fun Hc sc => ?_⟩
      exact q Hc
    refine RD.seq ?_
    refine RD.ifs ?_
    refine RD.tst ?_
    walk_at "rd"
    refine RD.dec (fun h0 => ?_) (fun h0 => ?_)
    · refine RD.asg ?_
      walk_at "rd"
      refine RD.setL upd_same (j := 0) ?_ ?_
      · rw [List.length_append, vns_len]
        exact ix_n (j := 0) (by omega)
      exact fin _ tNext _ (((SameX.refl ps H11).put).put)
    · refine RD.nxt ?_
      exact fin _ tNext _ ((SameX.refl ps H11).put)
end
end Pf

namespace Pf
open PySem PySem.Spec PyProof.Rows L2
theorem all_mk {l : PySem.W.OpenLaw} {w : World} {K : PySem.W.Frag} {h : Heap} {mg : Str → Option Value} {fa f1 f2 f3 f4 f5 f6 f7 f8 f9 f10 f11 f12 f13 f14 f15 f16 f17 f18 f19 f20 f21 f22 f23 f24 f25 C_MeshError C_NotAMesh C_Mesh : Addr} (X : K.In h) (G : h.Ns mainGlobals mg) (hfa : mg "law" = some (.ref fa))
    {od1 an1 : Option Addr} {sl1 : Array (Option Value)} {oc1 kV1 dc1 pm1 cd1 ct1 : Value}
    {od2 an2 : Option Addr} {sl2 : Array (Option Value)} {oc2 kV2 dc2 pm2 cd2 ct2 : Value}
    {od3 an3 : Option Addr} {sl3 : Array (Option Value)} {oc3 kV3 dc3 pm3 cd3 ct3 : Value}
    {od4 an4 : Option Addr} {sl4 : Array (Option Value)} {oc4 kV4 dc4 pm4 cd4 ct4 : Value}
    {od5 an5 : Option Addr} {sl5 : Array (Option Value)} {oc5 kV5 dc5 pm5 cd5 ct5 : Value}
    {od6 an6 : Option Addr} {sl6 : Array (Option Value)} {oc6 kV6 dc6 pm6 cd6 ct6 : Value}
    {od7 an7 : Option Addr} {sl7 : Array (Option Value)} {oc7 kV7 dc7 pm7 cd7 ct7 : Value}
    {od8 an8 : Option Addr} {sl8 : Array (Option Value)} {oc8 kV8 dc8 pm8 cd8 ct8 : Value}
    {od9 an9 : Option Addr} {sl9 : Array (Option Value)} {oc9 kV9 dc9 pm9 cd9 ct9 : Value}
    {od10 an10 : Option Addr} {sl10 : Array (Option Value)} {oc10 kV10 dc10 pm10 cd10 ct10 : Value}
    {od11 an11 : Option Addr} {sl11 : Array (Option Value)} {oc11 kV11 dc11 pm11 cd11 ct11 : Value}
    {od12 an12 : Option Addr} {sl12 : Array (Option Value)} {oc12 kV12 dc12 pm12 cd12 ct12 : Value}
    {od13 an13 : Option Addr} {sl13 : Array (Option Value)} {oc13 kV13 dc13 pm13 cd13 ct13 : Value}
    {od14 an14 : Option Addr} {sl14 : Array (Option Value)} {oc14 kV14 dc14 pm14 cd14 ct14 : Value}
    {od15 an15 : Option Addr} {sl15 : Array (Option Value)} {oc15 kV15 dc15 pm15 cd15 ct15 : Value}
    {od16 an16 : Option Addr} {sl16 : Array (Option Value)} {oc16 kV16 dc16 pm16 cd16 ct16 : Value}
    {od17 an17 : Option Addr} {sl17 : Array (Option Value)} {oc17 kV17 dc17 pm17 cd17 ct17 : Value}
    {od18 an18 : Option Addr} {sl18 : Array (Option Value)} {oc18 kV18 dc18 pm18 cd18 ct18 : Value}
    {od19 an19 : Option Addr} {sl19 : Array (Option Value)} {oc19 kV19 dc19 pm19 cd19 ct19 : Value}
    {od20 an20 : Option Addr} {sl20 : Array (Option Value)} {oc20 kV20 dc20 pm20 cd20 ct20 : Value}
    {od21 an21 : Option Addr} {sl21 : Array (Option Value)} {oc21 kV21 dc21 pm21 cd21 ct21 : Value}
    {od22 an22 : Option Addr} {sl22 : Array (Option Value)} {oc22 kV22 dc22 pm22 cd22 ct22 : Value}
    {od23 an23 : Option Addr} {sl23 : Array (Option Value)} {oc23 kV23 dc23 pm23 cd23 ct23 : Value}
    {od24 an24 : Option Addr} {sl24 : Array (Option Value)} {oc24 kV24 dc24 pm24 cd24 ct24 : Value}
    {od25 an25 : Option Addr} {sl25 : Array (Option Value)} {oc25 kV25 dc25 pm25 cd25 ct25 : Value}
    (aC_MeshError : PySem.W.nsIn K mainGlobals "MeshError" = some (some (.ref C_MeshError)))
    (aC_NotAMesh : PySem.W.nsIn K mainGlobals "NotAMesh" = some (some (.ref C_NotAMesh)))
    (aC_Mesh : PySem.W.nsIn K mainGlobals "Mesh" = some (some (.ref C_Mesh)))
    (a1 : PySem.W.nsIn K mainGlobals "twin_of" = some (some (.ref f1)))
    (l1 : K.lookup f1 = some ⟨oc1, od1, .func (PySem.W.fnOf "twin_of" "twin_of" (defArgs s_twin_of) (defBody s_twin_of) (defScope s_twin_of) .none kV1 dc1 pm1 an1 cd1 ct1), sl1⟩)
    (c1 : PySem.W.codeIn K cd1 "twin_of" = true)
    (k1 : PySem.W.keepIn K (.ref f1) = true)
    (a2 : PySem.W.nsIn K mainGlobals "rounds" = some (some (.ref f2)))
    (l2 : K.lookup f2 = some ⟨oc2, od2, .func (PySem.W.fnOf "rounds" "rounds" (defArgs s_rounds) (defBody s_rounds) (defScope s_rounds) .none kV2 dc2 pm2 an2 cd2 ct2), sl2⟩)
    (c2 : PySem.W.codeIn K cd2 "rounds" = true)
    (k2 : PySem.W.keepIn K (.ref f2) = true)
    (a3 : PySem.W.nsIn K mainGlobals "are_integers" = some (some (.ref f3)))
    (l3 : K.lookup f3 = some ⟨oc3, od3, .func (PySem.W.fnOf "are_integers" "are_integers" (defArgs s_are_integers) (defBody s_are_integers) (defScope s_are_integers) .none kV3 dc3 pm3 an3 cd3 ct3), sl3⟩)
    (c3 : PySem.W.codeIn K cd3 "are_integers" = true)
    (k3 : PySem.W.keepIn K (.ref f3) = true)
    (a4 : PySem.W.findIn K (.ref C_Mesh) "__init__" = some (some (.ref f4)))
    (i4 : PySem.W.isFn K (.ref f4) = true)
    (l4 : K.lookup f4 = some ⟨oc4, od4, .func (PySem.W.fnOf "__init__" "Mesh.__init__" (defArgs s_Mesh_d_initd_) (defBody s_Mesh_d_initd_) (defScope s_Mesh_d_initd_) .none kV4 dc4 pm4 an4 cd4 ct4), sl4⟩)
    (c4 : PySem.W.codeIn K cd4 "Mesh.__init__" = true)
    (k4 : PySem.W.keepIn K (.ref f4) = true)
    (a5 : PySem.W.findIn K (.ref C_Mesh) "__len__" = some (some (.ref f5)))
    (i5 : PySem.W.isFn K (.ref f5) = true)
    (l5 : K.lookup f5 = some ⟨oc5, od5, .func (PySem.W.fnOf "__len__" "Mesh.__len__" (defArgs s_Mesh_d_lend_) (defBody s_Mesh_d_lend_) (defScope s_Mesh_d_lend_) .none kV5 dc5 pm5 an5 cd5 ct5), sl5⟩)
    (c5 : PySem.W.codeIn K cd5 "Mesh.__len__" = true)
    (k5 : PySem.W.keepIn K (.ref f5) = true)
    (a6 : PySem.W.findIn K (.ref C_Mesh) "__contains__" = some (some (.ref f6)))
    (i6 : PySem.W.isFn K (.ref f6) = true)
    (l6 : K.lookup f6 = some ⟨oc6, od6, .func (PySem.W.fnOf "__contains__" "Mesh.__contains__" (defArgs s_Mesh_d_containsd_) (defBody s_Mesh_d_containsd_) (defScope s_Mesh_d_containsd_) .none kV6 dc6 pm6 an6 cd6 ct6), sl6⟩)
    (c6 : PySem.W.codeIn K cd6 "Mesh.__contains__" = true)
    (k6 : PySem.W.keepIn K (.ref f6) = true)
    (a7 : PySem.W.findIn K (.ref C_Mesh) "__eq__" = some (some (.ref f7)))
    (i7 : PySem.W.isFn K (.ref f7) = true)
    (l7 : K.lookup f7 = some ⟨oc7, od7, .func (PySem.W.fnOf "__eq__" "Mesh.__eq__" (defArgs s_Mesh_d_eqd_) (defBody s_Mesh_d_eqd_) (defScope s_Mesh_d_eqd_) .none kV7 dc7 pm7 an7 cd7 ct7), sl7⟩)
    (c7 : PySem.W.codeIn K cd7 "Mesh.__eq__" = true)
    (k7 : PySem.W.keepIn K (.ref f7) = true)
    (a8 : PySem.W.findIn K (.ref C_Mesh) "after" = some (some (.ref f8)))
    (i8 : PySem.W.isFn K (.ref f8) = true)
    (l8 : K.lookup f8 = some ⟨oc8, od8, .func (PySem.W.fnOf "after" "Mesh.after" (defArgs s_Mesh_after) (defBody s_Mesh_after) (defScope s_Mesh_after) .none kV8 dc8 pm8 an8 cd8 ct8), sl8⟩)
    (c8 : PySem.W.codeIn K cd8 "Mesh.after" = true)
    (k8 : PySem.W.keepIn K (.ref f8) = true)
    (a9 : PySem.W.findIn K (.ref C_Mesh) "before" = some (some (.ref f9)))
    (i9 : PySem.W.isFn K (.ref f9) = true)
    (l9 : K.lookup f9 = some ⟨oc9, od9, .func (PySem.W.fnOf "before" "Mesh.before" (defArgs s_Mesh_before) (defBody s_Mesh_before) (defScope s_Mesh_before) .none kV9 dc9 pm9 an9 cd9 ct9), sl9⟩)
    (c9 : PySem.W.codeIn K cd9 "Mesh.before" = true)
    (k9 : PySem.W.keepIn K (.ref f9) = true)
    (a10 : PySem.W.findIn K (.ref C_Mesh) "twin" = some (some (.ref f10)))
    (i10 : PySem.W.isFn K (.ref f10) = true)
    (l10 : K.lookup f10 = some ⟨oc10, od10, .func (PySem.W.fnOf "twin" "Mesh.twin" (defArgs s_Mesh_twin) (defBody s_Mesh_twin) (defScope s_Mesh_twin) .none kV10 dc10 pm10 an10 cd10 ct10), sl10⟩)
    (c10 : PySem.W.codeIn K cd10 "Mesh.twin" = true)
    (k10 : PySem.W.keepIn K (.ref f10) = true)
    (a11 : PySem.W.findIn K (.ref C_Mesh) "turned" = some (some (.ref f11)))
    (i11 : PySem.W.isFn K (.ref f11) = true)
    (l11 : K.lookup f11 = some ⟨oc11, od11, .func (PySem.W.fnOf "turned" "Mesh.turned" (defArgs s_Mesh_turned) (defBody s_Mesh_turned) (defScope s_Mesh_turned) .none kV11 dc11 pm11 an11 cd11 ct11), sl11⟩)
    (c11 : PySem.W.codeIn K cd11 "Mesh.turned" = true)
    (k11 : PySem.W.keepIn K (.ref f11) = true)
    (a12 : PySem.W.findIn K (.ref C_Mesh) "nexts" = some (some (.ref f12)))
    (i12 : PySem.W.isFn K (.ref f12) = true)
    (l12 : K.lookup f12 = some ⟨oc12, od12, .func (PySem.W.fnOf "nexts" "Mesh.nexts" (defArgs s_Mesh_nexts) (defBody s_Mesh_nexts) (defScope s_Mesh_nexts) .none kV12 dc12 pm12 an12 cd12 ct12), sl12⟩)
    (c12 : PySem.W.codeIn K cd12 "Mesh.nexts" = true)
    (k12 : PySem.W.keepIn K (.ref f12) = true)
    (a13 : PySem.W.findIn K (.ref C_Mesh) "faces" = some (some (.ref f13)))
    (i13 : PySem.W.isFn K (.ref f13) = true)
    (l13 : K.lookup f13 = some ⟨oc13, od13, .func (PySem.W.fnOf "faces" "Mesh.faces" (defArgs s_Mesh_faces) (defBody s_Mesh_faces) (defScope s_Mesh_faces) .none kV13 dc13 pm13 an13 cd13 ct13), sl13⟩)
    (c13 : PySem.W.codeIn K cd13 "Mesh.faces" = true)
    (k13 : PySem.W.keepIn K (.ref f13) = true)
    (a14 : PySem.W.findIn K (.ref C_Mesh) "corners" = some (some (.ref f14)))
    (i14 : PySem.W.isFn K (.ref f14) = true)
    (l14 : K.lookup f14 = some ⟨oc14, od14, .func (PySem.W.fnOf "corners" "Mesh.corners" (defArgs s_Mesh_corners) (defBody s_Mesh_corners) (defScope s_Mesh_corners) .none kV14 dc14 pm14 an14 cd14 ct14), sl14⟩)
    (c14 : PySem.W.codeIn K cd14 "Mesh.corners" = true)
    (k14 : PySem.W.keepIn K (.ref f14) = true)
    (a15 : PySem.W.nsIn K mainGlobals "_law_tape" = some (some (.ref f15)))
    (l15 : K.lookup f15 = some ⟨oc15, od15, .func (PySem.W.fnOf "_law_tape" "_law_tape" (defArgs s_l_tape) (defBody s_l_tape) (defScope s_l_tape) .none kV15 dc15 pm15 an15 cd15 ct15), sl15⟩)
    (c15 : PySem.W.codeIn K cd15 "_law_tape" = true)
    (k15 : PySem.W.keepIn K (.ref f15) = true)
    (a16 : PySem.W.nsIn K mainGlobals "_law_pick" = some (some (.ref f16)))
    (l16 : K.lookup f16 = some ⟨oc16, od16, .func (PySem.W.fnOf "_law_pick" "_law_pick" (defArgs s_l_pick) (defBody s_l_pick) (defScope s_l_pick) .none kV16 dc16 pm16 an16 cd16 ct16), sl16⟩)
    (c16 : PySem.W.codeIn K cd16 "_law_pick" = true)
    (k16 : PySem.W.keepIn K (.ref f16) = true)
    (a17 : PySem.W.nsIn K mainGlobals "_law_nexts" = some (some (.ref f17)))
    (l17 : K.lookup f17 = some ⟨oc17, od17, .func (PySem.W.fnOf "_law_nexts" "_law_nexts" (defArgs s_l_nexts) (defBody s_l_nexts) (defScope s_l_nexts) .none kV17 dc17 pm17 an17 cd17 ct17), sl17⟩)
    (c17 : PySem.W.codeIn K cd17 "_law_nexts" = true)
    (k17 : PySem.W.keepIn K (.ref f17) = true)
    (a18 : PySem.W.nsIn K mainGlobals "_law_size" = some (some (.ref f18)))
    (l18 : K.lookup f18 = some ⟨oc18, od18, .func (PySem.W.fnOf "_law_size" "_law_size" (defArgs s_l_size) (defBody s_l_size) (defScope s_l_size) .none kV18 dc18 pm18 an18 cd18 ct18), sl18⟩)
    (c18 : PySem.W.codeIn K cd18 "_law_size" = true)
    (k18 : PySem.W.keepIn K (.ref f18) = true)
    (a19 : PySem.W.nsIn K mainGlobals "_law_twin" = some (some (.ref f19)))
    (l19 : K.lookup f19 = some ⟨oc19, od19, .func (PySem.W.fnOf "_law_twin" "_law_twin" (defArgs s_l_twin) (defBody s_l_twin) (defScope s_l_twin) .none kV19 dc19 pm19 an19 cd19 ct19), sl19⟩)
    (c19 : PySem.W.codeIn K cd19 "_law_twin" = true)
    (k19 : PySem.W.keepIn K (.ref f19) = true)
    (a20 : PySem.W.nsIn K mainGlobals "_law_turned" = some (some (.ref f20)))
    (l20 : K.lookup f20 = some ⟨oc20, od20, .func (PySem.W.fnOf "_law_turned" "_law_turned" (defArgs s_l_turned) (defBody s_l_turned) (defScope s_l_turned) .none kV20 dc20 pm20 an20 cd20 ct20), sl20⟩)
    (c20 : PySem.W.codeIn K cd20 "_law_turned" = true)
    (k20 : PySem.W.keepIn K (.ref f20) = true)
    (a21 : PySem.W.nsIn K mainGlobals "_law_round" = some (some (.ref f21)))
    (l21 : K.lookup f21 = some ⟨oc21, od21, .func (PySem.W.fnOf "_law_round" "_law_round" (defArgs s_l_round) (defBody s_l_round) (defScope s_l_round) .none kV21 dc21 pm21 an21 cd21 ct21), sl21⟩)
    (c21 : PySem.W.codeIn K cd21 "_law_round" = true)
    (k21 : PySem.W.keepIn K (.ref f21) = true)
    (a22 : PySem.W.nsIn K mainGlobals "_law_rounds" = some (some (.ref f22)))
    (l22 : K.lookup f22 = some ⟨oc22, od22, .func (PySem.W.fnOf "_law_rounds" "_law_rounds" (defArgs s_l_rounds) (defBody s_l_rounds) (defScope s_l_rounds) .none kV22 dc22 pm22 an22 cd22 ct22), sl22⟩)
    (c22 : PySem.W.codeIn K cd22 "_law_rounds" = true)
    (k22 : PySem.W.keepIn K (.ref f22) = true)
    (a23 : PySem.W.nsIn K mainGlobals "_law_right" = some (some (.ref f23)))
    (l23 : K.lookup f23 = some ⟨oc23, od23, .func (PySem.W.fnOf "_law_right" "_law_right" (defArgs s_l_right) (defBody s_l_right) (defScope s_l_right) .none kV23 dc23 pm23 an23 cd23 ct23), sl23⟩)
    (c23 : PySem.W.codeIn K cd23 "_law_right" = true)
    (k23 : PySem.W.keepIn K (.ref f23) = true)
    (a24 : PySem.W.nsIn K mainGlobals "_law_spoil" = some (some (.ref f24)))
    (l24 : K.lookup f24 = some ⟨oc24, od24, .func (PySem.W.fnOf "_law_spoil" "_law_spoil" (defArgs s_l_spoil) (defBody s_l_spoil) (defScope s_l_spoil) .none kV24 dc24 pm24 an24 cd24 ct24), sl24⟩)
    (c24 : PySem.W.codeIn K cd24 "_law_spoil" = true)
    (k24 : PySem.W.keepIn K (.ref f24) = true)
    (a25 : PySem.W.nsIn K mainGlobals "law" = some (some (.ref f25)))
    (l25 : K.lookup f25 = some ⟨oc25, od25, .func (PySem.W.fnOf "law" "law" (defArgs s_law) (defBody s_law) (defScope s_law) .none kV25 dc25 pm25 an25 cd25 ct25), sl25⟩)
    (c25 : PySem.W.codeIn K cd25 "law" = true)
    (k25 : PySem.W.keepIn K (.ref f25) = true)
    (pg_Mesh : PySem.W.plainGet K C_Mesh Str.empty = true)
    (hd_Mesh : PySem.W.hasDictIn K C_Mesh = true)
    (po_Mesh : PySem.W.plainOver K C_Mesh = true)
    (sa_Mesh : PySem.W.findIn K (.ref C_Mesh) "__setattr__" = some (some (.builtin "object.__setattr__")))
    (mk_Mesh : PySem.W.makesIn K C_Mesh = true)
    (kc_Mesh : PySem.W.keepIn K (.ref C_Mesh) = true)
    (hn_Mesh_following : PySem.W.findIn K (.ref C_Mesh) "following" = some none)
    (hn_Mesh_preceding : PySem.W.findIn K (.ref C_Mesh) "preceding" = some none)
    (hz_abs : PySem.W.nsIn K mainGlobals "abs" = some none)
    (hz_all : PySem.W.nsIn K mainGlobals "all" = some none)
    (hz_bool : PySem.W.nsIn K mainGlobals "bool" = some none)
    (hz_enumerate : PySem.W.nsIn K mainGlobals "enumerate" = some none)
    (hz_int : PySem.W.nsIn K mainGlobals "int" = some none)
    (hz_isinstance : PySem.W.nsIn K mainGlobals "isinstance" = some none)
    (hz_len : PySem.W.nsIn K mainGlobals "len" = some none)
    (hz_list : PySem.W.nsIn K mainGlobals "list" = some none)
    (hz_min : PySem.W.nsIn K mainGlobals "min" = some none)
    (hz_range : PySem.W.nsIn K mainGlobals "range" = some none)
    (hz_sorted : PySem.W.nsIn K mainGlobals "sorted" = some none)
    : ∃ fd : FuncData, (∀ (s : Shared) (v : Value), BindsTo s fd ⟨[v], []⟩ [("_law_script", v)]) ∧ ∀ base : Heap, K.In base → base.Ns mainGlobals mg → FnOk l.prog w K mg base CX0 6 fa fd ["_law_script"] (sp_law K) := by
  have e := hfa.symm.trans (PySem.W.mg_of X G a25)
  cases e
  let A : Ad := ⟨f1, (PySem.W.fnOf "twin_of" "twin_of" (defArgs s_twin_of) (defBody s_twin_of) (defScope s_twin_of) .none kV1 dc1 pm1 an1 cd1 ct1), f2, (PySem.W.fnOf "rounds" "rounds" (defArgs s_rounds) (defBody s_rounds) (defScope s_rounds) .none kV2 dc2 pm2 an2 cd2 ct2), f3, (PySem.W.fnOf "are_integers" "are_integers" (defArgs s_are_integers) (defBody s_are_integers) (defScope s_are_integers) .none kV3 dc3 pm3 an3 cd3 ct3), f4, (PySem.W.fnOf "__init__" "Mesh.__init__" (defArgs s_Mesh_d_initd_) (defBody s_Mesh_d_initd_) (defScope s_Mesh_d_initd_) .none kV4 dc4 pm4 an4 cd4 ct4), f5, (PySem.W.fnOf "__len__" "Mesh.__len__" (defArgs s_Mesh_d_lend_) (defBody s_Mesh_d_lend_) (defScope s_Mesh_d_lend_) .none kV5 dc5 pm5 an5 cd5 ct5), f6, (PySem.W.fnOf "__contains__" "Mesh.__contains__" (defArgs s_Mesh_d_containsd_) (defBody s_Mesh_d_containsd_) (defScope s_Mesh_d_containsd_) .none kV6 dc6 pm6 an6 cd6 ct6), f7, (PySem.W.fnOf "__eq__" "Mesh.__eq__" (defArgs s_Mesh_d_eqd_) (defBody s_Mesh_d_eqd_) (defScope s_Mesh_d_eqd_) .none kV7 dc7 pm7 an7 cd7 ct7), f8, (PySem.W.fnOf "after" "Mesh.after" (defArgs s_Mesh_after) (defBody s_Mesh_after) (defScope s_Mesh_after) .none kV8 dc8 pm8 an8 cd8 ct8), f9, (PySem.W.fnOf "before" "Mesh.before" (defArgs s_Mesh_before) (defBody s_Mesh_before) (defScope s_Mesh_before) .none kV9 dc9 pm9 an9 cd9 ct9), f10, (PySem.W.fnOf "twin" "Mesh.twin" (defArgs s_Mesh_twin) (defBody s_Mesh_twin) (defScope s_Mesh_twin) .none kV10 dc10 pm10 an10 cd10 ct10), f11, (PySem.W.fnOf "turned" "Mesh.turned" (defArgs s_Mesh_turned) (defBody s_Mesh_turned) (defScope s_Mesh_turned) .none kV11 dc11 pm11 an11 cd11 ct11), f12, (PySem.W.fnOf "nexts" "Mesh.nexts" (defArgs s_Mesh_nexts) (defBody s_Mesh_nexts) (defScope s_Mesh_nexts) .none kV12 dc12 pm12 an12 cd12 ct12), f13, (PySem.W.fnOf "faces" "Mesh.faces" (defArgs s_Mesh_faces) (defBody s_Mesh_faces) (defScope s_Mesh_faces) .none kV13 dc13 pm13 an13 cd13 ct13), f14, (PySem.W.fnOf "corners" "Mesh.corners" (defArgs s_Mesh_corners) (defBody s_Mesh_corners) (defScope s_Mesh_corners) .none kV14 dc14 pm14 an14 cd14 ct14), f15, (PySem.W.fnOf "_law_tape" "_law_tape" (defArgs s_l_tape) (defBody s_l_tape) (defScope s_l_tape) .none kV15 dc15 pm15 an15 cd15 ct15), f16, (PySem.W.fnOf "_law_pick" "_law_pick" (defArgs s_l_pick) (defBody s_l_pick) (defScope s_l_pick) .none kV16 dc16 pm16 an16 cd16 ct16), f17, (PySem.W.fnOf "_law_nexts" "_law_nexts" (defArgs s_l_nexts) (defBody s_l_nexts) (defScope s_l_nexts) .none kV17 dc17 pm17 an17 cd17 ct17), f18, (PySem.W.fnOf "_law_size" "_law_size" (defArgs s_l_size) (defBody s_l_size) (defScope s_l_size) .none kV18 dc18 pm18 an18 cd18 ct18), f19, (PySem.W.fnOf "_law_twin" "_law_twin" (defArgs s_l_twin) (defBody s_l_twin) (defScope s_l_twin) .none kV19 dc19 pm19 an19 cd19 ct19), f20, (PySem.W.fnOf "_law_turned" "_law_turned" (defArgs s_l_turned) (defBody s_l_turned) (defScope s_l_turned) .none kV20 dc20 pm20 an20 cd20 ct20), f21, (PySem.W.fnOf "_law_round" "_law_round" (defArgs s_l_round) (defBody s_l_round) (defScope s_l_round) .none kV21 dc21 pm21 an21 cd21 ct21), f22, (PySem.W.fnOf "_law_rounds" "_law_rounds" (defArgs s_l_rounds) (defBody s_l_rounds) (defScope s_l_rounds) .none kV22 dc22 pm22 an22 cd22 ct22), f23, (PySem.W.fnOf "_law_right" "_law_right" (defArgs s_l_right) (defBody s_l_right) (defScope s_l_right) .none kV23 dc23 pm23 an23 cd23 ct23), f24, (PySem.W.fnOf "_law_spoil" "_law_spoil" (defArgs s_l_spoil) (defBody s_l_spoil) (defScope s_l_spoil) .none kV24 dc24 pm24 an24 cd24 ct24), fa, (PySem.W.fnOf "law" "law" (defArgs s_law) (defBody s_law) (defScope s_law) .none kV25 dc25 pm25 an25 cd25 ct25), C_MeshError, C_NotAMesh, C_Mesh⟩
  have T : Txt K mg A := ⟨fun_mk (st := s_twin_of) l1 c1 k1,
    (fun_mk (st := s_twin_of) l1 c1 k1).binds (ps := ["half"]) fun _ _ _ _ _ _ us hl => match us, hl with | [_], _ => rfl,
    PySem.W.mg_of X G a1,
    fun_mk (st := s_rounds) l2 c2 k2,
    (fun_mk (st := s_rounds) l2 c2 k2).binds (ps := ["steps"]) fun _ _ _ _ _ _ us hl => match us, hl with | [_], _ => rfl,
    PySem.W.mg_of X G a2,
    fun_mk (st := s_are_integers) l3 c3 k3,
    (fun_mk (st := s_are_integers) l3 c3 k3).binds (ps := ["values"]) fun _ _ _ _ _ _ us hl => match us, hl with | [_], _ => rfl,
    PySem.W.mg_of X G a3,
    fun_mk (st := s_Mesh_d_initd_) l4 c4 k4,
    (fun_mk (st := s_Mesh_d_initd_) l4 c4 k4).binds (ps := ["self", "nexts"]) fun _ _ _ _ _ _ us hl => match us, hl with | [_, _], _ => rfl,
    ⟨a4, i4, k4⟩,
    fun_mk (st := s_Mesh_d_lend_) l5 c5 k5,
    (fun_mk (st := s_Mesh_d_lend_) l5 c5 k5).binds (ps := ["self"]) fun _ _ _ _ _ _ us hl => match us, hl with | [_], _ => rfl,
    ⟨a5, i5, k5⟩,
    fun_mk (st := s_Mesh_d_containsd_) l6 c6 k6,
    (fun_mk (st := s_Mesh_d_containsd_) l6 c6 k6).binds (ps := ["self", "half"]) fun _ _ _ _ _ _ us hl => match us, hl with | [_, _], _ => rfl,
    ⟨a6, i6, k6⟩,
    fun_mk (st := s_Mesh_d_eqd_) l7 c7 k7,
    (fun_mk (st := s_Mesh_d_eqd_) l7 c7 k7).binds (ps := ["self", "other"]) fun _ _ _ _ _ _ us hl => match us, hl with | [_, _], _ => rfl,
    ⟨a7, i7, k7⟩,
    fun_mk (st := s_Mesh_after) l8 c8 k8,
    (fun_mk (st := s_Mesh_after) l8 c8 k8).binds (ps := ["self", "half"]) fun _ _ _ _ _ _ us hl => match us, hl with | [_, _], _ => rfl,
    ⟨a8, i8, k8⟩,
    fun_mk (st := s_Mesh_before) l9 c9 k9,
    (fun_mk (st := s_Mesh_before) l9 c9 k9).binds (ps := ["self", "half"]) fun _ _ _ _ _ _ us hl => match us, hl with | [_, _], _ => rfl,
    ⟨a9, i9, k9⟩,
    fun_mk (st := s_Mesh_twin) l10 c10 k10,
    (fun_mk (st := s_Mesh_twin) l10 c10 k10).binds (ps := ["self", "half"]) fun _ _ _ _ _ _ us hl => match us, hl with | [_, _], _ => rfl,
    ⟨a10, i10, k10⟩,
    fun_mk (st := s_Mesh_turned) l11 c11 k11,
    (fun_mk (st := s_Mesh_turned) l11 c11 k11).binds (ps := ["self", "half"]) fun _ _ _ _ _ _ us hl => match us, hl with | [_, _], _ => rfl,
    ⟨a11, i11, k11⟩,
    fun_mk (st := s_Mesh_nexts) l12 c12 k12,
    (fun_mk (st := s_Mesh_nexts) l12 c12 k12).binds (ps := ["self"]) fun _ _ _ _ _ _ us hl => match us, hl with | [_], _ => rfl,
    ⟨a12, i12, k12⟩,
    fun_mk (st := s_Mesh_faces) l13 c13 k13,
    (fun_mk (st := s_Mesh_faces) l13 c13 k13).binds (ps := ["self"]) fun _ _ _ _ _ _ us hl => match us, hl with | [_], _ => rfl,
    ⟨a13, i13, k13⟩,
    fun_mk (st := s_Mesh_corners) l14 c14 k14,
    (fun_mk (st := s_Mesh_corners) l14 c14 k14).binds (ps := ["self"]) fun _ _ _ _ _ _ us hl => match us, hl with | [_], _ => rfl,
    ⟨a14, i14, k14⟩,
    fun_mk (st := s_l_tape) l15 c15 k15,
    (fun_mk (st := s_l_tape) l15 c15 k15).binds (ps := ["_law_script", "_law_k"]) fun _ _ _ _ _ _ us hl => match us, hl with | [_, _], _ => rfl,
    PySem.W.mg_of X G a15,
    fun_mk (st := s_l_pick) l16 c16 k16,
    (fun_mk (st := s_l_pick) l16 c16 k16).binds (ps := ["_law_tape_here", "_law_many"]) fun _ _ _ _ _ _ us hl => match us, hl with | [_, _], _ => rfl,
    PySem.W.mg_of X G a16,
    fun_mk (st := s_l_nexts) l17 c17 k17,
    (fun_mk (st := s_l_nexts) l17 c17 k17).binds (ps := ["_law_tape_here", "_law_edges"]) fun _ _ _ _ _ _ us hl => match us, hl with | [_, _], _ => rfl,
    PySem.W.mg_of X G a17,
    fun_mk (st := s_l_size) l18 c18 k18,
    (fun_mk (st := s_l_size) l18 c18 k18).binds (ps := ["_law_tape_here"]) fun _ _ _ _ _ _ us hl => match us, hl with | [_], _ => rfl,
    PySem.W.mg_of X G a18,
    fun_mk (st := s_l_twin) l19 c19 k19,
    (fun_mk (st := s_l_twin) l19 c19 k19).binds (ps := ["_law_half"]) fun _ _ _ _ _ _ us hl => match us, hl with | [_], _ => rfl,
    PySem.W.mg_of X G a19,
    fun_mk (st := s_l_turned) l20 c20 k20,
    (fun_mk (st := s_l_turned) l20 c20 k20).binds (ps := ["_law_nexts_here", "_law_half"]) fun _ _ _ _ _ _ us hl => match us, hl with | [_, _], _ => rfl,
    PySem.W.mg_of X G a20,
    fun_mk (st := s_l_round) l21 c21 k21,
    (fun_mk (st := s_l_round) l21 c21 k21).binds (ps := ["_law_nexts_here", "_law_half", "_law_by_face"]) fun _ _ _ _ _ _ us hl => match us, hl with | [_, _, _], _ => rfl,
    PySem.W.mg_of X G a21,
    fun_mk (st := s_l_rounds) l22 c22 k22,
    (fun_mk (st := s_l_rounds) l22 c22 k22).binds (ps := ["_law_nexts_here", "_law_by_face"]) fun _ _ _ _ _ _ us hl => match us, hl with | [_, _], _ => rfl,
    PySem.W.mg_of X G a22,
    fun_mk (st := s_l_right) l23 c23 k23,
    (fun_mk (st := s_l_right) l23 c23 k23).binds (ps := ["_law_mesh", "_law_nexts_here"]) fun _ _ _ _ _ _ us hl => match us, hl with | [_, _], _ => rfl,
    PySem.W.mg_of X G a23,
    fun_mk (st := s_l_spoil) l24 c24 k24,
    (fun_mk (st := s_l_spoil) l24 c24 k24).binds (ps := ["_law_mesh"]) fun _ _ _ _ _ _ us hl => match us, hl with | [_], _ => rfl,
    PySem.W.mg_of X G a24,
    fun_mk (st := s_law) l25 c25 k25,
    (fun_mk (st := s_law) l25 c25 k25).binds (ps := ["_law_script"]) fun _ _ _ _ _ _ us hl => match us, hl with | [_], _ => rfl,
    PySem.W.mg_of X G a25,
    PySem.W.mg_of X G aC_MeshError,
    PySem.W.mg_of X G aC_NotAMesh,
    PySem.W.mg_of X G aC_Mesh,
    ⟨pg_Mesh, hd_Mesh, po_Mesh, sa_Mesh⟩,
    ⟨mk_Mesh, a4, i4, kc_Mesh⟩,
    hn_Mesh_following,
    hn_Mesh_preceding,
    PySem.W.mg_none_of X G hz_abs,
    PySem.W.mg_none_of X G hz_all,
    PySem.W.mg_none_of X G hz_bool,
    PySem.W.mg_none_of X G hz_enumerate,
    PySem.W.mg_none_of X G hz_int,
    PySem.W.mg_none_of X G hz_isinstance,
    PySem.W.mg_none_of X G hz_len,
    PySem.W.mg_none_of X G hz_list,
    PySem.W.mg_none_of X G hz_min,
    PySem.W.mg_none_of X G hz_range,
    PySem.W.mg_none_of X G hz_sorted⟩
  exact ⟨A.d_law, fun s v => .of_eq rfl, fun base _ _ => ok_law (A := A) T⟩
end Pf
open PySem PySem.W PyProof.Rows
set_option maxRecDepth 100000 in
set_option maxHeartbeats 0 in
theorem PySem.Challenge.cw_halfmeshes_k11_links_and_rounds_holds : PySem.Challenge.rw_halfmeshes_k11_links_and_rounds.Holds := by
  w_on; o_law; k_head; (case hw => w_witness2)
  k_fill
  refine L2.walk_of (l := PySem.Challenge.rw_halfmeshes_k11_links_and_rounds) (n := 63) (k := 6) (x := "_law_script") (CX := fun _ => L2.CX0) (sp := fun w => Pf.sp_law _) rfl (by decide) rfl ⟨rfl, by decide, by decide⟩ (fun w h Y => PySem.W.kIn_of Y) ?F (fun _ _ a ns hl _ hS => ⟨a, ns, rfl, hS, hl, fun _ => rfl⟩) (fun _ _ _ _ _ h => h)
  case F =>
    intro w mg fa h KX G hmg
    refine' Pf.all_mk KX G hmg ?aC_MeshError ?aC_NotAMesh ?aC_Mesh ?a1 ?l1 ?c1 ?k1 ?a2 ?l2 ?c2 ?k2 ?a3 ?l3 ?c3 ?k3 ?a4 ?i4 ?l4 ?c4 ?k4 ?a5 ?i5 ?l5 ?c5 ?k5 ?a6 ?i6 ?l6 ?c6 ?k6 ?a7 ?i7 ?l7 ?c7 ?k7 ?a8 ?i8 ?l8 ?c8 ?k8 ?a9 ?i9 ?l9 ?c9 ?k9 ?a10 ?i10 ?l10 ?c10 ?k10 ?a11 ?i11 ?l11 ?c11 ?k11 ?a12 ?i12 ?l12 ?c12 ?k12 ?a13 ?i13 ?l13 ?c13 ?k13 ?a14 ?i14 ?l14 ?c14 ?k14 ?a15 ?l15 ?c15 ?k15 ?a16 ?l16 ?c16 ?k16 ?a17 ?l17 ?c17 ?k17 ?a18 ?l18 ?c18 ?k18 ?a19 ?l19 ?c19 ?k19 ?a20 ?l20 ?c20 ?k20 ?a21 ?l21 ?c21 ?k21 ?a22 ?l22 ?c22 ?k22 ?a23 ?l23 ?c23 ?k23 ?a24 ?l24 ?c24 ?k24 ?a25 ?l25 ?c25 ?k25 ?pg_Mesh ?hd_Mesh ?po_Mesh ?sa_Mesh ?mk_Mesh ?kc_Mesh ?hn_Mesh_following ?hn_Mesh_preceding ?hz_abs ?hz_all ?hz_bool ?hz_enumerate ?hz_int ?hz_isinstance ?hz_len ?hz_list ?hz_min ?hz_range ?hz_sorted
    (case aC_MeshError => k_is)
    (case aC_NotAMesh => k_is)
    (case aC_Mesh => k_is)
    (case a1 => k_is)
    (case l1 => k_is)
    (case c1 => k_is)
    (case k1 => k_is)
    (case a2 => k_is)
    (case l2 => k_is)
    (case c2 => k_is)
    (case k2 => k_is)
    (case a3 => k_is)
    (case l3 => k_is)
    (case c3 => k_is)
    (case k3 => k_is)
    (case a4 => k_is)
    (case i4 => k_is)
    (case l4 => k_is)
    (case c4 => k_is)
    (case k4 => k_is)
    (case a5 => k_is)
    (case i5 => k_is)
    (case l5 => k_is)
    (case c5 => k_is)
    (case k5 => k_is)
    (case a6 => k_is)
    (case i6 => k_is)
    (case l6 => k_is)
    (case c6 => k_is)
    (case k6 => k_is)
    (case a7 => k_is)
    (case i7 => k_is)
    (case l7 => k_is)
    (case c7 => k_is)
    (case k7 => k_is)
    (case a8 => k_is)
    (case i8 => k_is)
    (case l8 => k_is)
    (case c8 => k_is)
    (case k8 => k_is)
    (case a9 => k_is)
    (case i9 => k_is)
    (case l9 => k_is)
    (case c9 => k_is)
    (case k9 => k_is)
    (case a10 => k_is)
    (case i10 => k_is)
    (case l10 => k_is)
    (case c10 => k_is)
    (case k10 => k_is)
    (case a11 => k_is)
    (case i11 => k_is)
    (case l11 => k_is)
    (case c11 => k_is)
    (case k11 => k_is)
    (case a12 => k_is)
    (case i12 => k_is)
    (case l12 => k_is)
    (case c12 => k_is)
    (case k12 => k_is)
    (case a13 => k_is)
    (case i13 => k_is)
    (case l13 => k_is)
    (case c13 => k_is)
    (case k13 => k_is)
    (case a14 => k_is)
    (case i14 => k_is)
    (case l14 => k_is)
    (case c14 => k_is)
    (case k14 => k_is)
    (case a15 => k_is)
    (case l15 => k_is)
    (case c15 => k_is)
    (case k15 => k_is)
    (case a16 => k_is)
    (case l16 => k_is)
    (case c16 => k_is)
    (case k16 => k_is)
    (case a17 => k_is)
    (case l17 => k_is)
    (case c17 => k_is)
    (case k17 => k_is)
    (case a18 => k_is)
    (case l18 => k_is)
    (case c18 => k_is)
    (case k18 => k_is)
    (case a19 => k_is)
    (case l19 => k_is)
    (case c19 => k_is)
    (case k19 => k_is)
    (case a20 => k_is)
    (case l20 => k_is)
    (case c20 => k_is)
    (case k20 => k_is)
    (case a21 => k_is)
    (case l21 => k_is)
    (case c21 => k_is)
    (case k21 => k_is)
    (case a22 => k_is)
    (case l22 => k_is)
    (case c22 => k_is)
    (case k22 => k_is)
    (case a23 => k_is)
    (case l23 => k_is)
    (case c23 => k_is)
    (case k23 => k_is)
    (case a24 => k_is)
    (case l24 => k_is)
    (case c24 => k_is)
    (case k24 => k_is)
    (case a25 => k_is)
    (case l25 => k_is)
    (case c25 => k_is)
    (case k25 => k_is)
    (case pg_Mesh => k_is)
    (case hd_Mesh => k_is)
    (case po_Mesh => k_is)
    (case sa_Mesh => k_is)
    (case mk_Mesh => k_is)
    (case kc_Mesh => k_is)
    (case hn_Mesh_following => k_is)
    (case hn_Mesh_preceding => k_is)
    (case hz_abs => k_is)
    (case hz_all => k_is)
    (case hz_bool => k_is)
    (case hz_enumerate => k_is)
    (case hz_int => k_is)
    (case hz_isinstance => k_is)
    (case hz_len => k_is)
    (case hz_list => k_is)
    (case hz_min => k_is)
    (case hz_range => k_is)
    (case hz_sorted => k_is)
